import PyProof.Rows.All
import Wide.All
import OpenK.AllK
import Wide.FinOn
import PySem.Challenge.RW_pf0067_01
open PySem PySem.W PyProof.Rows
set_option linter.all false
set_option Elab.async false
set_option maxRecDepth 100000
set_option genSizeOf false
set_option genInjectivity false
set_option bootstrap.genMatcherCode false
set_option genCtorIdx false
namespace Mine.Internal
theorem iJ {G:Prop}(k:∀gG:Prop,(G→gG)→gG):G:=k G id
theorem aG {p0 p1:Prop}{G:Prop}(h:p0∧p1)(k:p0→p1→G):G:=k h.1 h.2
theorem iK {p0 p1 p2:Prop}{G:Prop}(h:p0∧p1∧p2)(k:p0→p1→p2→G):G:=k h.1 h.2.1 h.2.2
theorem yU {p0 p1 p2 p3:Prop}{G:Prop}(h:p0∧p1∧p2∧p3)(k:p0→p1→p2→p3→G):G:=k h.1 h.2.1 h.2.2.1 h.2.2.2
theorem XT {p0 p1 p2 p3 p4:Prop}{G:Prop}(h:p0∧p1∧p2∧p3∧p4)(k:p0→p1→p2→p3→p4→G):G:=k h.1 h.2.1 h.2.2.1 h.2.2.2.1 h.2.2.2.2
theorem adR {p0 p1 p2 p3 p4 p5 p6 p7:Prop}{G:Prop}(h:p0∧p1∧p2∧p3∧p4∧p5∧p6∧p7)(k:p0→p1→p2→p3→p4→p5→p6→p7→G):G:=k h.1 h.2.1 h.2.2.1 h.2.2.2.1 h.2.2.2.2.1 h.2.2.2.2.2.1 h.2.2.2.2.2.2.1 h.2.2.2.2.2.2.2
theorem aT {α0:Type}{p0:α0→Prop}{G:Prop}(h:∃x0,p0 x0)(k:∀x0,p0 x0→G):G:=h.elim fun x0 h=>k x0 h
theorem aD {α0:Type}{p0 p1:α0→Prop}{G:Prop}(h:∃x0,p0 x0∧p1 x0)(k:∀x0,p0 x0→p1 x0→G):G:=h.elim fun x0 h=>k x0 h.1 h.2
theorem iA {α0:Type}{p0 p1 p2:α0→Prop}{G:Prop}(h:∃x0,p0 x0∧p1 x0∧p2 x0)(k:∀x0,p0 x0→p1 x0→p2 x0→G):G:=h.elim fun x0 h=>k x0 h.1 h.2.1 h.2.2
theorem XU {α0:Type}{p0 p1 p2 p3:α0→Prop}{G:Prop}(h:∃x0,p0 x0∧p1 x0∧p2 x0∧p3 x0)(k:∀x0,p0 x0→p1 x0→p2 x0→p3 x0→G):G:=h.elim fun x0 h=>k x0 h.1 h.2.1 h.2.2.1 h.2.2.2
theorem XV {α0:Type}{p0 p1 p2 p3 p4:α0→Prop}{G:Prop}(h:∃x0,p0 x0∧p1 x0∧p2 x0∧p3 x0∧p4 x0)(k:∀x0,p0 x0→p1 x0→p2 x0→p3 x0→p4 x0→G):G:=h.elim fun x0 h=>k x0 h.1 h.2.1 h.2.2.1 h.2.2.2.1 h.2.2.2.2
theorem bD {α0 α1:Type}{p0:α0→α1→Prop}{G:Prop}(h:∃x0 x1,p0 x0 x1)(k:∀x0 x1,p0 x0 x1→G):G:=h.elim fun x0 h=>h.elim fun x1 h=>k x0 x1 h
theorem dI {α0 α1:Type}{p0 p1:α0→α1→Prop}{G:Prop}(h:∃x0 x1,p0 x0 x1∧p1 x0 x1)(k:∀x0 x1,p0 x0 x1→p1 x0 x1→G):G:=h.elim fun x0 h=>h.elim fun x1 h=>k x0 x1 h.1 h.2
theorem bY {α0 α1:Type}{p0 p1 p2:α0→α1→Prop}{G:Prop}(h:∃x0 x1,p0 x0 x1∧p1 x0 x1∧p2 x0 x1)(k:∀x0 x1,p0 x0 x1→p1 x0 x1→p2 x0 x1→G):G:=h.elim fun x0 h=>h.elim fun x1 h=>k x0 x1 h.1 h.2.1 h.2.2
theorem JW {α0 α1:Type}{p0 p1 p2 p3:α0→α1→Prop}{G:Prop}(h:∃x0 x1,p0 x0 x1∧p1 x0 x1∧p2 x0 x1∧p3 x0 x1)(k:∀x0 x1,p0 x0 x1→p1 x0 x1→p2 x0 x1→p3 x0 x1→G):G:=h.elim fun x0 h=>h.elim fun x1 h=>k x0 x1 h.1 h.2.1 h.2.2.1 h.2.2.2
theorem mF {α0 α1:Type}{p0 p1 p2 p3 p4:α0→α1→Prop}{G:Prop}(h:∃x0 x1,p0 x0 x1∧p1 x0 x1∧p2 x0 x1∧p3 x0 x1∧p4 x0 x1)(k:∀x0 x1,p0 x0 x1→p1 x0 x1→p2 x0 x1→p3 x0 x1→p4 x0 x1→G):G:=h.elim fun x0 h=>h.elim fun x1 h=>k x0 x1 h.1 h.2.1 h.2.2.1 h.2.2.2.1 h.2.2.2.2
theorem JX {α0 α1:Type}{p0 p1 p2 p3 p4 p5:α0→α1→Prop}{G:Prop}(h:∃x0 x1,p0 x0 x1∧p1 x0 x1∧p2 x0 x1∧p3 x0 x1∧p4 x0 x1∧p5 x0 x1)(k:∀x0 x1,p0 x0 x1→p1 x0 x1→p2 x0 x1→p3 x0 x1→p4 x0 x1→p5 x0 x1→G):G:=h.elim fun x0 h=>h.elim fun x1 h=>k x0 x1 h.1 h.2.1 h.2.2.1 h.2.2.2.1 h.2.2.2.2.1 h.2.2.2.2.2
theorem adS {α0 α1:Type}{p0 p1 p2 p3 p4 p5 p6 p7:α0→α1→Prop}{G:Prop}(h:∃x0 x1,p0 x0 x1∧p1 x0 x1∧p2 x0 x1∧p3 x0 x1∧p4 x0 x1∧p5 x0 x1∧p6 x0 x1∧p7 x0 x1)(k:∀x0 x1,p0 x0 x1→p1 x0 x1→p2 x0 x1→p3 x0 x1→p4 x0 x1→p5 x0 x1→p6 x0 x1→p7 x0 x1→G):G:=h.elim fun x0 h=>h.elim fun x1 h=>k x0 x1 h.1 h.2.1 h.2.2.1 h.2.2.2.1 h.2.2.2.2.1 h.2.2.2.2.2.1 h.2.2.2.2.2.2.1 h.2.2.2.2.2.2.2
theorem nK {α0 α1 α2:Type}{p0:α0→α1→α2→Prop}{G:Prop}(h:∃x0 x1 x2,p0 x0 x1 x2)(k:∀x0 x1 x2,p0 x0 x1 x2→G):G:=h.elim fun x0 h=>h.elim fun x1 h=>h.elim fun x2 h=>k x0 x1 x2 h
theorem mG {α0 α1 α2:Type}{p0 p1:α0→α1→α2→Prop}{G:Prop}(h:∃x0 x1 x2,p0 x0 x1 x2∧p1 x0 x1 x2)(k:∀x0 x1 x2,p0 x0 x1 x2→p1 x0 x1 x2→G):G:=h.elim fun x0 h=>h.elim fun x1 h=>h.elim fun x2 h=>k x0 x1 x2 h.1 h.2
theorem eP {α0 α1 α2:Type}{p0 p1 p2:α0→α1→α2→Prop}{G:Prop}(h:∃x0 x1 x2,p0 x0 x1 x2∧p1 x0 x1 x2∧p2 x0 x1 x2)(k:∀x0 x1 x2,p0 x0 x1 x2→p1 x0 x1 x2→p2 x0 x1 x2→G):G:=h.elim fun x0 h=>h.elim fun x1 h=>h.elim fun x2 h=>k x0 x1 x2 h.1 h.2.1 h.2.2
theorem sK {α0 α1 α2:Type}{p0 p1 p2 p3:α0→α1→α2→Prop}{G:Prop}(h:∃x0 x1 x2,p0 x0 x1 x2∧p1 x0 x1 x2∧p2 x0 x1 x2∧p3 x0 x1 x2)(k:∀x0 x1 x2,p0 x0 x1 x2→p1 x0 x1 x2→p2 x0 x1 x2→p3 x0 x1 x2→G):G:=h.elim fun x0 h=>h.elim fun x1 h=>h.elim fun x2 h=>k x0 x1 x2 h.1 h.2.1 h.2.2.1 h.2.2.2
theorem sL {α0 α1 α2:Type}{p0 p1 p2 p3 p4:α0→α1→α2→Prop}{G:Prop}(h:∃x0 x1 x2,p0 x0 x1 x2∧p1 x0 x1 x2∧p2 x0 x1 x2∧p3 x0 x1 x2∧p4 x0 x1 x2)(k:∀x0 x1 x2,p0 x0 x1 x2→p1 x0 x1 x2→p2 x0 x1 x2→p3 x0 x1 x2→p4 x0 x1 x2→G):G:=h.elim fun x0 h=>h.elim fun x1 h=>h.elim fun x2 h=>k x0 x1 x2 h.1 h.2.1 h.2.2.1 h.2.2.2.1 h.2.2.2.2
theorem XW {α0 α1 α2:Type}{p0 p1 p2 p3 p4 p5:α0→α1→α2→Prop}{G:Prop}(h:∃x0 x1 x2,p0 x0 x1 x2∧p1 x0 x1 x2∧p2 x0 x1 x2∧p3 x0 x1 x2∧p4 x0 x1 x2∧p5 x0 x1 x2)(k:∀x0 x1 x2,p0 x0 x1 x2→p1 x0 x1 x2→p2 x0 x1 x2→p3 x0 x1 x2→p4 x0 x1 x2→p5 x0 x1 x2→G):G:=h.elim fun x0 h=>h.elim fun x1 h=>h.elim fun x2 h=>k x0 x1 x2 h.1 h.2.1 h.2.2.1 h.2.2.2.1 h.2.2.2.2.1 h.2.2.2.2.2
theorem adT {α0 α1 α2:Type}{p0 p1 p2 p3 p4 p5 p6:α0→α1→α2→Prop}{G:Prop}(h:∃x0 x1 x2,p0 x0 x1 x2∧p1 x0 x1 x2∧p2 x0 x1 x2∧p3 x0 x1 x2∧p4 x0 x1 x2∧p5 x0 x1 x2∧p6 x0 x1 x2)(k:∀x0 x1 x2,p0 x0 x1 x2→p1 x0 x1 x2→p2 x0 x1 x2→p3 x0 x1 x2→p4 x0 x1 x2→p5 x0 x1 x2→p6 x0 x1 x2→G):G:=h.elim fun x0 h=>h.elim fun x1 h=>h.elim fun x2 h=>k x0 x1 x2 h.1 h.2.1 h.2.2.1 h.2.2.2.1 h.2.2.2.2.1 h.2.2.2.2.2.1 h.2.2.2.2.2.2
theorem JY {α0 α1 α2 α3:Type}{p0:α0→α1→α2→α3→Prop}{G:Prop}(h:∃x0 x1 x2 x3,p0 x0 x1 x2 x3)(k:∀x0 x1 x2 x3,p0 x0 x1 x2 x3→G):G:=h.elim fun x0 h=>h.elim fun x1 h=>h.elim fun x2 h=>h.elim fun x3 h=>k x0 x1 x2 x3 h
theorem adU {α0 α1 α2 α3:Type}{p0 p1:α0→α1→α2→α3→Prop}{G:Prop}(h:∃x0 x1 x2 x3,p0 x0 x1 x2 x3∧p1 x0 x1 x2 x3)(k:∀x0 x1 x2 x3,p0 x0 x1 x2 x3→p1 x0 x1 x2 x3→G):G:=h.elim fun x0 h=>h.elim fun x1 h=>h.elim fun x2 h=>h.elim fun x3 h=>k x0 x1 x2 x3 h.1 h.2
theorem JZ {α0 α1 α2 α3:Type}{p0 p1 p2:α0→α1→α2→α3→Prop}{G:Prop}(h:∃x0 x1 x2 x3,p0 x0 x1 x2 x3∧p1 x0 x1 x2 x3∧p2 x0 x1 x2 x3)(k:∀x0 x1 x2 x3,p0 x0 x1 x2 x3→p1 x0 x1 x2 x3→p2 x0 x1 x2 x3→G):G:=h.elim fun x0 h=>h.elim fun x1 h=>h.elim fun x2 h=>h.elim fun x3 h=>k x0 x1 x2 x3 h.1 h.2.1 h.2.2
theorem uS {α0 α1 α2 α3:Type}{p0 p1 p2 p3:α0→α1→α2→α3→Prop}{G:Prop}(h:∃x0 x1 x2 x3,p0 x0 x1 x2 x3∧p1 x0 x1 x2 x3∧p2 x0 x1 x2 x3∧p3 x0 x1 x2 x3)(k:∀x0 x1 x2 x3,p0 x0 x1 x2 x3→p1 x0 x1 x2 x3→p2 x0 x1 x2 x3→p3 x0 x1 x2 x3→G):G:=h.elim fun x0 h=>h.elim fun x1 h=>h.elim fun x2 h=>h.elim fun x3 h=>k x0 x1 x2 x3 h.1 h.2.1 h.2.2.1 h.2.2.2
theorem qZ {α0 α1 α2 α3:Type}{p0 p1 p2 p3 p4:α0→α1→α2→α3→Prop}{G:Prop}(h:∃x0 x1 x2 x3,p0 x0 x1 x2 x3∧p1 x0 x1 x2 x3∧p2 x0 x1 x2 x3∧p3 x0 x1 x2 x3∧p4 x0 x1 x2 x3)(k:∀x0 x1 x2 x3,p0 x0 x1 x2 x3→p1 x0 x1 x2 x3→p2 x0 x1 x2 x3→p3 x0 x1 x2 x3→p4 x0 x1 x2 x3→G):G:=h.elim fun x0 h=>h.elim fun x1 h=>h.elim fun x2 h=>h.elim fun x3 h=>k x0 x1 x2 x3 h.1 h.2.1 h.2.2.1 h.2.2.2.1 h.2.2.2.2
theorem KA {α0 α1 α2 α3:Type}{p0 p1 p2 p3 p4 p5 p6:α0→α1→α2→α3→Prop}{G:Prop}(h:∃x0 x1 x2 x3,p0 x0 x1 x2 x3∧p1 x0 x1 x2 x3∧p2 x0 x1 x2 x3∧p3 x0 x1 x2 x3∧p4 x0 x1 x2 x3∧p5 x0 x1 x2 x3∧p6 x0 x1 x2 x3)(k:∀x0 x1 x2 x3,p0 x0 x1 x2 x3→p1 x0 x1 x2 x3→p2 x0 x1 x2 x3→p3 x0 x1 x2 x3→p4 x0 x1 x2 x3→p5 x0 x1 x2 x3→p6 x0 x1 x2 x3→G):G:=h.elim fun x0 h=>h.elim fun x1 h=>h.elim fun x2 h=>h.elim fun x3 h=>k x0 x1 x2 x3 h.1 h.2.1 h.2.2.1 h.2.2.2.1 h.2.2.2.2.1 h.2.2.2.2.2.1 h.2.2.2.2.2.2
theorem adV {α0 α1 α2 α3 α4:Type}{p0:α0→α1→α2→α3→α4→Prop}{G:Prop}(h:∃x0 x1 x2 x3 x4,p0 x0 x1 x2 x3 x4)(k:∀x0 x1 x2 x3 x4,p0 x0 x1 x2 x3 x4→G):G:=h.elim fun x0 h=>h.elim fun x1 h=>h.elim fun x2 h=>h.elim fun x3 h=>h.elim fun x4 h=>k x0 x1 x2 x3 x4 h
theorem adW {α0 α1 α2 α3 α4:Type}{p0 p1 p2:α0→α1→α2→α3→α4→Prop}{G:Prop}(h:∃x0 x1 x2 x3 x4,p0 x0 x1 x2 x3 x4∧p1 x0 x1 x2 x3 x4∧p2 x0 x1 x2 x3 x4)(k:∀x0 x1 x2 x3 x4,p0 x0 x1 x2 x3 x4→p1 x0 x1 x2 x3 x4→p2 x0 x1 x2 x3 x4→G):G:=h.elim fun x0 h=>h.elim fun x1 h=>h.elim fun x2 h=>h.elim fun x3 h=>h.elim fun x4 h=>k x0 x1 x2 x3 x4 h.1 h.2.1 h.2.2
theorem adX {α0 α1 α2 α3 α4:Type}{p0 p1 p2 p3:α0→α1→α2→α3→α4→Prop}{G:Prop}(h:∃x0 x1 x2 x3 x4,p0 x0 x1 x2 x3 x4∧p1 x0 x1 x2 x3 x4∧p2 x0 x1 x2 x3 x4∧p3 x0 x1 x2 x3 x4)(k:∀x0 x1 x2 x3 x4,p0 x0 x1 x2 x3 x4→p1 x0 x1 x2 x3 x4→p2 x0 x1 x2 x3 x4→p3 x0 x1 x2 x3 x4→G):G:=h.elim fun x0 h=>h.elim fun x1 h=>h.elim fun x2 h=>h.elim fun x3 h=>h.elim fun x4 h=>k x0 x1 x2 x3 x4 h.1 h.2.1 h.2.2.1 h.2.2.2
theorem adY {α0 α1 α2 α3 α4:Type}{p0 p1 p2 p3 p4:α0→α1→α2→α3→α4→Prop}{G:Prop}(h:∃x0 x1 x2 x3 x4,p0 x0 x1 x2 x3 x4∧p1 x0 x1 x2 x3 x4∧p2 x0 x1 x2 x3 x4∧p3 x0 x1 x2 x3 x4∧p4 x0 x1 x2 x3 x4)(k:∀x0 x1 x2 x3 x4,p0 x0 x1 x2 x3 x4→p1 x0 x1 x2 x3 x4→p2 x0 x1 x2 x3 x4→p3 x0 x1 x2 x3 x4→p4 x0 x1 x2 x3 x4→G):G:=h.elim fun x0 h=>h.elim fun x1 h=>h.elim fun x2 h=>h.elim fun x3 h=>h.elim fun x4 h=>k x0 x1 x2 x3 x4 h.1 h.2.1 h.2.2.1 h.2.2.2.1 h.2.2.2.2
theorem adZ {α0 α1 α2 α3 α4:Type}{p0 p1 p2 p3 p4 p5:α0→α1→α2→α3→α4→Prop}{G:Prop}(h:∃x0 x1 x2 x3 x4,p0 x0 x1 x2 x3 x4∧p1 x0 x1 x2 x3 x4∧p2 x0 x1 x2 x3 x4∧p3 x0 x1 x2 x3 x4∧p4 x0 x1 x2 x3 x4∧p5 x0 x1 x2 x3 x4)(k:∀x0 x1 x2 x3 x4,p0 x0 x1 x2 x3 x4→p1 x0 x1 x2 x3 x4→p2 x0 x1 x2 x3 x4→p3 x0 x1 x2 x3 x4→p4 x0 x1 x2 x3 x4→p5 x0 x1 x2 x3 x4→G):G:=h.elim fun x0 h=>h.elim fun x1 h=>h.elim fun x2 h=>h.elim fun x3 h=>h.elim fun x4 h=>k x0 x1 x2 x3 x4 h.1 h.2.1 h.2.2.1 h.2.2.2.1 h.2.2.2.2.1 h.2.2.2.2.2
theorem BD {α0 α1 α2 α3 α4:Type}{p0 p1 p2 p3 p4 p5 p6 p7 p8 p9:α0→α1→α2→α3→α4→Prop}{G:Prop}(h:∃x0 x1 x2 x3 x4,p0 x0 x1 x2 x3 x4∧p1 x0 x1 x2 x3 x4∧p2 x0 x1 x2 x3 x4∧p3 x0 x1 x2 x3 x4∧p4 x0 x1 x2 x3 x4∧p5 x0 x1 x2 x3 x4∧p6 x0 x1 x2 x3 x4∧p7 x0 x1 x2 x3 x4∧p8 x0 x1 x2 x3 x4∧p9 x0 x1 x2 x3 x4)(k:∀x0 x1 x2 x3 x4,p0 x0 x1 x2 x3 x4→p1 x0 x1 x2 x3 x4→p2 x0 x1 x2 x3 x4→p3 x0 x1 x2 x3 x4→p4 x0 x1 x2 x3 x4→p5 x0 x1 x2 x3 x4→p6 x0 x1 x2 x3 x4→p7 x0 x1 x2 x3 x4→p8 x0 x1 x2 x3 x4→p9 x0 x1 x2 x3 x4→G):G:=h.elim fun x0 h=>h.elim fun x1 h=>h.elim fun x2 h=>h.elim fun x3 h=>h.elim fun x4 h=>k x0 x1 x2 x3 x4 h.1 h.2.1 h.2.2.1 h.2.2.2.1 h.2.2.2.2.1 h.2.2.2.2.2.1 h.2.2.2.2.2.2.1 h.2.2.2.2.2.2.2.1 h.2.2.2.2.2.2.2.2.1 h.2.2.2.2.2.2.2.2.2
theorem ad0 {α0 α1 α2 α3 α4 α5:Type}{p0 p1 p2 p3:α0→α1→α2→α3→α4→α5→Prop}{G:Prop}(h:∃x0 x1 x2 x3 x4 x5,p0 x0 x1 x2 x3 x4 x5∧p1 x0 x1 x2 x3 x4 x5∧p2 x0 x1 x2 x3 x4 x5∧p3 x0 x1 x2 x3 x4 x5)(k:∀x0 x1 x2 x3 x4 x5,p0 x0 x1 x2 x3 x4 x5→p1 x0 x1 x2 x3 x4 x5→p2 x0 x1 x2 x3 x4 x5→p3 x0 x1 x2 x3 x4 x5→G):G:=h.elim fun x0 h=>h.elim fun x1 h=>h.elim fun x2 h=>h.elim fun x3 h=>h.elim fun x4 h=>h.elim fun x5 h=>k x0 x1 x2 x3 x4 x5 h.1 h.2.1 h.2.2.1 h.2.2.2
theorem XX {α0 α1 α2 α3 α4 α5 α6:Type}{p0 p1 p2 p3 p4:α0→α1→α2→α3→α4→α5→α6→Prop}{G:Prop}(h:∃x0 x1 x2 x3 x4 x5 x6,p0 x0 x1 x2 x3 x4 x5 x6∧p1 x0 x1 x2 x3 x4 x5 x6∧p2 x0 x1 x2 x3 x4 x5 x6∧p3 x0 x1 x2 x3 x4 x5 x6∧p4 x0 x1 x2 x3 x4 x5 x6)(k:∀x0 x1 x2 x3 x4 x5 x6,p0 x0 x1 x2 x3 x4 x5 x6→p1 x0 x1 x2 x3 x4 x5 x6→p2 x0 x1 x2 x3 x4 x5 x6→p3 x0 x1 x2 x3 x4 x5 x6→p4 x0 x1 x2 x3 x4 x5 x6→G):G:=h.elim fun x0 h=>h.elim fun x1 h=>h.elim fun x2 h=>h.elim fun x3 h=>h.elim fun x4 h=>h.elim fun x5 h=>h.elim fun x6 h=>k x0 x1 x2 x3 x4 x5 x6 h.1 h.2.1 h.2.2.1 h.2.2.2.1 h.2.2.2.2
theorem ad1 {α0 α1 α2 α3 α4 α5 α6 α7 α8:Type}{p0:α0→α1→α2→α3→α4→α5→α6→α7→α8→Prop}{G:Prop}(h:∃x0 x1 x2 x3 x4 x5 x6 x7 x8,p0 x0 x1 x2 x3 x4 x5 x6 x7 x8)(k:∀x0 x1 x2 x3 x4 x5 x6 x7 x8,p0 x0 x1 x2 x3 x4 x5 x6 x7 x8→G):G:=h.elim fun x0 h=>h.elim fun x1 h=>h.elim fun x2 h=>h.elim fun x3 h=>h.elim fun x4 h=>h.elim fun x5 h=>h.elim fun x6 h=>h.elim fun x7 h=>h.elim fun x8 h=>k x0 x1 x2 x3 x4 x5 x6 x7 x8 h
theorem ad2 {α0 α1 α2 α3 α4 α5 α6 α7 α8:Type}{p0 p1:α0→α1→α2→α3→α4→α5→α6→α7→α8→Prop}{G:Prop}(h:∃x0 x1 x2 x3 x4 x5 x6 x7 x8,p0 x0 x1 x2 x3 x4 x5 x6 x7 x8∧p1 x0 x1 x2 x3 x4 x5 x6 x7 x8)(k:∀x0 x1 x2 x3 x4 x5 x6 x7 x8,p0 x0 x1 x2 x3 x4 x5 x6 x7 x8→p1 x0 x1 x2 x3 x4 x5 x6 x7 x8→G):G:=h.elim fun x0 h=>h.elim fun x1 h=>h.elim fun x2 h=>h.elim fun x3 h=>h.elim fun x4 h=>h.elim fun x5 h=>h.elim fun x6 h=>h.elim fun x7 h=>h.elim fun x8 h=>k x0 x1 x2 x3 x4 x5 x6 x7 x8 h.1 h.2
theorem ZM {α0 α1 α2 α3 α4 α5 α6 α7 α8 α9:Type}{p0 p1 p2 p3 p4 p5:α0→α1→α2→α3→α4→α5→α6→α7→α8→α9→Prop}{G:Prop}(h:∃x0 x1 x2 x3 x4 x5 x6 x7 x8 x9,p0 x0 x1 x2 x3 x4 x5 x6 x7 x8 x9∧p1 x0 x1 x2 x3 x4 x5 x6 x7 x8 x9∧p2 x0 x1 x2 x3 x4 x5 x6 x7 x8 x9∧p3 x0 x1 x2 x3 x4 x5 x6 x7 x8 x9∧p4 x0 x1 x2 x3 x4 x5 x6 x7 x8 x9∧p5 x0 x1 x2 x3 x4 x5 x6 x7 x8 x9)(k:∀x0 x1 x2 x3 x4 x5 x6 x7 x8 x9,p0 x0 x1 x2 x3 x4 x5 x6 x7 x8 x9→p1 x0 x1 x2 x3 x4 x5 x6 x7 x8 x9→p2 x0 x1 x2 x3 x4 x5 x6 x7 x8 x9→p3 x0 x1 x2 x3 x4 x5 x6 x7 x8 x9→p4 x0 x1 x2 x3 x4 x5 x6 x7 x8 x9→p5 x0 x1 x2 x3 x4 x5 x6 x7 x8 x9→G):G:=h.elim fun x0 h=>h.elim fun x1 h=>h.elim fun x2 h=>h.elim fun x3 h=>h.elim fun x4 h=>h.elim fun x5 h=>h.elim fun x6 h=>h.elim fun x7 h=>h.elim fun x8 h=>h.elim fun x9 h=>k x0 x1 x2 x3 x4 x5 x6 x7 x8 x9 h.1 h.2.1 h.2.2.1 h.2.2.2.1 h.2.2.2.2.1 h.2.2.2.2.2
theorem ZN {α0 α1 α2 α3 α4 α5 α6 α7 α8 α9 α10:Type}{p0 p1:α0→α1→α2→α3→α4→α5→α6→α7→α8→α9→α10→Prop}{G:Prop}(h:∃x0 x1 x2 x3 x4 x5 x6 x7 x8 x9 x10,p0 x0 x1 x2 x3 x4 x5 x6 x7 x8 x9 x10∧p1 x0 x1 x2 x3 x4 x5 x6 x7 x8 x9 x10)(k:∀x0 x1 x2 x3 x4 x5 x6 x7 x8 x9 x10,p0 x0 x1 x2 x3 x4 x5 x6 x7 x8 x9 x10→p1 x0 x1 x2 x3 x4 x5 x6 x7 x8 x9 x10→G):G:=h.elim fun x0 h=>h.elim fun x1 h=>h.elim fun x2 h=>h.elim fun x3 h=>h.elim fun x4 h=>h.elim fun x5 h=>h.elim fun x6 h=>h.elim fun x7 h=>h.elim fun x8 h=>h.elim fun x9 h=>h.elim fun x10 h=>k x0 x1 x2 x3 x4 x5 x6 x7 x8 x9 x10 h.1 h.2
theorem ZO {α0 α1 α2 α3 α4 α5 α6 α7 α8 α9 α10 α11:Type}{p0 p1:α0→α1→α2→α3→α4→α5→α6→α7→α8→α9→α10→α11→Prop}{G:Prop}(h:∃x0 x1 x2 x3 x4 x5 x6 x7 x8 x9 x10 x11,p0 x0 x1 x2 x3 x4 x5 x6 x7 x8 x9 x10 x11∧p1 x0 x1 x2 x3 x4 x5 x6 x7 x8 x9 x10 x11)(k:∀x0 x1 x2 x3 x4 x5 x6 x7 x8 x9 x10 x11,p0 x0 x1 x2 x3 x4 x5 x6 x7 x8 x9 x10 x11→p1 x0 x1 x2 x3 x4 x5 x6 x7 x8 x9 x10 x11→G):G:=h.elim fun x0 h=>h.elim fun x1 h=>h.elim fun x2 h=>h.elim fun x3 h=>h.elim fun x4 h=>h.elim fun x5 h=>h.elim fun x6 h=>h.elim fun x7 h=>h.elim fun x8 h=>h.elim fun x9 h=>h.elim fun x10 h=>h.elim fun x11 h=>k x0 x1 x2 x3 x4 x5 x6 x7 x8 x9 x10 x11 h.1 h.2
theorem wH {α0 α1 α2 α3 α4 α5 α6 α7 α8 α9 α10 α11 α12:Type}{p0:α0→α1→α2→α3→α4→α5→α6→α7→α8→α9→α10→α11→α12→Prop}{G:Prop}(h:∃x0 x1 x2 x3 x4 x5 x6 x7 x8 x9 x10 x11 x12,p0 x0 x1 x2 x3 x4 x5 x6 x7 x8 x9 x10 x11 x12)(k:∀x0 x1 x2 x3 x4 x5 x6 x7 x8 x9 x10 x11 x12,p0 x0 x1 x2 x3 x4 x5 x6 x7 x8 x9 x10 x11 x12→G):G:=h.elim fun x0 h=>h.elim fun x1 h=>h.elim fun x2 h=>h.elim fun x3 h=>h.elim fun x4 h=>h.elim fun x5 h=>h.elim fun x6 h=>h.elim fun x7 h=>h.elim fun x8 h=>h.elim fun x9 h=>h.elim fun x10 h=>h.elim fun x11 h=>h.elim fun x12 h=>k x0 x1 x2 x3 x4 x5 x6 x7 x8 x9 x10 x11 x12 h
theorem bW {α0 α1:Type}{p:α0→α1→Prop}(x0:α0)(x1:α1)(h:p x0 x1):∃x0 x1,p x0 x1:=⟨x0,x1,h⟩
theorem jU {α0 α1 α2:Type}{p:α0→α1→α2→Prop}(x0:α0)(x1:α1)(x2:α2)(h:p x0 x1 x2):∃x0 x1 x2,p x0 x1 x2:=⟨x0,x1,x2,h⟩
theorem EG {α0 α1 α2 α3:Type}{p:α0→α1→α2→α3→Prop}(x0:α0)(x1:α1)(x2:α2)(x3:α3)(h:p x0 x1 x2 x3):∃x0 x1 x2 x3,p x0 x1 x2 x3:=⟨x0,x1,x2,x3,h⟩
theorem ei5 {α0 α1 α2 α3 α4:Type}{p:α0→α1→α2→α3→α4→Prop}(x0:α0)(x1:α1)(x2:α2)(x3:α3)(x4:α4)(h:p x0 x1 x2 x3 x4):∃x0 x1 x2 x3 x4,p x0 x1 x2 x3 x4:=⟨x0,x1,x2,x3,x4,h⟩
theorem ei6 {α0 α1 α2 α3 α4 α5:Type}{p:α0→α1→α2→α3→α4→α5→Prop}(x0:α0)(x1:α1)(x2:α2)(x3:α3)(x4:α4)(x5:α5)(h:p x0 x1 x2 x3 x4 x5):∃x0 x1 x2 x3 x4 x5,p x0 x1 x2 x3 x4 x5:=⟨x0,x1,x2,x3,x4,x5,h⟩
theorem ei7 {α0 α1 α2 α3 α4 α5 α6:Type}{p:α0→α1→α2→α3→α4→α5→α6→Prop}(x0:α0)(x1:α1)(x2:α2)(x3:α3)(x4:α4)(x5:α5)(x6:α6)(h:p x0 x1 x2 x3 x4 x5 x6):∃x0 x1 x2 x3 x4 x5 x6,p x0 x1 x2 x3 x4 x5 x6:=⟨x0,x1,x2,x3,x4,x5,x6,h⟩
theorem ei8 {α0 α1 α2 α3 α4 α5 α6 α7:Type}{p:α0→α1→α2→α3→α4→α5→α6→α7→Prop}(x0:α0)(x1:α1)(x2:α2)(x3:α3)(x4:α4)(x5:α5)(x6:α6)(x7:α7)(h:p x0 x1 x2 x3 x4 x5 x6 x7):∃x0 x1 x2 x3 x4 x5 x6 x7,p x0 x1 x2 x3 x4 x5 x6 x7:=⟨x0,x1,x2,x3,x4,x5,x6,x7,h⟩
theorem ei9 {α0 α1 α2 α3 α4 α5 α6 α7 α8:Type}{p:α0→α1→α2→α3→α4→α5→α6→α7→α8→Prop}(x0:α0)(x1:α1)(x2:α2)(x3:α3)(x4:α4)(x5:α5)(x6:α6)(x7:α7)(x8:α8)(h:p x0 x1 x2 x3 x4 x5 x6 x7 x8):∃x0 x1 x2 x3 x4 x5 x6 x7 x8,p x0 x1 x2 x3 x4 x5 x6 x7 x8:=⟨x0,x1,x2,x3,x4,x5,x6,x7,x8,h⟩
theorem anK {α0 α1 α2 α3 α4 α5 α6 α7 α8 α9:Type}{p:α0→α1→α2→α3→α4→α5→α6→α7→α8→α9→Prop}(x0:α0)(x1:α1)(x2:α2)(x3:α3)(x4:α4)(x5:α5)(x6:α6)(x7:α7)(x8:α8)(x9:α9)(h:p x0 x1 x2 x3 x4 x5 x6 x7 x8 x9):∃x0 x1 x2 x3 x4 x5 x6 x7 x8 x9,p x0 x1 x2 x3 x4 x5 x6 x7 x8 x9:=⟨x0,x1,x2,x3,x4,x5,x6,x7,x8,x9,h⟩
theorem anL {α0 α1 α2 α3 α4 α5 α6 α7 α8 α9 α10:Type}{p:α0→α1→α2→α3→α4→α5→α6→α7→α8→α9→α10→Prop}(x0:α0)(x1:α1)(x2:α2)(x3:α3)(x4:α4)(x5:α5)(x6:α6)(x7:α7)(x8:α8)(x9:α9)(x10:α10)(h:p x0 x1 x2 x3 x4 x5 x6 x7 x8 x9 x10):∃x0 x1 x2 x3 x4 x5 x6 x7 x8 x9 x10,p x0 x1 x2 x3 x4 x5 x6 x7 x8 x9 x10:=⟨x0,x1,x2,x3,x4,x5,x6,x7,x8,x9,x10,h⟩
theorem ad4 {α0 α1 α2 α3 α4 α5 α6 α7 α8 α9 α10 α11:Type}{p:α0→α1→α2→α3→α4→α5→α6→α7→α8→α9→α10→α11→Prop}(x0:α0)(x1:α1)(x2:α2)(x3:α3)(x4:α4)(x5:α5)(x6:α6)(x7:α7)(x8:α8)(x9:α9)(x10:α10)(x11:α11)(h:p x0 x1 x2 x3 x4 x5 x6 x7 x8 x9 x10 x11):∃x0 x1 x2 x3 x4 x5 x6 x7 x8 x9 x10 x11,p x0 x1 x2 x3 x4 x5 x6 x7 x8 x9 x10 x11:=⟨x0,x1,x2,x3,x4,x5,x6,x7,x8,x9,x10,x11,h⟩
theorem anM {α0 α1 α2 α3 α4 α5 α6 α7 α8 α9 α10 α11 α12:Type}{p:α0→α1→α2→α3→α4→α5→α6→α7→α8→α9→α10→α11→α12→Prop}(x0:α0)(x1:α1)(x2:α2)(x3:α3)(x4:α4)(x5:α5)(x6:α6)(x7:α7)(x8:α8)(x9:α9)(x10:α10)(x11:α11)(x12:α12)(h:p x0 x1 x2 x3 x4 x5 x6 x7 x8 x9 x10 x11 x12):∃x0 x1 x2 x3 x4 x5 x6 x7 x8 x9 x10 x11 x12,p x0 x1 x2 x3 x4 x5 x6 x7 x8 x9 x10 x11 x12:=⟨x0,x1,x2,x3,x4,x5,x6,x7,x8,x9,x10,x11,x12,h⟩
end Mine.Internal
set_option genInjectivity true
namespace Mine.Internal
set_option genCtorIdx true in
inductive V where
 |none
 |bool (b:Bool)
 |int (i:Int)
 |str (n:Nat)
 |tup (l:List V)
 |lst (l:List V)
 |dct (l:List (V×V))
noncomputable instance:DecidableEq V:=fun _ _=>Classical.propDecidable _
noncomputable def nms:List Str:=["num","sym","sum","prod","pow","call","exp","log","sqrt","sin","cos","tan","atan","abs","factorial","eq","list",
 "x","y","n","inf","minf","und","-inf","domain","limit","division by zero"]
noncomputable def nm (n:Nat):Str:=nms.getD n ""
abbrev Gh:=Addr→Obj→Prop
mutual
noncomputable def V.py:V→PyData
 |.int i=>.int i
 |.str n=>.str (nm n)
 |.tup l=>.tuple (V.pys l)
 |_=>.none
noncomputable def V.pys:List V→List PyData
 |[]=>[]
 |v::r=>V.py v::V.pys r
end
mutual
noncomputable def uT (P:Params):V→Int
 |.int i=>reduceHash (intHash i)
 |.str n=>PyData.keyHash P (nm n)
 |.tup l=>reduceHash (Builtin.Tuple.tupleHashOf (nR P l))
 |_=>0
noncomputable def nR (P:Params):List V→List Int
 |[]=>[]
 |v::r=>uT P v::nR P r
end
mutual
noncomputable def V.draws:V→Nat
 |.tup l=>V.drawss l+1
 |_=>1
noncomputable def V.drawss:List V→Nat
 |[]=>0
 |x::r=>V.draws x+V.drawss r
end
noncomputable def sM (f:V→Bool)(l:List V):Bool:=List.rec (motive:=fun _=>Bool) true (fun x _ ih=>cond (f x) ih false) l
noncomputable def jV (n:Nat):V→Bool:=Nat.rec (motive:=fun _=>V→Bool) (fun v=>match v with
  |.int _=>true
  |.str m=>Nat.blt m 27
  |_=>false) (fun _ ih v=>match v with
  |.int _=>true
  |.str m=>Nat.blt m 27
  |.tup l=>sM ih l
  |_=>false) n
noncomputable def cV (v:V):Bool:=match v with
 |.tup l=>sM (jV 6) l
 |_=>false
theorem mY {f:V→Bool}{x:V}{l:List V}(h:sM f (x::l)=true):f x=true∧sM f l=true:=by
 have h:cond (f x) (sM f l) false=true:=h
 cases e:f x with
 |true=>rw [e] at h;exact ⟨rfl,h⟩
 |false=>rw [e] at h;cases h
theorem kL {M:Nat→V→Prop}(hi:∀k i,M k (.int i))(hs:∀k n,n<27→M k (.str n))(ht:∀k l,(∀x∈l,M k x)→M (k+1) (.tup l)):∀k x,jV k x=true→M k x:=by
 have al:∀k,(∀x,jV k x=true→M k x)→∀l,sM (jV k) l=true→∀x∈l,M k x:=by
  intro k ih l
  induction l with
  |nil=>intro _ x hx;cases hx
  |cons y l ihl=>
   intro h x hx
   refine aG (mY h) fun h1 h2=>?_
   cases hx with
   |head=>exact ih _ h1
   |tail _ hx=>exact ihl h2 x hx
 intro k
 induction k with
 |zero=>
  intro x h
  cases x with
  |int i=>exact hi _ i
  |str n=>exact hs _ n (Nat.blt_eq.mp h)
  |_=>cases h
 |succ k ih=>
  intro x h
  cases x with
  |int i=>exact hi _ i
  |str n=>exact hs _ n (Nat.blt_eq.mp h)
  |tup l=>exact ht k l (al k ih l h)
  |_=>cases h
theorem jF {x:V}(h:cV x=true):jV 7 x=true∧∃l,x=.tup l:=by
 cases x with
 |tup l=>exact ⟨h,l,rfl⟩
 |_=>cases h
noncomputable abbrev yV (vs:List Value):Obj:={cls:=.type "tuple",data:=.seq vs.toArray}
noncomputable abbrev cH (vs:List Value) (n:Nat):Obj:={cls:=.type "list",data:=.seq vs.toArray n}
noncomputable abbrev cW (es:List DictEntry) (n:Nat):Obj:={cls:=.type "dict",data:=.dict es.toArray n}
mutual
noncomputable def EH (P:Params)(g:Gh):V→Value→Prop
 |.none,v=>v=.none
 |.bool b,v=>v=.bool b
 |.int i,v=>∃t,v=.int i t
 |.str n,v=>n<27∧∃t,v=.str (nm n) t
 |.tup l,v=>∃a vs,v=.ref a∧g a (yV vs)∧pE P g l vs
 |.lst l,v=>∃a vs n,v=.ref a∧g a (cH vs n)∧pE P g l vs
 |.dct l,v=>∃a es n,v=.ref a∧g a (cW es n)∧wI P g l es∧(l.map (·.1)).Nodup
noncomputable def pE (P:Params)(g:Gh):List V→List Value→Prop
 |[],vs=>vs=[]
 |x::l,vs=>∃v t,vs=v::t∧EH P g x v∧pE P g l t
noncomputable def wI (P:Params)(g:Gh):List (V×V)→List DictEntry→Prop
 |[],es=>es=[]
 |(k,x)::l,es=>∃b v t,es=⟨uT P k,.ref b,v⟩::t∧cV k=true∧EH P g k (.ref b)∧EH P g x v∧wI P g l t
end
abbrev Rp (P:Params) (g:Gh) (v:Value) (x:V):Prop:=EH P g x v
abbrev bP (P:Params) (g:Gh) (vs:List Value) (l:List V):Prop:=pE P g l vs
abbrev kY (P:Params) (g:Gh) (es:List DictEntry) (l:List (V×V)):Prop:=wI P g l es
section
variable {P:Params}{g g':Gh}{v:Value}{x:V}{vs ws:List Value}{l m:List V}{h:Heap}
theorem bP.nil:bP P g [] []:=rfl
theorem bP.cons (h:Rp P g v x)(r:bP P g vs l):bP P g (v::vs) (x::l):=(bW v vs ⟨rfl,h,r⟩)
theorem bP.length:∀{l vs},bP P g vs l→vs.length=l.length:=fun {l}=>by
 induction l with
 |nil=>intro vs h;cases h;rfl
 |cons x l ih=>rintro vs ⟨v,t,rfl,_,r⟩;exact congrArg (· +1) (ih r)
theorem bP.get:∀{l vs},bP P g vs l→∀{i:Nat} {x:V},l[i]? =some x→∃v,vs[i]? =some v∧Rp P g v x:=fun {l}=>by
 induction l with
 |nil=>intro vs _ i x h;cases h
 |cons y l ih=>
  rintro vs ⟨v,t,rfl,r1,r⟩ i x h
  cases i with
  |zero=>cases h;exact ⟨v,rfl,r1⟩
  |succ i=>exact ih r (i:=i) h
theorem bP.append (k:bP P g ws m):∀{l vs},bP P g vs l→bP P g (vs++ws) (l++m):=fun {l}=>by
 induction l with
 |nil=>intro vs h;cases h;exact k
 |cons x l ih=>rintro vs ⟨v,t,rfl,r1,r⟩;exact .cons r1 (ih r)
theorem bP.take:∀{l vs},bP P g vs l→∀n:Nat,bP P g (vs.take n) (l.take n):=fun {l}=>by
 induction l with
 |nil=>intro vs h n;cases h;refine (Eq.symm List.take_nil)▸?_;refine (Eq.symm List.take_nil)▸?_;rfl
 |cons x l ih=>
  rintro vs ⟨v,t,rfl,r1,r⟩ n
  cases n with
  |zero=>rfl
  |succ n=>exact .cons r1 (ih r n)
theorem bP.drop:∀{l vs},bP P g vs l→∀n:Nat,bP P g (vs.drop n) (l.drop n):=fun {l}=>by
 induction l with
 |nil=>intro vs h n;cases h;refine (Eq.symm List.drop_nil)▸?_;refine (Eq.symm List.drop_nil)▸?_;rfl
 |cons x l ih=>
  rintro vs ⟨v,t,rfl,r1,r⟩ n
  cases n with
  |zero=>exact .cons r1 r
  |succ n=>exact ih r n
theorem bP.replicate (h:Rp P g v x)(n:Nat):bP P g (List.replicate n v) (List.replicate n x):=by
 induction n with
 |zero=>rfl
 |succ n ih=>exact .cons h ih
theorem bP.set (k:Rp P g v x):∀{l vs},bP P g vs l→∀n:Nat,bP P g (vs.set n v) (l.set n x):=fun {l}=>by
 induction l with
 |nil=>intro vs h n;cases h;rfl
 |cons y l ih=>
  rintro vs ⟨u,t,rfl,r1,r⟩ n
  cases n with
  |zero=>exact .cons k r
  |succ n=>exact .cons r1 (ih r n)
mutual
theorem EH.mono (hk:∀a o,g a o→g' a o):∀(x:V) {v},EH P g x v→EH P g' x v
 |.none=>id
 |.bool _=>id
 |.int _=>id
 |.str _=>id
 |.tup l=>Exists.imp fun _=>Exists.imp fun _=>And.imp_right (And.imp (hk _ _) (pE.mono hk l))
 |.lst l=>Exists.imp fun _=>Exists.imp fun _=>Exists.imp fun _=>And.imp_right (And.imp (hk _ _) (pE.mono hk l))
 |.dct l=>Exists.imp fun _=>Exists.imp fun _=>Exists.imp fun _=>And.imp_right (And.imp (hk _ _) (And.imp_left (wI.mono hk l)))
theorem pE.mono (hk:∀a o,g a o→g' a o):∀(l:List V) {vs},pE P g l vs→pE P g' l vs
 |[]=>id
 |x::l=>Exists.imp fun _=>Exists.imp fun _=>And.imp_right (And.imp (EH.mono hk x) (pE.mono hk l))
theorem wI.mono (hk:∀a o,g a o→g' a o):∀(l:List (V×V)) {vs},wI P g l vs→wI P g' l vs
 |[]=>id
 |kx::l=>Exists.imp fun _=>Exists.imp fun _=>Exists.imp fun _=>And.imp_right (And.imp_right (And.imp (EH.mono hk kx.1) (And.imp (EH.mono hk kx.2) (wI.mono hk l))))
end
theorem Rp.mono (r:Rp P g v x)(hk:∀a o,g a o→g' a o):Rp P g' v x:=EH.mono hk x r
theorem bP.mono (r:bP P g vs l)(hk:∀a o,g a o→g' a o):bP P g' vs l:=pE.mono hk l r
theorem kY.mono {es l}(r:kY P g es l)(hk:∀a o,g a o→g' a o):kY P g' es l:=wI.mono hk l r
theorem BE {a b:Nat}(ha:a<27)(hb:b<27)(h:nm a=nm b):a=b:=by
 have nd:nms.Nodup:=by decide+kernel
 unfold nm at h
 rw [List.getD_eq_getElem?_getD,List.getD_eq_getElem?_getD,List.getElem?_eq_getElem (show a<nms.length from ha),List.getElem?_eq_getElem (show b<nms.length from hb)] at h
 exact (List.getElem_inj nd).mp h
theorem ad5 {a:Nat}(ha:a<27):PyData.strOk (nm a)=true:=by
 have ok:nms.all PyData.strOk=true:=by decide+kernel
 unfold nm
 refine (Eq.symm List.getD_eq_getElem?_getD)▸?_;refine (Eq.symm (List.getElem?_eq_getElem (show a<nms.length from ha)))▸?_
 exact List.all_eq_true.mp ok _ (List.getElem_mem ha)
abbrev gh (h:Heap):Gh:=fun a o=>h.get? a=some o
noncomputable def kV:V→Nat
 |.none=>0
 |.bool _=>1
 |.int _=>2
 |.str _=>3
 |_=>4
noncomputable def kW:Value→Nat
 |.none=>0
 |.bool _=>1
 |.int _ _=>2
 |.str _ _=>3
 |.ref _=>4
 |_=>5
theorem wJ {g:Gh}{v:Value}{x:V}(h:Rp P g v x):Nat.beq (kW v) (kV x)=true:=by
 cases x with
 |none=>cases h;rfl
 |bool _=>cases h;rfl
 |int _=>obtain ⟨_,e⟩:=h;cases e;rfl
 |str _=>obtain ⟨_,_,e⟩:=h;cases e;rfl
 |tup _=>obtain ⟨_,_,e,_⟩:=h;cases e;rfl
 |lst _=>obtain ⟨_,_,_,e,_⟩:=h;cases e;rfl
 |dct _=>obtain ⟨_,_,_,e,_⟩:=h;cases e;rfl
theorem KB {g:Gh}:∀l:List V,(∀x∈l,∀v y,Rp P g v x→Rp P g v y→x=y)→∀vs m,pE P g l vs→pE P g m vs→l=m:=fun l=>by
 induction l with
 |nil=>
  intro _ vs m r q
  cases r
  cases m with
  |nil=>rfl
  |cons _ _=>obtain ⟨_,_,q,_⟩:=q;cases q
 |cons x l ihl=>
  intro ih vs m r q
  obtain ⟨v,t,e,r1,r2⟩:=r
  subst e
  cases m with
  |nil=>cases q
  |cons y m=>
   obtain ⟨v',t',e,q1,q2⟩:=q
   cases e
   exact List.cons_eq_cons.mpr ⟨ih x (.head _) v y r1 q1,ihl (fun x hx=>ih x (.tail _ hx)) t m r2 q2⟩
theorem EI:∀k x,jV k x=true→∀v y,Rp P (gh h) v x→Rp P (gh h) v y→x=y:=
 kL (fun _ i v y r q=>by
   obtain ⟨t,rfl⟩:=r
   cases y with
   |int j=>obtain ⟨_,q⟩:=q;cases q;rfl
   |_=>exact (Bool.false_ne_true (wJ q)).elim)
  (fun _ n hn v y r q=>by
   obtain ⟨_,t,rfl⟩:=r
   cases y with
   |str j=>obtain ⟨hj,_,q⟩:=q;rw [BE hn hj (Value.str.inj q).1]
   |_=>exact (Bool.false_ne_true (wJ q)).elim) fun k l ih v y r q=>by
  obtain ⟨a,vs,rfl,g1,r⟩:=r
  have no:∀(T:String) d s,h.get? a=some ⟨.type T,none,d,s⟩→T="tuple":=fun T d s e=>by
   have:=congrArg (Option.map Obj.cls) (g1.symm.trans e)
   exact (Value.type.inj (Option.some.inj this)).symm
  cases y with
  |tup m=>
   obtain ⟨a',ws,e,g2,q⟩:=q
   cases e
   have e:vs=ws:=by
    have:=g1.symm.trans g2
    simpa using this
   subst e
   exact congrArg V.tup (KB l ih vs m r q)
  |lst _=>obtain ⟨_,_,_,e,q,_⟩:=q;cases e;exact absurd (no _ _ _ q) (by decide)
  |dct _=>obtain ⟨_,_,_,e,q,_⟩:=q;cases e;exact absurd (no _ _ _ q) (by decide)
  |_=>exact (Bool.false_ne_true (wJ q)).elim
theorem sN:∀k x,jV k x=true→∀v,Rp P (gh h) v x→∃as,Reads h v x.py as:=
 kL (fun _ i v r=>by obtain ⟨t,rfl⟩:=r;exact ⟨_,.int i t⟩) (fun _ n _ v r=>by obtain ⟨_,t,rfl⟩:=r;exact ⟨_,.str _ t⟩) fun k l ih v r=>by
  obtain ⟨a,vs,rfl,g1,r⟩:=r
  have al:∀l,(∀x∈l,∀v,Rp P (gh h) v x→∃as,Reads h v x.py as)→∀vs,bP P (gh h) vs l→∃as,ReadsAll h vs (V.pys l) as:=by
   intro l
   induction l with
   |nil=>rintro _ vs rfl;exact ⟨_,.nil⟩
   |cons x l ihl=>
    rintro f vs ⟨v,t,rfl,r1,r2⟩
    obtain ⟨as,q⟩:=f x (.head _) v r1
    obtain ⟨bs,p⟩:=ihl (fun x hx=>f x (.tail _ hx)) t r2
    exact ⟨_,.cons q p⟩
  obtain ⟨as,q⟩:=al l ih vs r
  exact ⟨_,.tuple g1 rfl rfl q⟩
theorem GZ:∀k x,jV k x=true→x.py.canLay0=true∧x.py.depth≤k:=
 kL (fun _ _=>⟨rfl,Nat.zero_le _⟩) (fun _ n hn=>⟨ad5 hn,Nat.zero_le _⟩) fun k l ih=>by
  have al:∀l:List V,(∀x∈l,x.py.canLay0=true∧x.py.depth≤k)→PyData.canLayAll0 (V.pys l)=true∧PyData.depthAll (V.pys l)≤k:=by
   intro l
   induction l with
   |nil=>intro _;exact ⟨rfl,Nat.zero_le _⟩
   |cons x l ihl=>
    intro f
    refine aG (f x (.head _)) fun a b=>?_
    refine aG (ihl fun x hx=>f x (.tail _ hx)) fun c d=>?_
    exact ⟨by show (_ && _)=true;refine (Eq.symm a)▸?_;refine (Eq.symm c)▸?_;rfl,Nat.max_le.mpr ⟨b,d⟩⟩
  exact ⟨(al l ih).1,Nat.succ_le_succ (al l ih).2⟩
theorem jE {k:Nat}(hk:k≤64){x:V}(h:jV k x=true):SeqAt.shaped x.py=true:=by
 have:=GZ k x h
 unfold SeqAt.shaped
 refine (Eq.symm this.1)▸?_;refine (Eq.symm (decide_eq_true (Nat.le_trans this.2 hk)))▸?_;rfl
theorem KC:∀k x,jV k x=true→∀j y,jV j y=true→(PyData.eqv x.py y.py=true↔x=y):=by
 refine kL (fun _ i j y hy=>?_) (fun _ n hn j y hy=>?_) fun k l ih j y hy=>?_
 ·refine kL (M:=fun _ y=>PyData.eqv (V.int i).py y.py=true↔.int i=y) (fun _ i'=>?_) (fun _ n _=>?_) (fun _ l _=>?_) j y hy
  ·show (i==i')=true↔_;rw [beq_iff_eq,V.int.injEq]
  ·exact ⟨fun e=>(Bool.false_ne_true e).elim,fun e=>V.noConfusion e⟩
  ·exact ⟨fun e=>(Bool.false_ne_true e).elim,fun e=>V.noConfusion e⟩
 ·refine kL (M:=fun _ y=>PyData.eqv (V.str n).py y.py=true↔.str n=y) (fun _ i'=>?_) (fun _ m hm=>?_) (fun _ l _=>?_) j y hy
  ·exact ⟨fun e=>(Bool.false_ne_true e).elim,fun e=>V.noConfusion e⟩
  ·show (nm n==nm m)=true↔_;rw [beq_iff_eq,V.str.injEq];exact ⟨BE hn hm,fun e=>by rw [e]⟩
  ·exact ⟨fun e=>(Bool.false_ne_true e).elim,fun e=>V.noConfusion e⟩
 ·cases y with
  |int _=>exact ⟨fun e=>(Bool.false_ne_true e).elim,fun e=>V.noConfusion e⟩
  |str _=>exact ⟨fun e=>(Bool.false_ne_true e).elim,fun e=>V.noConfusion e⟩
  |tup m=>
   cases j with
   |zero=>cases hy
   |succ j=>
    show PyData.eqvAll (V.pys l) (V.pys m)=true↔_
    rw [V.tup.injEq]
    replace hy:sM (jV j) m=true:=hy
    revert m
    induction l with
    |nil=>
     intro m _
     cases m with
     |nil=>exact ⟨fun _=>rfl,fun _=>rfl⟩
     |cons _ _=>exact ⟨fun e=>(Bool.false_ne_true e).elim,fun e=>(by cases e)⟩
    |cons x l ihl=>
     intro m hy
     cases m with
     |nil=>exact ⟨fun e=>(Bool.false_ne_true e).elim,fun e=>(by cases e)⟩
     |cons y m=>
      refine aG (mY hy) fun h1 h2=>?_
      show (PyData.eqv x.py y.py && PyData.eqvAll (V.pys l) (V.pys m))=true↔_
      have e2:PyData.eqvAll (V.pys l) (V.pys m)=true↔l=m:=ihl (fun x hx=>ih x (.tail _ hx)) m h2
      rw [Bool.and_eq_true,ih x (.head _) j y h1,e2,List.cons.injEq]
  |_=>cases j<;>cases hy
end
end Mine.Internal
set_option genInjectivity false
namespace Mine.Internal
mutual
inductive BO where
 |add|sub|mul|fdiv|mod|pow
inductive CO where
 |eq|ne|lt|le|gt|ge
inductive B1 where
 |len|abs|tuple|list|sum
inductive B2 where
 |min|max
end
mutual
inductive E where
 |bad
 |none|bool (b:Bool)|int (i:Int)|str (n:Nat)
 |var (i:Nat)|frz (i:Nat)|glob (g:Nat)
 |bin (o:BO) (a b:E)|neg (a:E)|not (a:E)
 |cmp (o:CO) (a b:E)
 |isN (a:E)
 |inS (p:Bool) (a:E) (ns:List Nat)
 |and (es:List E)|or (es:List E)
 |ite (t a b:E)
 |tup (es:List E)|lst (es:List E)|dct0|dct1 (k v:E)
 |subN (a:E) (n:Nat)|sub (a i:E)|subO (x:Nat) (i:E)
 |slcLo (a lo:E)|slcHi (a hi:E)
 |call (f:Nat) (es:List E)
 |callO (f:Nat) (x:Nat) (es:List E)
 |bi1 (b:B1) (a:E)|bi2 (b:B2) (a c:E)
 |dget (x:Nat) (k d:E)|dpop (x:Nat) (k d:E)
 |comp (nv:Nat) (s:Sr) (ifs:List E) (elt:E)
 |rank (a:E)
inductive Sr where
 |val (a:E)|rng1 (a:E)|rng2 (a b:E)|enm (a:E)|itm (x:Nat)|srtE (x:Nat)
end
inductive Rv where
 |e (e:E)|newL|newD
inductive S where
 |bad
 |asg (x:Nat) (e:E)
 |newL (x:Nat)|newD (x:Nat)|newLi (x:Nat) (es:List E)|cpD (x:Nat) (e:E)|mtD (x:Nat) (e:E)
 |unpE (xs:List Nat) (es:List Rv)
 |unp (xs:List Nat) (e:E)
 |setI (x:Nat) (i v:E)
 |aug (x:Nat) (e:E)
 |app (x:Nat) (e:E)|ext (x:Nat) (e:E)
 |ex (e:E)
 |ret (e:E)
 |ite (t:E) (a b:List S)
 |whl (t:E) (b:List S)
 |for (xs:List Nat) (s:Sr) (b:List S)
 |tryS (b:List S)
set_option genCtorIdx true in
inductive aF where
 |un|v (x:V)|l (xs:List V)|d (kvs:List (V×V))
abbrev Fm:=List aF
noncomputable def uF:aF→Bool
 |.l _=>true
 |_=>false
noncomputable def uG:aF→Bool
 |.d _=>true
 |_=>false
noncomputable def aR:aF→Bool
 |.l _=>true
 |.d _=>true
 |_=>false
noncomputable def isV:aF→Bool
 |.v _=>true
 |_=>false
noncomputable def mH:Nat:=2^20
noncomputable def Fm.at (ρ:Fm)(i:Nat):aF:=ρ.getD i .un
noncomputable def upTo:Nat→Int→List V
 |0,_=>[]
 |n+1,a=>.int a::upTo n (a+1)
noncomputable def lW:Int→List V→List V
 |_,[]=>[]
 |i,x::r=>.tup [.int i,x]::lW (i+1) r
noncomputable def nS:List (V×V)→List V
 |[]=>[]
 |(a,b)::r=>.tup [a,b]::nS r
noncomputable def wK:List V→Option Int
 |[]=>some 0
 |x::r=>match x with
  |.int a=>(wK r).map (a+ ·)
  |_=>none
noncomputable def BF (x y:V):Option V:=match x with
 |.lst l=>match y with
  |.int i=>if 0≤i∧l.length≤mH then some (.lst (l.drop i.toNat)) else none
  |_=>none
 |_=>none
noncomputable def nT (x y:V):Option V:=match x with
 |.lst l=>match y with
  |.int i=>if 0≤i∧l.length≤mH then some (.lst (l.take i.toNat)) else none
  |_=>none
 |_=>none
noncomputable def EJ (v:V):Option V:=match v with
 |.str n=>(([4,0,2,3,5,1]:List Int)[n]?).map .int
 |_=>none
noncomputable def aZ:List Nat→List aF→Fm→Fm
 |[],_,ρ=>ρ
 |i::r,l,ρ=>match l with
  |s::t=>aZ r t (ρ.set i s)
  |[]=>ρ
mutual
noncomputable def XY:V→Option Int
 |.int i=>some (reduceHash (intHash i))
 |.tup l=>(sO l).map fun hs=>reduceHash (Builtin.Tuple.tupleHashOf hs)
 |_=>none
noncomputable def sO:List V→Option (List Int)
 |[]=>some []
 |x::r=>(XY x).bind fun h=>(sO r).map (h:: ·)
end
noncomputable def BG (l:List (V×V)):Bool:=match sO (l.map (·.1)) with
 |some hs=>decide hs.Nodup
 |none=>false
structure Fn where
 name:Str
 arity:Nat
 io:Bool
 vars:List Str
 body:List S
noncomputable def ZP (io:Bool):List aF→Bool
 |[]=> !io
 |s::r=>(if io then aR s else isV s) && r.all isV
abbrev CF:=Nat→List aF→Option (V×aF)
mutual
noncomputable def aL:E→Bool
 |.none=>true
 |.bool _=>true
 |.int _=>true
 |.str _=>true
 |.var _=>true
 |.glob _=>true
 |.bin _ a b=>aL a && aL b
 |.neg a=>aL a
 |.not a=>aL a
 |.cmp _ a b=>aL a && aL b
 |.isN a=>aL a
 |.inS _ a _=>aL a
 |.and es=>aM es
 |.or es=>aM es
 |.ite t a b=>aL t && aL a && aL b
 |.tup es=>aM es
 |.lst es=>aM es
 |.subN a _=>aL a
 |.sub a i=>aL a && aL i
 |.subO _ i=>aL i
 |.slcLo a i=>aL a && aL i
 |.slcHi a i=>aL a && aL i
 |.call _ es=>aM es
 |.bi1 _ a=>aL a
 |.bi2 _ a b=>aL a && aL b
 |.rank a=>aL a
 |.dget _ a b=>aL a && aL b
 |.bad=>true
 |.dct0=>true
 |.dct1 a b=>aL a && aL b
 |_=>false
noncomputable def aM:List E→Bool
 |[]=>true
 |e::r=>aL e && aM r
end
noncomputable def mI:Int→Int→Bool
 |.ofNat a,y=>match y with
  |.ofNat b=>Nat.beq a b
  |_=>false
 |.negSucc a,y=>match y with
  |.negSucc b=>Nat.beq a b
  |_=>false
noncomputable def pF:Int→Int→Bool
 |.ofNat a,y=>match y with
  |.ofNat b=>Nat.blt a b
  |.negSucc _=>false
 |.negSucc a,y=>match y with
  |.ofNat _=>true
  |.negSucc b=>Nat.blt b a
noncomputable def yW {β:Type}(n:Nat)(k:Nat→β):β:=match n with
 |0=>k 0
 |n+1=>k (n+1)
noncomputable def pG {β:Type}(i:Int)(k:Int→β):β:=match i with
 |.ofNat n=>yW n fun n=>k (.ofNat n)
 |.negSucc n=>yW n fun n=>k (.negSucc n)
noncomputable def HA (l:List V):Nat→Option V:=List.rec (motive:=fun _=>Nat→Option V) (fun _=>none) (fun x _ ih n=>match n with
  |0=>some x
  |n+1=>ih n) l
noncomputable def yX {β:Type}(v:V)(n:Nat)(k:V→Option β):Option β:=match v with
 |.tup l=>cond (Nat.ble n 1000) ((HA l n).bind k) none
 |.lst l=>cond (Nat.ble n 1000) ((HA l n).bind k) none
 |_=>none
noncomputable def SO {β:Type}(l:List V)(i:Int)(k:V→Option β):Option β:=match i with
 |.ofNat n=>cond (Nat.ble n 1000) ((HA l n).bind k) none
 |.negSucc n=>cond (Nat.ble l.length 1000) (cond (Nat.blt n l.length) ((HA l (l.length - (n+1))).bind k) none) none
noncomputable def SP (f:V→V→Option Bool)(l:List V):List V→Option Bool:=List.rec (motive:=fun _=>List V→Option Bool) (fun m=>match m with
  |[]=>some true
  |_=>some false) (fun x _ ih m=>match m with
  |[]=>some false
  |y::m=>(f x y).bind fun t=>cond t (ih m) (some false)) l
noncomputable def lK (n:Nat):V→V→Option Bool:=Nat.rec (motive:=fun _=>V→V→Option Bool) (fun a b=>match a with
  |.int i=>match b with
   |.int j=>some (mI i j)
   |.str _=>some false
   |.tup _=>some false
   |_=>none
  |.str m=>match b with
   |.str n=>some (Nat.beq m n)
   |.int _=>some false
   |.tup _=>some false
   |_=>none
  |_=>none) (fun _ ih a b=>match a with
  |.int i=>match b with
   |.int j=>some (mI i j)
   |.str _=>some false
   |.tup _=>some false
   |_=>none
  |.str m=>match b with
   |.str n=>some (Nat.beq m n)
   |.int _=>some false
   |.tup _=>some false
   |_=>none
  |.tup l=>match b with
   |.tup m=>SP ih l m
   |.int _=>some false
   |.str _=>some false
   |_=>none
  |_=>none) n
noncomputable def uH {β:Type}(a b:V)(k:Bool→Option β):Option β:=match a with
 |.str m=>match b with
  |.str n=>cond (Nat.blt m 27) (cond (Nat.blt n 27) (k (Nat.beq m n)) none) none
  |b=>cond (jV 20 b) (cond (Nat.blt m 27) (k false) none) none
 |.int i=>match b with
  |.int j=>k (mI i j)
  |b=>cond (jV 20 b) (k false) none
 |.bool i=>match b with
  |.bool j=>k (i==j)
  |_=>none
 |a=>cond (jV 20 a) (cond (jV 20 b) ((lK 20 a b).bind k) none) none
noncomputable def uU {β:Type}(a b:V)(k:Bool→Option β):Option β:=match a with
 |.int i=>match b with
  |.int j=>k (pF i j)
  |_=>none
 |_=>none
noncomputable def bQ {β:Type}(o:CO)(a b:V)(k:V→Option β):Option β:=match o with
 |.eq=>uH a b fun t=>k (.bool t)
 |.ne=>uH a b fun t=>k (.bool (not t))
 |.lt=>uU a b fun t=>k (.bool t)
 |.gt=>uU b a fun t=>k (.bool t)
 |.le=>uU b a fun t=>k (.bool (not t))
 |.ge=>uU a b fun t=>k (.bool (not t))
noncomputable def KD {β:Type}(a b:V)(k:V→Option β):Option β:=match a with
 |.int i=>match b with
  |.int j=>pG (Int.add i j) fun z=>k (.int z)
  |_=>none
 |.lst l=>match b with
  |.lst m=>cond (Nat.ble (Nat.add l.length m.length) mH) (k (.lst (List.append l m))) none
  |_=>none
 |.tup l=>match b with
  |.tup m=>cond (Nat.ble (Nat.add l.length m.length) mH) (k (.tup (List.append l m))) none
  |_=>none
 |_=>none
noncomputable def KE {β:Type}(a b:V)(k:V→Option β):Option β:=match a with
 |.int i=>match b with
  |.int j=>pG (Int.sub i j) fun z=>k (.int z)
  |_=>none
 |.bool i=>match b with
  |.bool j=>k (.int (Int.sub (cond i 1 0) (cond j 1 0)))
  |_=>none
 |_=>none
noncomputable def KF {β:Type}(a b:V)(k:V→Option β):Option β:=match a with
 |.int i=>match b with
  |.int j=>cond (Nat.blt i.natAbs 18446744073709551616) (pG (Int.mul i j) fun z=>k (.int z)) none
  |_=>none
 |.lst l=>match b with
  |.int j=>match l with
   |[x]=>cond (pF j 1000) (cond (pF (-1000) j) (k (.lst (List.replicate j.toNat x))) none) none
   |_=>none
  |_=>none
 |_=>none
noncomputable def EK {β:Type}(a b:V)(k:V→Option β):Option β:=match a with
 |.int i=>match b with
  |.int j=>cond (mI j 0) none (cond (Nat.blt j.natAbs 18446744073709551616) (pG (Int.fdiv i j) fun z=>k (.int z)) none)
  |_=>none
 |_=>none
noncomputable def ZQ {β:Type}(a b:V)(k:V→Option β):Option β:=match a with
 |.int i=>match b with
  |.int j=>cond (mI j 0) none (pG (Int.fmod i j) fun z=>k (.int z))
  |_=>none
 |_=>none
noncomputable def ad6 {β:Type}(a b:V)(k:V→Option β):Option β:=match a with
 |.int i=>match b with
  |.int j=>match j with
   |.ofNat n=>cond (Nat.ble n 1000000) (cond (Nat.blt i.natAbs 18446744073709551616) (pG (Int.pow i n) fun z=>k (.int z)) none) none
   |.negSucc _=>none
  |_=>none
 |_=>none
noncomputable def dQ {β:Type}(o:BO)(a b:V)(k:V→Option β):Option β:=match o with
 |.add=>KD a b k
 |.sub=>KE a b k
 |.mul=>KF a b k
 |.fdiv=>EK a b k
 |.mod=>ZQ a b k
 |.pow=>ad6 a b k
noncomputable def fD {β:Type}(v:V)(k:Bool→Option β):Option β:=match v with
 |.bool b=>k b
 |_=>none
noncomputable def SQ {β:Type}(v:V)(k:V→Option β):Option β:=match v with
 |.lst l=>cond (Nat.ble l.length 1000) (k (.int (.ofNat l.length))) none
 |.tup l=>cond (Nat.ble l.length 1000) (k (.int (.ofNat l.length))) none
 |_=>none
noncomputable def kU {β:Type}(b:B1)(v:V)(k:V→Option β):Option β:=match b with
 |.len=>SQ v k
 |.abs=>match v with
  |.int i=>k (.int (.ofNat i.natAbs))
  |_=>none
 |.tuple=>match v with
  |.lst l=>cond (Nat.ble l.length 1000) (k (.tup l)) none
  |_=>none
 |.list=>match v with
  |.lst l=>cond (Nat.ble l.length 1000) (k (.lst l)) none
  |.tup l=>cond (Nat.ble l.length 1000) (k (.lst l)) none
  |_=>none
 |.sum=>match v with
  |.lst l=>cond (Nat.ble l.length mH) ((wK l).bind fun i=>k (.int i)) none
  |_=>none
noncomputable def EL {β:Type}(b:B2)(x y:V)(k:V→Option β):Option β:=match b with
 |.min=>uU y x fun t=>k (cond t y x)
 |.max=>uU x y fun t=>k (cond t y x)
noncomputable def jG {β:Type}(k:V)(q:Option V→Option β)(l:List (V×V)):Option β:=List.rec (motive:=fun _=>Option β) (q none) (fun p _ ih=>(lK 8 p.1 k).bind fun t=>cond t (q (some p.2)) ih) l
noncomputable def uI (k v:V)(l:List (V×V)):Option (List (V×V)):=List.rec (motive:=fun _=>Option (List (V×V))) (some [(k,v)]) (fun p r ih=>(lK 8 p.1 k).bind fun t=>cond t (some ((p.1,v)::r)) (ih.bind fun z=>some (p::z))) l
noncomputable def wL (k:V)(l:List (V×V)):Option (List (V×V)):=List.rec (motive:=fun _=>Option (List (V×V))) (some []) (fun p r ih=>(lK 8 p.1 k).bind fun t=>cond t (some r) (ih.bind fun z=>some (p::z))) l
noncomputable def sP {β:Type}(x y:V)(k:V→Option β):Option β:=match x with
 |.lst l=>match y with
  |.int i=>SO l i k
  |_=>none
 |.tup l=>match y with
  |.int i=>match i with
   |.ofNat n=>yX (.tup l) n k
   |.negSucc _=>none
  |_=>none
 |.dct l=>cond (cV y) (jG y (fun o=>match o with
  |some z=>k z
  |none=>none) l) none
 |_=>none
noncomputable def iV {β:Type}:Nat→Fm→(Fm→Option β)→Option β
 |0,ρ,k=>match ρ with
  |[]=>k []
  |_=>none
 |n+1,ρ,k=>match ρ with
  |s::r=>iV n r fun t=>k (s::t)
  |[]=>none
noncomputable def iW {β:Type}:Nat→List V→(List V→Option β)→Option β
 |0,l,k=>match l with
  |[]=>k []
  |_=>none
 |n+1,l,k=>match l with
  |x::r=>iW n r fun t=>k (x::t)
  |[]=>none
noncomputable def jH {β:Type}(n:Nat)(x:V)(k:List aF→Option β):Option β:=match n with
 |0=>none
 |n+1=>match n with
  |0=>k [.v x]
  |n+1=>match n with
   |0=>match x with
    |.tup l=>iW 2 l fun l=>k (l.map .v)
    |_=>none
   |_=>none
noncomputable def bL {β:Type}(xs:List Nat)(x:V)(ρ:Fm)(k:Fm→Option β):Option β:=match xs with
 |[]=>none
 |i::r=>match r with
  |[]=>k (ρ.set i (.v x))
  |j::t=>match t with
   |[]=>match x with
    |.tup l=>iW 2 l fun l=>k (aZ [i,j] (l.map .v) ρ)
    |_=>none
   |_=>none
noncomputable def BH (elt:V→Option (Option V))(l:List V):Option (List V):=List.rec (motive:=fun _=>Option (List V)) (some []) (fun x _ ih=>(elt x).bind fun o=>match o with
  |none=>ih
  |some y=>ih.bind fun z=>some (y::z)) l
noncomputable def BI {β:Type}(m n:Int)(k:List V→Option β):Option β:=
 cond (pF n 1000) (cond (pF m 1000) (cond (pF (-1000) n) (cond (pF (-1000) m) (k (upTo (Int.toNat (Int.sub n m)) m)) none) none) none) none
noncomputable def uV (bind:V→Fm→Option Fm)(step:Fm→(Option V→Fm→Option (List V×Fm))→Option (List V×Fm)):List V→Fm→Option (List V×Fm)
 |[],ρ=>some ([],ρ)
 |x::r,ρ=>(bind x ρ).bind fun ρ₁=>step ρ₁ fun o ρ₂=>(uV bind step r ρ₂).bind fun z=>some ((match o with|some y=>y::z.1|none=>z.1),z.2)
noncomputable def itV (v:V):Option (List V):=match v with
 |.lst l=>some l
 |.tup l=>some l
 |.dct l=>some (l.map (·.1))
 |_=>none
variable (C:CF)(G:List V)
mutual
noncomputable def kE:E→(β:Type)→Fm→(V→Fm→Option β)→Option β
 |.bad,_,_,_=>none
 |.none,_,ρ,k=>k .none ρ
 |.bool b,_,ρ,k=>k (.bool b) ρ
 |.int i,_,ρ,k=>k (.int i) ρ
 |.str n,_,ρ,k=>k (.str n) ρ
 |.var i,_,ρ,k=>match ρ.at i with
  |.v x=>k x ρ
  |_=>none
 |.frz i,_,ρ,k=>match ρ.at i with
  |.l xs=>k (.lst xs) (ρ.set i (.v (.lst xs)))
  |.d kvs=>k (.dct kvs) (ρ.set i (.v (.dct kvs)))
  |_=>none
 |.glob g,_,ρ,k=>(G[g]?).bind fun x=>k x ρ
 |.bin o a b,β,ρ,k=>kE a β ρ fun x ρ₁=>kE b β ρ₁ fun y ρ₂=>dQ o x y fun z=>k z ρ₂
 |.neg a,β,ρ,k=>kE a β ρ fun x ρ₁=>match x with
  |.int i=>k (.int (Int.neg i)) ρ₁
  |_=>none
 |.not a,β,ρ,k=>kE a β ρ fun x ρ₁=>fD x fun t=>k (.bool (not t)) ρ₁
 |.cmp o a b,β,ρ,k=>kE a β ρ fun x ρ₁=>kE b β ρ₁ fun y ρ₂=>bQ o x y fun z=>k z ρ₂
 |.isN a,β,ρ,k=>kE a β ρ fun x ρ₁=>k (.bool (match x with
  |.none=>true
  |_=>false)) ρ₁
 |.inS p a ns,β,ρ,k=>kE a β ρ fun x ρ₁=>match x with
  |.str n=>k (.bool (cond (ns.contains n) p (not p))) ρ₁
  |_=>none
 |.and es,β,ρ,k=>cond (aM es) ((dR es V ρ fun v _=>some v).bind fun v=>k v ρ) none
 |.or es,β,ρ,k=>cond (aM es) ((yR es V ρ fun v _=>some v).bind fun v=>k v ρ) none
 |.ite t a b,β,ρ,k=>cond (aL t && aL a && aL b) (kE t β ρ fun x _=>fD x fun c=>(cond c (kE a V ρ fun v _=>some v) (kE b V ρ fun v _=>some v)).bind fun v=>k v ρ) none
 |.tup es,β,ρ,k=>cL es β ρ fun l ρ₁=>k (.tup l) ρ₁
 |.lst es,β,ρ,k=>cL es β ρ fun l ρ₁=>k (.lst l) ρ₁
 |.dct0,_,ρ,k=>k (.dct []) ρ
 |.dct1 a v,β,ρ,k=>kE a β ρ fun x ρ₁=>kE v β ρ₁ fun y ρ₂=>cond (cV x) (k (.dct [(x,y)]) ρ₂) none
 |.subN a n,β,ρ,k=>kE a β ρ fun x ρ₁=>yX x n fun z=>k z ρ₁
 |.sub a i,β,ρ,k=>kE a β ρ fun x ρ₁=>kE i β ρ₁ fun y ρ₂=>sP x y fun z=>k z ρ₂
 |.subO n i,β,ρ,k=>cond (aL i) (kE i β ρ fun y _=>match ρ.at n with
  |.l xs=>match y with
   |.int i=>SO xs i fun z=>k z ρ
   |_=>none
  |_=>none) none
 |.slcLo a i,β,ρ,k=>kE a β ρ fun x ρ₁=>kE i β ρ₁ fun y ρ₂=>(BF x y).bind fun z=>k z ρ₂
 |.slcHi a i,β,ρ,k=>kE a β ρ fun x ρ₁=>kE i β ρ₁ fun y ρ₂=>(nT x y).bind fun z=>k z ρ₂
 |.call f es,β,ρ,k=>cL es β ρ fun l ρ₁=>(C f (l.map .v)).bind fun r=>k r.1 ρ₁
 |.callO f n es,β,ρ,k=>cond (aM es) (cL es β ρ fun x _=>match ρ.at n with
  |.l xs=>(C f (.l xs::x.map .v)).bind fun r=>k r.1 (ρ.set n r.2)
  |.d xs=>(C f (.d xs::x.map .v)).bind fun r=>k r.1 (ρ.set n r.2)
  |_=>none) none
 |.bi1 b a,β,ρ,k=>kE a β ρ fun x ρ₁=>kU b x fun z=>k z ρ₁
 |.bi2 b a c,β,ρ,k=>kE a β ρ fun x ρ₁=>kE c β ρ₁ fun y ρ₂=>EL b x y fun z=>k z ρ₂
 |.dget n a d,β,ρ,k=>cond (aL a && aL d) (kE a β ρ fun x _=>kE d β ρ fun y _=>match ρ.at n with
  |.d kvs=>cond (cV x) (jG x (fun o=>k (o.getD y) ρ) kvs) none
  |_=>none) none
 |.dpop n a d,β,ρ,k=>cond (aL a && aL d) (kE a β ρ fun x _=>kE d β ρ fun y _=>match ρ.at n with
  |.d kvs=>cond (cV x) (cond (Nat.ble kvs.length 1000) (jG x (fun o=>(wL x kvs).bind fun w=>k (o.getD y) (ρ.set n (.d w))) kvs) none) none
  |_=>none) none
 |.comp nv s ifs elt,β,ρ,k=>cond (aM ifs && aL elt) (jW s β ρ fun items ρ₁=>
   (BH (fun x=>jH nv x fun bs=>dR ifs _ (ρ₁++bs) fun t _=>fD t fun c=>cond c (kE elt _ (ρ₁++bs) fun y _=>some (some y)) (some none)) items).bind fun z=>
    cond (Nat.ble items.length 1000) (cond (Nat.beq ρ₁.length ρ.length) (k (.lst z) ρ₁) none) none)
   (jW s β ρ fun items ρ₁=>(uV (fun x σ=>bL ((List.range nv).map (ρ.length+ ·)) x σ some) (fun σ q=>dR ifs _ σ fun t τ=>fD t fun c=>cond c (kE elt _ τ fun y σ=>q (some y) σ) (q none τ)) items (ρ₁++List.replicate nv .un)).bind fun z=>
    cond (Nat.ble items.length 1000) (iV ρ.length (z.2.take ρ.length) fun τ=>k (.lst z.1) τ) none)
 |.rank a,β,ρ,k=>kE a β ρ fun x ρ₁=>(EJ x).bind fun z=>k z ρ₁
noncomputable def cL:List E→(β:Type)→Fm→(List V→Fm→Option β)→Option β
 |[],_,ρ,k=>k [] ρ
 |e::r,β,ρ,k=>kE e β ρ fun x ρ₁=>cL r β ρ₁ fun l ρ₂=>k (x::l) ρ₂
noncomputable def dR:List E→(β:Type)→Fm→(V→Fm→Option β)→Option β
 |[],_,ρ,k=>k (.bool true) ρ
 |e::r,β,ρ,k=>match r with
  |[]=>kE e β ρ k
  |_::_=>kE e β ρ fun x ρ₁=>fD x fun t=>cond t (dR r β ρ₁ k) (k (.bool false) ρ₁)
noncomputable def yR:List E→(β:Type)→Fm→(V→Fm→Option β)→Option β
 |[],_,ρ,k=>k (.bool false) ρ
 |e::r,β,ρ,k=>match r with
  |[]=>kE e β ρ k
  |_::_=>kE e β ρ fun x ρ₁=>fD x fun t=>cond t (k (.bool true) ρ₁) (yR r β ρ₁ k)
noncomputable def jW:Sr→(β:Type)→Fm→(List V→Fm→Option β)→Option β
 |.val a,β,ρ,k=>kE a β ρ fun x ρ₁=>(itV x).bind fun l=>k l ρ₁
 |.rng1 a,β,ρ,k=>kE a β ρ fun x ρ₁=>match x with
  |.int n=>BI 0 n fun l=>k l ρ₁
  |_=>none
 |.rng2 a b,β,ρ,k=>kE a β ρ fun x ρ₁=>kE b β ρ₁ fun y ρ₂=>match x with
  |.int m=>match y with
   |.int n=>BI m n fun l=>k l ρ₂
   |_=>none
  |_=>none
 |.enm a,β,ρ,k=>kE a β ρ fun x ρ₁=>match x with
  |.lst l=>k (lW 0 l) ρ₁
  |_=>none
 |.itm n,_,ρ,k=>match ρ.at n with
  |.d kvs=>k (nS kvs) (ρ.set n (.v (.dct kvs)))
  |_=>none
 |.srtE n,_,ρ,k=>match ρ.at n with
  |.d kvs=>match kvs with
   |[]=>k [] ρ
   |_=>none
  |_=>none
end
noncomputable def uW:List Rv→(β:Type)→Fm→(List aF→Fm→Option β)→Option β
 |[],_,ρ,k=>k [] ρ
 |v::r,β,ρ,k=>match v with
  |.e e=>kE C G e β ρ fun x ρ₁=>uW r β ρ₁ fun l ρ₂=>k (.v x::l) ρ₂
  |.newL=>uW r β ρ fun l ρ₁=>k (.l []::l) ρ₁
  |.newD=>uW r β ρ fun l ρ₁=>k (.d []::l) ρ₁
noncomputable def ZR {β:Type}(step:V→Fm→(Fm→Option β)→Option β)(next:Fm→Option β)(l:List V):Fm→Option β:=List.rec (motive:=fun _=>Fm→Option β) next (fun x _ ih ρ=>step x ρ ih) l
noncomputable def wM {β:Type}(step:Fm→(Fm→Option β)→(Fm→Option β)→Option β)(next:Fm→Option β)(n:Nat):Fm→Option β:=Nat.rec (motive:=fun _=>Fm→Option β) (fun _=>none) (fun _ ih ρ=>step ρ ih next) n
mutual
noncomputable def kS:S→(β:Type)→Fm→(Fm→Option β)→(V→Fm→Option β)→Option β
 |.bad,_,_,_,_=>none
 |.asg x e,β,ρ,k,_=>kE C G e β ρ fun v ρ₁=>k (ρ₁.set x (.v v))
 |.newL x,_,ρ,k,_=>k (ρ.set x (.l []))
 |.newD x,_,ρ,k,_=>k (ρ.set x (.d []))
 |.newLi x es,β,ρ,k,_=>cL C G es β ρ fun l ρ₁=>k (ρ₁.set x (.l l))
 |.cpD x e,β,ρ,k,_=>kE C G e β ρ fun v ρ₁=>match v with
  |.dct kvs=>cond (BG kvs && Nat.ble kvs.length mH) (k (ρ₁.set x (.d kvs))) none
  |_=>none
 |.mtD x e,β,ρ,k,_=>kE C G e β ρ fun v ρ₁=>match v with
  |.tup l=>match l with
   |[]=>k (ρ₁.set x (.d []))
   |_=>none
  |_=>none
 |.unpE xs es,β,ρ,k,_=>uW C G es β ρ fun l ρ₁=>cond (Nat.beq xs.length l.length) (k (aZ xs l ρ₁)) none
 |.unp xs e,β,ρ,k,_=>kE C G e β ρ fun v ρ₁=>match v with
  |.tup l=>iW xs.length l fun l=>k (aZ xs (l.map .v) ρ₁)
  |_=>none
 |.setI n i e,β,ρ,k,_=>kE C G e β ρ fun v ρ₁=>cond (aL i) (kE C G i β ρ₁ fun kk _=>match ρ₁.at n with
  |.d kvs=>cond (cV kk) (cond (Nat.ble kvs.length 1000) ((uI kk v kvs).bind fun w=>k (ρ₁.set n (.d w))) none) none
  |.l xs=>match kk with
   |.int (.ofNat j)=>cond (Nat.blt j xs.length) (cond (Nat.ble j 1000) (k (ρ₁.set n (.l (xs.set j v)))) none) none
   |_=>none
  |_=>none) none
 |.aug n e,β,ρ,k,_=>match ρ.at n with
  |.v x=>match x with
   |.int a=>kE C G e β ρ fun v ρ₁=>match v with
    |.int b=>k (ρ₁.set n (.v (.int (Int.add a b))))
    |_=>none
   |_=>none
  |_=>none
 |.app n e,β,ρ,k,_=>cond (aL e) (kE C G e β ρ fun v _=>match ρ.at n with
  |.l xs=>cond (Nat.ble xs.length 1000) (k (ρ.set n (.l (List.append xs [v])))) none
  |_=>none) none
 |.ext n e,β,ρ,k,_=>cond (aL e) (kE C G e β ρ fun v _=>match ρ.at n with
  |.l xs=>match v with
   |.lst ys=>cond (Nat.ble (Nat.add xs.length ys.length) 1000) (k (ρ.set n (.l (List.append xs ys)))) none
   |_=>none
  |_=>none) none
 |.ex e,β,ρ,k,_=>kE C G e β ρ fun v ρ₁=>match v with
  |.none=>k ρ₁
  |_=>none
 |.ret e,β,ρ,_,q=>kE C G e β ρ q
 |.ite t a b,β,ρ,k,q=>kE C G t β ρ fun v ρ₁=>fD v fun c=>cond c (aW a β ρ₁ k q) (aW b β ρ₁ k q)
 |.whl t b,β,ρ,k,q=>wM (fun σ again stop=>iV ρ.length σ fun τ=>kE C G t β τ fun v τ₁=>fD v fun c=>cond c (aW b β τ₁ again q) (stop τ₁)) (fun σ=>iV ρ.length σ k) 100 ρ
 |.for xs s b,β,ρ,k,q=>jW C G s β ρ fun l ρ₁=>ZR (fun x σ again=>iV ρ.length σ fun τ=>bL xs x τ fun τ₁=>aW b β τ₁ again q) (fun σ=>iV ρ.length σ k) l ρ₁
 |.tryS b,β,ρ,k,q=>aW b β ρ k q
noncomputable def aW:List S→(β:Type)→Fm→(Fm→Option β)→(V→Fm→Option β)→Option β
 |[],_,ρ,k,_=>k ρ
 |s::r,β,ρ,k,q=>kS s β ρ (fun ρ₁=>aW r β ρ₁ k q) q
end
noncomputable def aC (io:Bool)(v:V)(ρ:Fm):Option (V×aF):=cond io (cond (aR (ρ.at 0)) (some (v,ρ.at 0)) none) (some (v,.un))
noncomputable def kZ (f:Fn)(args:List aF):Option (V×aF):=
 cond (Nat.beq args.length f.arity && ZP f.io args)
  (aW C G f.body _ (args++List.replicate (f.vars.length - f.arity) .un) (aC f.io .none) (aC f.io)) none
end Mine.Internal
set_option genSizeOf true
set_option genInjectivity true
namespace Mine.Internal
noncomputable def glb:List V:=[(.tup [(.int 0),(.int 1)]),(.tup [(.int 1),(.int 1)]),(.tup [(.tup []),(.tup [(.int 0),(.int 1)]),(.int 0)]),(.tup [(.str 0),(.int 0),(.int 1)]),(.tup [(.str 0),(.int 1),(.int 1)]),(.tup [(.str 0),(.int (-1)),(.int 1)]),(.tup [(.str 0),(.int 0),(.int 1)]),(.tup [(.str 0),(.int 1),(.int 1)]),(.tup [(.str 5),(.str 6),(.tup [(.tup [(.str 0),(.int 1),(.int 1)])])]),(.str 20),(.str 23),(.int 3),(.int 24),(.tup [(.str 1),(.str 20)]),(.tup [(.str 1),(.str 21)]),(.tup [(.str 1),(.str 17)]),(.tup [(.str 0),(.int 1),(.int 2)]),(.tup [(.str 0),(.int (-1)),(.int 1)])]
noncomputable def mJ:List Str:=["R0","R1","STILL","T_ZERO","T_ONE","T_MINUS","ZERO","ONE","EXP_ONE","FAR","LOW","BEYOND","MOST_MORE","FAR_END","LOW_END","_law_x","HALF","MINUS_ONE"]
noncomputable def rA:Fn:=⟨"gcd",2,false,["a","b"],
 [.unpE [0,1] [.e (.bi1 .abs (.var 0)),.e (.bi1 .abs (.var 1))],.whl (.cmp .ne (.var 1) (.int 0)) [.unpE [0,1] [.e (.var 1),.e (.bin .mod (.var 0) (.var 1))]],.ret (.var 0)]⟩
noncomputable def rB:Fn:=⟨"rat",2,false,["top","bottom","g"],
 [.ite (.cmp .eq (.var 1) (.int 0)) [.bad] [],.asg 2 (.ite (.cmp .gt (.var 1) (.int 0)) (.call 0 [(.var 0),(.var 1)]) (.bin .sub (.int 0) (.call 0 [(.var 0),(.var 1)]))),.ret (.tup [(.bin .fdiv (.var 0) (.var 2)),(.bin .fdiv (.var 1) (.var 2))])]⟩
noncomputable def nU:Fn:=⟨"radd",2,false,["a","b"],
 [.ret (.call 1 [(.bin .add (.bin .mul (.subN (.var 0) 0) (.subN (.var 1) 1)) (.bin .mul (.subN (.var 1) 0) (.subN (.var 0) 1))),(.bin .mul (.subN (.var 0) 1) (.subN (.var 1) 1))])]⟩
noncomputable def nV:Fn:=⟨"rsub",2,false,["a","b"],
 [.ret (.call 1 [(.bin .sub (.bin .mul (.subN (.var 0) 0) (.subN (.var 1) 1)) (.bin .mul (.subN (.var 1) 0) (.subN (.var 0) 1))),(.bin .mul (.subN (.var 0) 1) (.subN (.var 1) 1))])]⟩
noncomputable def nW:Fn:=⟨"rmul",2,false,["a","b"],
 [.ret (.call 1 [(.bin .mul (.subN (.var 0) 0) (.subN (.var 1) 0)),(.bin .mul (.subN (.var 0) 1) (.subN (.var 1) 1))])]⟩
noncomputable def nY:Fn:=⟨"rdiv",2,false,["a","b"],
 [.ret (.call 1 [(.bin .mul (.subN (.var 0) 0) (.subN (.var 1) 1)),(.bin .mul (.subN (.var 0) 1) (.subN (.var 1) 0))])]⟩
noncomputable def nZ:Fn:=⟨"rneg",1,false,["a"],
 [.ret (.tup [(.bin .sub (.int 0) (.subN (.var 0) 0)),(.subN (.var 0) 1)])]⟩
noncomputable def oA:Fn:=⟨"rinv",1,false,["a"],
 [.ret (.call 1 [(.subN (.var 0) 1),(.subN (.var 0) 0)])]⟩
noncomputable def jI:Fn:=⟨"rpower",2,false,["a","n"],
 [.ite (.cmp .lt (.var 1) (.int 0)) [.unpE [0,1] [.e (.call 7 [(.var 0)]),.e (.bin .sub (.int 0) (.var 1))]] [],.ret (.tup [(.bin .pow (.subN (.var 0) 0) (.var 1)),(.bin .pow (.subN (.var 0) 1) (.var 1))])]⟩
noncomputable def fZ:Fn:=⟨"rcompare",2,false,["a","b","off"],
 [.asg 2 (.bin .sub (.bin .mul (.subN (.var 0) 0) (.subN (.var 1) 1)) (.bin .mul (.subN (.var 1) 0) (.subN (.var 0) 1))),.ret (.bin .sub (.cmp .gt (.var 2) (.int 0)) (.cmp .lt (.var 2) (.int 0)))]⟩
noncomputable def iC:Fn:=⟨"ginsert",3,true,["found","kind","number","total"],
 [.asg 3 (.call 2 [(.dget 0 (.var 1) (.glob 0)),(.var 2)]),.ite (.cmp .eq (.var 3) (.glob 0)) [.ex (.dpop 0 (.var 1) .none)] [.setI 0 (.var 1) (.var 3)]]⟩
noncomputable def oB:Fn:=⟨"gadd",2,false,["a","b","found","kind"],
 [.cpD 2 (.var 0),.for [3] (.val (.var 1)) [.ex (.callO 10 2 [(.var 3),(.sub (.var 1) (.var 3))])],.ret (.frz 2)]⟩
noncomputable def gA:Fn:=⟨"poly_sum",2,false,["one","other","found","place","number"],
 [.mtD 2 (.var 0),.for [3,4] (.val (.var 1)) [.setI 2 (.var 3) (.call 2 [(.dget 2 (.var 3) (.glob 0)),(.var 4)])],.ret (.bi1 .tuple (.comp 1 (.srtE 2) [.bad] .bad))]⟩
noncomputable def cX:Fn:=⟨"kind_product",2,false,["one","other"],
 [.ret (.tup [(.call 12 [(.subN (.var 0) 0),(.subN (.var 1) 0)]),(.call 2 [(.subN (.var 0) 1),(.subN (.var 1) 1)]),(.bin .add (.subN (.var 0) 2) (.subN (.var 1) 2))])]⟩
noncomputable def oE:Fn:=⟨"gmul",2,false,["a","b","found","one","other"],
 [.newD 2,.for [3] (.val (.var 0)) [.for [4] (.val (.var 1)) [.ex (.callO 10 2 [(.call 13 [(.var 3),(.var 4)]),(.call 4 [(.sub (.var 0) (.var 3)),(.sub (.var 1) (.var 4))])])]],.ret (.frz 2)]⟩
noncomputable def cY:Fn:=⟨"kind_compare",2,false,["one","other","off","order"],
 [.asg 2 (.call 12 [(.subN (.var 0) 0),(.bi1 .tuple (.comp 2 (.val (.subN (.var 1) 0)) [] (.tup [(.var 4),(.call 6 [(.var 5)])])))]),.ite (.cmp .gt (.bi1 .len (.var 2)) (.int 0)) [.ret (.ite (.cmp .gt (.subN (.subN (.sub (.var 2) (.neg (.int 1))) 1) 0) (.int 0)) (.int 1) (.neg (.int 1)))] [],.asg 3 (.call 9 [(.subN (.var 0) 1),(.subN (.var 1) 1)]),.ret (.ite (.cmp .ne (.var 3) (.int 0)) (.var 3) (.bin .sub (.cmp .gt (.subN (.var 0) 2) (.subN (.var 1) 2)) (.cmp .lt (.subN (.var 0) 2) (.subN (.var 1) 2))))]⟩
noncomputable def iD:Fn:=⟨"fastest",1,false,["a","found","kind"],
 [.asg 1 .none,.for [2] (.val (.var 0)) [.ite (.or [(.isN (.var 1)),(.cmp .gt (.call 15 [(.var 2),(.var 1)]) (.int 0))]) [.asg 1 (.var 2)] []],.ret (.ite (.isN (.var 1)) .none (.tup [(.var 1),(.sub (.var 0) (.var 1))]))]⟩
noncomputable def cZ:Fn:=⟨"gratio_power",2,false,["told","many","top","bottom","found","turn"],
 [.unp [2,3] (.ite (.cmp .ge (.var 1) (.int 0)) (.var 0) (.tup [(.subN (.var 0) 1),(.subN (.var 0) 0)])),.asg 4 (.tup [(.dct1 (.glob 2) (.glob 1)),(.dct1 (.glob 2) (.glob 1))]),.for [5] (.rng1 (.bi1 .abs (.var 1))) [.asg 4 (.tup [(.call 14 [(.subN (.var 4) 0),(.var 2)]),(.call 14 [(.subN (.var 4) 1),(.var 3)])])],.ret (.var 4)]⟩
noncomputable def eV:Fn:=⟨"growth_of",2,false,["t","name","found","one","told"],
 [.ite (.cmp .eq (.subN (.var 0) 0) (.str 0)) [.ret (.tup [(.ite (.cmp .ne (.subN (.var 0) 1) (.int 0)) (.dct1 (.glob 2) (.tup [(.subN (.var 0) 1),(.subN (.var 0) 2)])) .dct0),(.dct1 (.glob 2) (.glob 1))])] [],.ite (.and [(.cmp .eq (.subN (.var 0) 0) (.str 1)),(.cmp .eq (.subN (.var 0) 1) (.var 1))]) [.ret (.tup [(.dct1 (.tup [(.tup []),(.glob 1),(.int 0)]) (.glob 1)),(.dct1 (.glob 2) (.glob 1))])] [],.ite (.cmp .eq (.subN (.var 0) 0) (.str 2)) [.asg 2 (.tup [.dct0,(.dct1 (.glob 2) (.glob 1))]),.for [3] (.val (.subN (.var 0) 1)) [.asg 4 (.call 18 [(.var 3),(.var 1)]),.asg 2 (.tup [(.call 11 [(.call 14 [(.subN (.var 2) 0),(.subN (.var 4) 1)]),(.call 14 [(.subN (.var 4) 0),(.subN (.var 2) 1)])]),(.call 14 [(.subN (.var 2) 1),(.subN (.var 4) 1)])])],.ret (.var 2)] [],.ite (.cmp .eq (.subN (.var 0) 0) (.str 3)) [.asg 2 (.tup [(.dct1 (.glob 2) (.glob 1)),(.dct1 (.glob 2) (.glob 1))]),.for [3] (.val (.subN (.var 0) 1)) [.asg 4 (.call 18 [(.var 3),(.var 1)]),.asg 2 (.tup [(.call 14 [(.subN (.var 2) 0),(.subN (.var 4) 0)]),(.call 14 [(.subN (.var 2) 1),(.subN (.var 4) 1)])])],.ret (.var 2)] [],.ret (.call 19 [(.var 0),(.var 1)])]⟩
noncomputable def cD:Fn:=⟨"growth_of_other",2,false,["t","name","told"],
 [.ite (.and [(.cmp .eq (.subN (.var 0) 0) (.str 4)),(.cmp .eq (.subN (.subN (.var 0) 2) 0) (.str 0))]) [.asg 2 (.call 18 [(.subN (.var 0) 1),(.var 1)]),.ret (.ite (.cmp .eq (.subN (.subN (.var 0) 2) 2) (.int 1)) (.call 17 [(.var 2),(.subN (.subN (.var 0) 2) 1)]) .bad)] [],.ite (.and [(.cmp .eq (.subN (.var 0) 0) (.str 5)),(.cmp .eq (.subN (.var 0) 1) (.str 6)),(.cmp .eq (.bi1 .len (.subN (.var 0) 2)) (.int 1))]) [.asg 2 (.call 18 [(.subN (.subN (.var 0) 2) 0),(.var 1)]),.ite (.cmp .ne (.subN (.var 2) 1) (.dct1 (.glob 2) (.glob 1))) [.bad] [],.bad] [],.ite (.and [(.cmp .eq (.subN (.var 0) 0) (.str 5)),(.cmp .eq (.subN (.var 0) 1) (.str 7)),(.cmp .eq (.subN (.var 0) 2) (.tup [(.tup [(.str 1),(.var 1)])]))]) [.ret (.tup [(.dct1 (.tup [(.tup []),(.glob 0),(.int 1)]) (.glob 1)),(.dct1 (.glob 2) (.glob 1))])] [],.ite (.and [(.cmp .eq (.subN (.var 0) 0) (.str 5)),(.cmp .eq (.subN (.var 0) 1) (.str 8)),(.cmp .eq (.bi1 .len (.subN (.var 0) 2)) (.int 1))]) [.bad] [],.bad]⟩
noncomputable def eW:Fn:=⟨"far_limit",1,false,["told","above","below","order","number"],
 [.unpE [1,2] [.e (.call 16 [(.subN (.var 0) 0)]),.e (.call 16 [(.subN (.var 0) 1)])],.ite (.isN (.var 2)) [.bad] [],.ite (.isN (.var 1)) [.ret (.glob 0)] [],.asg 3 (.call 15 [(.subN (.var 1) 0),(.subN (.var 2) 0)]),.asg 4 (.call 4 [(.subN (.var 1) 1),(.call 8 [(.subN (.var 2) 1),(.neg (.int 1))])]),.ite (.cmp .eq (.var 3) (.int 0)) [.ret (.var 4)] [],.ite (.cmp .lt (.var 3) (.int 0)) [.ret (.glob 0)] [],.ret (.ite (.cmp .gt (.subN (.var 4) 0) (.int 0)) (.str 20) (.str 23))]⟩
noncomputable def sQ:Fn:=⟨"cut",2,false,["a","order"],
 [.ret (.bin .add (.bi1 .list (.slcHi (.var 0) (.var 1))) (.bin .mul (.lst [(.glob 0)]) (.bin .sub (.var 1) (.bi1 .len (.var 0)))))]⟩
noncomputable def oF:Fn:=⟨"sadd",2,false,["a","b"],
 [.ret (.comp 1 (.rng1 (.bi2 .min (.bi1 .len (.var 0)) (.bi1 .len (.var 1)))) [] (.call 2 [(.sub (.var 0) (.var 2)),(.sub (.var 1) (.var 2))]))]⟩
noncomputable def lL:Fn:=⟨"mixed",3,false,["a","b","at","found","spot"],
 [.asg 3 (.glob 0),.for [4] (.rng1 (.bin .add (.var 2) (.int 1))) [.ite (.and [(.cmp .ne (.sub (.var 0) (.var 4)) (.glob 0)),(.cmp .ne (.sub (.var 1) (.bin .sub (.var 2) (.var 4))) (.glob 0))]) [.asg 3 (.call 2 [(.var 3),(.call 4 [(.sub (.var 0) (.var 4)),(.sub (.var 1) (.bin .sub (.var 2) (.var 4)))])])] []],.ret (.var 3)]⟩
noncomputable def oG:Fn:=⟨"smul",2,false,["a","b"],
 [.ret (.comp 1 (.rng1 (.bi2 .min (.bi1 .len (.var 0)) (.bi1 .len (.var 1)))) [] (.call 23 [(.var 0),(.var 1),(.var 2)]))]⟩
noncomputable def gB:Fn:=⟨"sinverse",1,false,["a","found","at","total","spot"],
 [.ite (.and [(.cmp .gt (.bi1 .len (.var 0)) (.int 0)),(.cmp .eq (.subN (.var 0) 0) (.glob 0))]) [.bad] [],.newL 1,.for [2] (.rng1 (.bi1 .len (.var 0))) [.asg 3 (.ite (.cmp .eq (.var 2) (.int 0)) (.glob 1) (.glob 0)),.for [4] (.rng2 (.int 1) (.bin .add (.var 2) (.int 1))) [.asg 3 (.call 3 [(.var 3),(.call 4 [(.sub (.var 0) (.var 4)),(.subO 1 (.bin .sub (.var 2) (.var 4)))])])],.app 1 (.call 5 [(.var 3),(.subN (.var 0) 0)])],.ret (.frz 1)]⟩
noncomputable def eE:Fn:=⟨"need_begin",2,false,["a","number"],
 [.ite (.and [(.cmp .gt (.bi1 .len (.var 0)) (.int 0)),(.cmp .ne (.call 9 [(.subN (.var 0) 0),(.var 1)]) (.int 0))]) [.bad] []]⟩
noncomputable def oH:Fn:=⟨"sexp",1,false,["a","found","at","total","spot"],
 [.ex (.call 26 [(.var 0),(.glob 0)]),.newL 1,.for [2] (.rng1 (.bi1 .len (.var 0))) [.asg 3 (.glob 0),.for [4] (.rng2 (.int 1) (.bin .add (.var 2) (.int 1))) [.asg 3 (.call 2 [(.var 3),(.call 4 [(.call 4 [(.tup [(.var 4),(.int 1)]),(.sub (.var 0) (.var 4))]),(.subO 1 (.bin .sub (.var 2) (.var 4)))])])],.app 1 (.ite (.cmp .eq (.var 2) (.int 0)) (.glob 1) (.call 5 [(.var 3),(.tup [(.var 2),(.int 1)])]))],.ret (.frz 1)]⟩
noncomputable def gC:Fn:=⟨"ssin_cos",1,false,["a","sines","others","at","one","other","spot","moved"],
 [.ex (.call 26 [(.var 0),(.glob 0)]),.unpE [1,2] [.newL,.newL],.for [3] (.rng1 (.bi1 .len (.var 0))) [.unpE [4,5] [.e (.glob 0),.e (.glob 0)],.for [6] (.rng2 (.int 1) (.bin .add (.var 3) (.int 1))) [.asg 7 (.call 4 [(.tup [(.var 6),(.int 1)]),(.sub (.var 0) (.var 6))]),.asg 4 (.call 2 [(.var 4),(.call 4 [(.var 7),(.subO 2 (.bin .sub (.var 3) (.var 6)))])]),.asg 5 (.call 3 [(.var 5),(.call 4 [(.var 7),(.subO 1 (.bin .sub (.var 3) (.var 6)))])])],.app 1 (.ite (.cmp .eq (.var 3) (.int 0)) (.glob 0) (.call 5 [(.var 4),(.tup [(.var 3),(.int 1)])])),.app 2 (.ite (.cmp .eq (.var 3) (.int 0)) (.glob 1) (.call 5 [(.var 5),(.tup [(.var 3),(.int 1)])]))],.ret (.tup [(.frz 1),(.frz 2)])]⟩
noncomputable def oJ:Fn:=⟨"ssin",1,false,["a"],
 [.ret (.subN (.call 28 [(.var 0)]) 0)]⟩
noncomputable def dA:Fn:=⟨"swhole_power",2,false,["a","many","base","found","left"],
 [.asg 2 (.ite (.cmp .lt (.var 1) (.int 0)) (.call 25 [(.var 0)]) (.var 0)),.unpE [3,4] [.e (.call 21 [(.lst [(.glob 1)]),(.bi1 .len (.var 0))]),.e (.bi1 .abs (.var 1))],.whl (.cmp .gt (.var 4) (.int 0)) [.ite (.cmp .eq (.bin .mod (.var 4) (.int 2)) (.int 1)) [.asg 3 (.call 24 [(.var 3),(.var 2)])] [],.asg 2 (.call 24 [(.var 2),(.var 2)]),.asg 4 (.bin .fdiv (.var 4) (.int 2))],.ret (.var 3)]⟩
noncomputable def jJ:Fn:=⟨"lplain",2,false,["number","many"],
 [.ret (.tup [(.int 0),(.bin .add (.lst [(.var 0)]) (.bin .mul (.lst [(.glob 0)]) (.bin .sub (.var 1) (.int 1))))])]⟩
noncomputable def jK:Fn:=⟨"lmoved",2,false,["a","low"],
 [.ret (.tup [(.var 1),(.bin .add (.bin .mul (.lst [(.glob 0)]) (.bin .sub (.subN (.var 0) 0) (.var 1))) (.subN (.var 0) 1))])]⟩
noncomputable def mK:Fn:=⟨"ladd",2,false,["a","b","low"],
 [.asg 2 (.bi2 .min (.subN (.var 0) 0) (.subN (.var 1) 0)),.ret (.tup [(.var 2),(.call 22 [(.subN (.call 32 [(.var 0),(.var 2)]) 1),(.subN (.call 32 [(.var 1),(.var 2)]) 1)])])]⟩
noncomputable def oK:Fn:=⟨"lmul",2,false,["a","b"],
 [.ret (.tup [(.bin .add (.subN (.var 0) 0) (.subN (.var 1) 0)),(.call 24 [(.subN (.var 0) 1),(.subN (.var 1) 1)])])]⟩
noncomputable def iX:Fn:=⟨"ltrim",1,false,["a","low","rest"],
 [.unp [1,2] (.var 0),.whl (.and [(.cmp .gt (.bi1 .len (.var 2)) (.int 0)),(.cmp .eq (.subN (.var 2) 0) (.glob 0))]) [.unpE [1,2] [.e (.bin .add (.var 1) (.int 1)),.e (.slcLo (.var 2) (.int 1))]],.ret (.tup [(.var 1),(.var 2)])]⟩
noncomputable def gD:Fn:=⟨"linverse",1,false,["a","low","rest"],
 [.unp [1,2] (.call 35 [(.var 0)]),.ite (.cmp .eq (.bi1 .len (.var 2)) (.int 0)) [.bad] [],.ret (.tup [(.bin .sub (.int 0) (.var 1)),(.call 25 [(.var 2)])])]⟩
noncomputable def jL:Fn:=⟨"lpower",2,false,["a","many","low","rest"],
 [.ite (.cmp .eq (.var 1) (.int 0)) [.ret (.tup [(.int 0),(.bin .add (.lst [(.glob 1)]) (.bin .mul (.lst [(.glob 0)]) (.bin .sub (.bi1 .len (.subN (.var 0) 1)) (.int 1))))])] [],.ite (.cmp .lt (.var 1) (.int 0)) [.ret (.call 37 [(.call 36 [(.var 0)]),(.bin .sub (.int 0) (.var 1))])] [],.unp [2,3] (.call 35 [(.var 0)]),.ret (.tup [(.bin .mul (.var 2) (.var 1)),(.call 30 [(.var 3),(.var 1)])])]⟩
noncomputable def oM:Fn:=⟨"lcut",2,false,["a","end","low","rest"],
 [.unp [2,3] (.call 35 [(.var 0)]),.ite (.and [(.cmp .gt (.bi1 .len (.var 3)) (.int 0)),(.cmp .lt (.var 2) (.int 0))]) [.bad] [],.ite (.cmp .lt (.bin .add (.var 2) (.bi1 .len (.var 3))) (.var 1)) [.ret .none] [],.ret (.ite (.cmp .ge (.var 2) (.int 0)) (.slcHi (.bin .add (.bin .mul (.lst [(.glob 0)]) (.var 2)) (.var 3)) (.var 1)) (.bin .mul (.lst [(.glob 0)]) (.var 1)))]⟩
noncomputable def eX:Fn:=⟨"from_zero",1,false,["told","low","rest"],
 [.unp [1,2] (.call 35 [(.var 0)]),.ite (.and [(.cmp .lt (.var 1) (.int 0)),(.cmp .gt (.bi1 .len (.var 2)) (.int 0))]) [.bad] [],.ret (.bin .add (.bin .mul (.lst [(.glob 0)]) (.bi2 .max (.var 1) (.int 0))) (.var 2))]⟩
noncomputable def iE:Fn:=⟨"of_call",2,false,["name","told","inner"],
 [.asg 2 (.call 39 [(.var 1)]),.ite (.cmp .eq (.var 0) (.str 6)) [.ret (.tup [(.int 0),(.call 27 [(.var 2)])])] [],.ite (.cmp .eq (.var 0) (.str 7)) [.bad] [],.ite (.cmp .eq (.var 0) (.str 9)) [.ret (.tup [(.int 0),(.call 29 [(.var 2)])])] [],.ite (.cmp .eq (.var 0) (.str 10)) [.bad] [],.ite (.cmp .eq (.var 0) (.str 11)) [.bad] [],.ite (.cmp .eq (.var 0) (.str 12)) [.bad] [],.ite (.cmp .eq (.var 0) (.str 8)) [.bad] [],.bad]⟩
noncomputable def gE:Fn:=⟨"of_power",4,false,["base","exponent","many","letter","told"],
 [.ite (.cmp .ne (.subN (.var 1) 0) (.str 0)) [.bad] [],.asg 4 (.call 42 [(.var 0),(.var 2),(.var 3)]),.ite (.cmp .eq (.subN (.var 1) 2) (.int 1)) [.ret (.call 37 [(.var 4),(.subN (.var 1) 1)])] [],.bad]⟩
noncomputable def gR:Fn:=⟨"of_term",3,false,["t","many","letter","found","one","told"],
 [.ite (.cmp .eq (.subN (.var 0) 0) (.str 0)) [.ret (.call 31 [(.tup [(.subN (.var 0) 1),(.subN (.var 0) 2)]),(.var 1)])] [],.ite (.cmp .eq (.subN (.var 0) 0) (.str 1)) [.ite (.cmp .ne (.subN (.var 0) 1) (.subN (.var 2) 0)) [.bad] [],.ret (.tup [(.subN (.subN (.var 2) 1) 0),(.bin .add (.subN (.subN (.var 2) 1) 1) (.bin .mul (.lst [(.glob 0)]) (.bin .sub (.var 1) (.bi1 .len (.subN (.subN (.var 2) 1) 1)))))])] [],.ite (.cmp .eq (.subN (.var 0) 0) (.str 4)) [.ret (.call 41 [(.subN (.var 0) 1),(.subN (.var 0) 2),(.var 1),(.var 2)])] [],.ite (.and [(.cmp .eq (.subN (.var 0) 0) (.str 5)),(.cmp .eq (.bi1 .len (.subN (.var 0) 2)) (.int 1))]) [.ret (.call 40 [(.subN (.var 0) 1),(.call 42 [(.subN (.subN (.var 0) 2) 0),(.var 1),(.var 2)])])] [],.ite (.inS false (.subN (.var 0) 0) [2,3]) [.bad] [],.asg 3 (.call 31 [(.ite (.cmp .eq (.subN (.var 0) 0) (.str 2)) (.glob 0) (.glob 1)),(.var 1)]),.for [4] (.val (.subN (.var 0) 1)) [.asg 5 (.call 42 [(.var 4),(.var 1),(.var 2)]),.asg 3 (.ite (.cmp .eq (.subN (.var 0) 0) (.str 2)) (.call 33 [(.var 3),(.var 5)]) (.call 34 [(.var 3),(.var 5)]))],.ret (.var 3)]⟩
noncomputable def dJ:Fn:=⟨"laurent_of",3,false,["t","letter","end","more","found","e"],
 [.asg 3 (.int 2),.whl (.cmp .le (.var 3) (.glob 12)) [.tryS [.asg 4 (.call 42 [(.var 0),(.bin .add (.bi2 .max (.var 2) (.int 1)) (.var 3)),(.var 1)]),.ite (.cmp .ge (.bin .add (.subN (.var 4) 0) (.bi1 .len (.subN (.var 4) 1))) (.var 2)) [.ret (.var 4)] []],.asg 3 (.bin .mul (.var 3) (.int 2))],.bad]⟩
noncomputable def eB:Fn:=⟨"series_of",4,false,["t","name","at","order","found"],
 [.asg 4 (.call 38 [(.call 43 [(.var 0),(.tup [(.var 1),(.tup [(.int 0),(.lst [(.var 2),(.glob 1)])])]),(.var 3)]),(.var 3)]),.ite (.isN (.var 4)) [.bad] [],.ret (.var 4)]⟩
noncomputable def dK:Fn:=⟨"from_begin",2,false,["told","side","low","rest","is_odd","is_up"],
 [.unp [2,3] (.call 35 [(.var 0)]),.ite (.or [(.cmp .eq (.bi1 .len (.var 3)) (.int 0)),(.cmp .gt (.var 2) (.int 0))]) [.ret (.glob 0)] [],.ite (.cmp .eq (.var 2) (.int 0)) [.ret (.subN (.var 3) 0)] [],.asg 4 (.cmp .eq (.bin .mod (.var 2) (.int 2)) (.int 1)),.ite (.and [(.var 4),(.cmp .eq (.var 1) (.int 0))]) [.ret .none] [],.asg 5 (.cmp .ne (.cmp .gt (.subN (.subN (.var 3) 0) 0) (.int 0)) (.and [(.var 4),(.cmp .lt (.var 1) (.int 0))])),.ret (.ite (.var 5) (.glob 9) (.glob 10))]⟩
noncomputable def eG:Fn:=⟨"limit_near",4,false,["t","name","at","side"],
 [.ret (.call 45 [(.call 43 [(.var 0),(.tup [(.var 1),(.tup [(.int 0),(.lst [(.var 2),(.glob 1)])])]),(.glob 11)]),(.var 3)])]⟩
noncomputable def gI:Fn:=⟨"mirrored",2,false,["t","name"],
 [.ite (.cmp .eq (.subN (.var 0) 0) (.str 1)) [.ret (.ite (.cmp .eq (.subN (.var 0) 1) (.var 1)) (.tup [(.str 3),(.tup [(.tup [(.str 0),(.neg (.int 1)),(.int 1)]),(.var 0)])]) (.var 0))] [],.ite (.inS true (.subN (.var 0) 0) [2,3]) [.ret (.tup [(.subN (.var 0) 0),(.bi1 .tuple (.comp 1 (.val (.subN (.var 0) 1)) [] (.call 47 [(.var 2),(.var 1)])))])] [],.ite (.cmp .eq (.subN (.var 0) 0) (.str 4)) [.ret (.tup [(.str 4),(.call 47 [(.subN (.var 0) 1),(.var 1)]),(.call 47 [(.subN (.var 0) 2),(.var 1)])])] [],.ite (.cmp .eq (.subN (.var 0) 0) (.str 5)) [.ret (.tup [(.str 5),(.subN (.var 0) 1),(.bi1 .tuple (.comp 1 (.val (.subN (.var 0) 2)) [] (.call 47 [(.var 2),(.var 1)])))])] [],.ret (.var 0)]⟩
noncomputable def eY:Fn:=⟨"limit_far",3,false,["t","name","is_above","e","first"],
 [.tryS [.ret (.call 20 [(.call 18 [(.ite (.var 2) (.var 0) (.call 47 [(.var 0),(.var 1)])),(.var 1)])])],.asg 4 (.ite (.var 2) (.glob 1) (.tup [(.neg (.int 1)),(.int 1)])),.ret (.call 45 [(.call 43 [(.var 0),(.tup [(.var 1),(.tup [(.neg (.int 1)),(.lst [(.var 4)])])]),(.glob 11)]),(.int 1)])]⟩
noncomputable def kA:Fn:=⟨"limit",4,false,["t","name","at","side"],
 [.ite (.or [(.cmp .eq (.var 2) (.glob 9)),(.cmp .eq (.var 2) (.glob 10))]) [.ret (.call 48 [(.var 0),(.var 1),(.cmp .eq (.var 2) (.glob 9))])] [],.ret (.call 46 [(.var 0),(.var 1),(.var 2),(.var 3)])]⟩
noncomputable def lM:Fn:=⟨"t_num",2,false,["top","bottom","told"],
 [.asg 2 (.call 1 [(.var 0),(.var 1)]),.ret (.tup [(.str 0),(.subN (.var 2) 0),(.subN (.var 2) 1)])]⟩
noncomputable def lN:Fn:=⟨"t_sym",1,false,["name"],
 [.ret (.tup [(.str 1),(.var 0)])]⟩
noncomputable def lO:Fn:=⟨"t_sum",1,false,["some_terms"],
 [.ite (.cmp .eq (.bi1 .len (.var 0)) (.int 0)) [.ret (.glob 3)] [],.ret (.ite (.cmp .eq (.bi1 .len (.var 0)) (.int 1)) (.subN (.var 0) 0) (.tup [(.str 2),(.bi1 .tuple (.var 0))]))]⟩
noncomputable def jM:Fn:=⟨"t_prod",1,false,["some_terms"],
 [.ite (.cmp .eq (.bi1 .len (.var 0)) (.int 0)) [.ret (.glob 4)] [],.ret (.ite (.cmp .eq (.bi1 .len (.var 0)) (.int 1)) (.subN (.var 0) 0) (.tup [(.str 3),(.bi1 .tuple (.var 0))]))]⟩
noncomputable def lP:Fn:=⟨"t_pow",2,false,["base","exponent"],
 [.ret (.tup [(.str 4),(.var 0),(.var 1)])]⟩
noncomputable def iF:Fn:=⟨"t_minus",1,false,["term"],
 [.ret (.tup [(.str 3),(.tup [(.glob 5),(.var 0)])])]⟩
noncomputable def jN:Fn:=⟨"is_num",1,false,["term"],
 [.ret (.cmp .eq (.subN (.var 0) 0) (.str 0))]⟩
noncomputable def jO:Fn:=⟨"num_of",1,false,["term"],
 [.ret (.tup [(.subN (.var 0) 1),(.subN (.var 0) 2)])]⟩
noncomputable def dB:Fn:=⟨"is_whole_num",1,false,["term"],
 [.ret (.and [(.cmp .eq (.subN (.var 0) 0) (.str 0)),(.cmp .eq (.subN (.var 0) 2) (.int 1))])]⟩
noncomputable def dC:Fn:=⟨"sign_between",2,false,["one","other"],
 [.ite (.cmp .eq (.var 0) (.var 1)) [.ret (.int 0)] [],.ret (.ite (.cmp .lt (.var 0) (.var 1)) (.neg (.int 1)) (.int 1))]⟩
noncomputable def cJ:Fn:=⟨"compare_values",2,false,["one","other"],
 [.ret (.call 59 [(.bin .mul (.subN (.var 0) 0) (.subN (.var 1) 1)),(.bin .mul (.subN (.var 1) 0) (.subN (.var 0) 1))])]⟩
noncomputable def dD:Fn:=⟨"bare_factors",1,false,["term"],
 [.ite (.cmp .ne (.subN (.var 0) 0) (.str 3)) [.ret (.lst [(.var 0)])] [],.ret (.comp 1 (.val (.subN (.var 0) 1)) [(.not (.call 56 [(.var 1)]))] (.var 1))]⟩
noncomputable def dS:Fn:=⟨"front_value",1,false,["term"],
 [.ite (.and [(.cmp .eq (.subN (.var 0) 0) (.str 3)),(.call 56 [(.subN (.subN (.var 0) 1) 0)])]) [.ret (.call 57 [(.subN (.subN (.var 0) 1) 0)])] [],.ret (.tup [(.int 1),(.int 1)])]⟩
noncomputable def bR:Fn:=⟨"base_and_exponent",1,false,["term"],
 [.ret (.ite (.cmp .eq (.subN (.var 0) 0) (.str 4)) (.tup [(.subN (.var 0) 1),(.subN (.var 0) 2)]) (.tup [(.var 0),(.glob 4)]))]⟩
noncomputable def dE:Fn:=⟨"compare_rows",2,false,["ones","others","at","found"],
 [.for [2] (.rng1 (.bi2 .min (.bi1 .len (.var 0)) (.bi1 .len (.var 1)))) [.asg 3 (.call 68 [(.sub (.var 0) (.var 2)),(.sub (.var 1) (.var 2))]),.ite (.cmp .ne (.var 3) (.int 0)) [.ret (.var 3)] []],.ret (.call 59 [(.bi1 .len (.var 1)),(.bi1 .len (.var 0))])]⟩
noncomputable def bS:Fn:=⟨"compare_exponents",2,false,["one","other"],
 [.ite (.and [(.call 56 [(.var 0)]),(.call 56 [(.var 1)])]) [.ret (.call 60 [(.call 57 [(.var 1)]),(.call 57 [(.var 0)])])] [],.ite (.cmp .ne (.call 56 [(.var 0)]) (.call 56 [(.var 1)])) [.ret (.ite (.call 56 [(.var 0)]) (.int 1) (.neg (.int 1)))] [],.ret (.call 68 [(.var 0),(.var 1)])]⟩
noncomputable def cP:Fn:=⟨"compare_bases",2,false,["one","other","found","kind"],
 [.asg 2 (.call 59 [(.rank (.subN (.var 0) 0)),(.rank (.subN (.var 1) 0))]),.ite (.cmp .ne (.var 2) (.int 0)) [.ret (.var 2)] [],.asg 3 (.subN (.var 0) 0),.ite (.cmp .eq (.var 3) (.str 0)) [.ret (.call 60 [(.call 57 [(.var 0)]),(.call 57 [(.var 1)])])] [],.ite (.cmp .eq (.var 3) (.str 1)) [.ret (.call 59 [(.subN (.var 0) 1),(.subN (.var 1) 1)])] [],.ite (.cmp .eq (.var 3) (.str 5)) [.asg 2 (.call 59 [(.subN (.var 0) 1),(.subN (.var 1) 1)]),.ret (.ite (.cmp .ne (.var 2) (.int 0)) (.var 2) (.call 64 [(.subN (.var 0) 2),(.subN (.var 1) 2)]))] [],.ite (.inS true (.var 3) [2,3,16]) [.ret (.call 64 [(.subN (.var 0) 1),(.subN (.var 1) 1)])] [],.ret (.call 64 [(.slcLo (.var 0) (.int 1)),(.slcLo (.var 1) (.int 1))])]⟩
noncomputable def cE:Fn:=⟨"compare_factors",2,false,["one","other","base","exponent","other_base","other_exponent","found"],
 [.unp [2,3] (.call 63 [(.var 0)]),.unp [4,5] (.call 63 [(.var 1)]),.asg 6 (.call 66 [(.var 2),(.var 4)]),.ret (.ite (.cmp .ne (.var 6) (.int 0)) (.var 6) (.call 65 [(.var 3),(.var 5)]))]⟩
noncomputable def cQ:Fn:=⟨"compare_terms",2,false,["one","other","ones","others","at","found"],
 [.ite (.and [(.call 56 [(.var 0)]),(.call 56 [(.var 1)])]) [.ret (.call 60 [(.call 57 [(.var 0)]),(.call 57 [(.var 1)])])] [],.ite (.cmp .ne (.call 56 [(.var 0)]) (.call 56 [(.var 1)])) [.ret (.ite (.call 56 [(.var 0)]) (.int 1) (.neg (.int 1)))] [],.unpE [2,3] [.e (.call 61 [(.var 0)]),.e (.call 61 [(.var 1)])],.for [4] (.rng1 (.bi2 .min (.bi1 .len (.var 2)) (.bi1 .len (.var 3)))) [.asg 5 (.call 67 [(.sub (.var 2) (.var 4)),(.sub (.var 3) (.var 4))]),.ite (.cmp .ne (.var 5) (.int 0)) [.ret (.var 5)] []],.asg 5 (.call 59 [(.bi1 .len (.var 3)),(.bi1 .len (.var 2))]),.ret (.ite (.cmp .ne (.var 5) (.int 0)) (.var 5) (.call 60 [(.call 62 [(.var 0)]),(.call 62 [(.var 1)])]))]⟩
noncomputable def dF:Fn:=⟨"merged_terms",2,false,["ones","others","found","at","spot","is_first"],
 [.unpE [2,3,4] [.newL,.e (.int 0),.e (.int 0)],.whl (.or [(.cmp .lt (.var 3) (.bi1 .len (.var 0))),(.cmp .lt (.var 4) (.bi1 .len (.var 1)))]) [.asg 5 (.or [(.cmp .ge (.var 4) (.bi1 .len (.var 1))),(.and [(.cmp .lt (.var 3) (.bi1 .len (.var 0))),(.cmp .le (.call 68 [(.sub (.var 0) (.var 3)),(.sub (.var 1) (.var 4))]) (.int 0))])]),.ite (.var 5) [.app 2 (.sub (.var 0) (.var 3)),.aug 3 (.int 1)] [.app 2 (.sub (.var 1) (.var 4)),.aug 4 (.int 1)]],.ret (.frz 2)]⟩
noncomputable def eH:Fn:=⟨"sort_terms",1,false,["some_terms","middle"],
 [.ite (.cmp .lt (.bi1 .len (.var 0)) (.int 2)) [.ret (.bi1 .list (.var 0))] [],.asg 1 (.bin .fdiv (.bi1 .len (.var 0)) (.int 2)),.ret (.call 69 [(.call 70 [(.slcHi (.var 0) (.var 1))]),(.call 70 [(.slcLo (.var 0) (.var 1))])])]⟩
noncomputable def dT:Fn:=⟨"number_term",1,false,["r"],
 [.ret (.tup [(.str 0),(.subN (.var 0) 0),(.subN (.var 0) 1)])]⟩
noncomputable def cF:Fn:=⟨"number_and_rest",1,false,["t","rest"],
 [.ite (.cmp .eq (.subN (.var 0) 0) (.str 0)) [.ret (.tup [(.tup [(.subN (.var 0) 1),(.subN (.var 0) 2)]),(.glob 7)])] [],.ite (.or [(.cmp .ne (.subN (.var 0) 0) (.str 3)),(.cmp .ne (.subN (.subN (.subN (.var 0) 1) 0) 0) (.str 0))]) [.ret (.tup [(.tup [(.int 1),(.int 1)]),(.var 0)])] [],.asg 1 (.ite (.cmp .eq (.bi1 .len (.subN (.var 0) 1)) (.int 2)) (.subN (.subN (.var 0) 1) 1) (.tup [(.str 3),(.slcLo (.subN (.var 0) 1) (.int 1))])),.ret (.tup [(.tup [(.subN (.subN (.subN (.var 0) 1) 0) 1),(.subN (.subN (.subN (.var 0) 1) 0) 2)]),(.var 1)])]⟩
noncomputable def dU:Fn:=⟨"with_number",2,false,["r","rest"],
 [.ite (.or [(.cmp .eq (.subN (.var 0) 0) (.int 0)),(.cmp .eq (.var 1) (.glob 7))]) [.ret (.call 71 [(.var 0)])] [],.ite (.cmp .eq (.var 0) (.tup [(.int 1),(.int 1)])) [.ret (.var 1)] [],.ret (.tup [(.str 3),(.bin .add (.tup [(.call 71 [(.var 0)])]) (.ite (.cmp .eq (.subN (.var 1) 0) (.str 3)) (.subN (.var 1) 1) (.tup [(.var 1)])))])]⟩
noncomputable def cU:Fn:=⟨"flat_parts",2,false,["parts","kind","found","part"],
 [.newL 2,.for [3] (.val (.var 0)) [.ext 2 (.ite (.cmp .eq (.subN (.var 3) 0) (.var 1)) (.bi1 .list (.subN (.var 3) 1)) (.lst [(.var 3)]))],.ret (.frz 2)]⟩
noncomputable def cK:Fn:=⟨"gathered_sum",1,false,["parts","counts","part","r","rest","number","found"],
 [.newD 1,.for [2] (.val (.call 74 [(.var 0),(.str 2)])) [.unp [3,4] (.call 72 [(.var 2)]),.setI 1 (.var 4) (.call 2 [(.dget 1 (.var 4) (.tup [(.int 0),(.int 1)])),(.var 3)])],.asg 5 (.dpop 1 (.glob 7) (.tup [(.int 0),(.int 1)])),.asg 6 (.comp 2 (.itm 1) [(.cmp .ne (.subN (.var 8) 0) (.int 0))] (.call 73 [(.var 8),(.var 7)])),.ite (.cmp .gt (.bi1 .len (.comp 1 (.val (.var 6)) [(.cmp .eq (.subN (.var 7) 0) (.str 2))] (.var 7))) (.int 0)) [.ret (.call 75 [(.bin .add (.var 6) (.lst [(.call 71 [(.var 5)])]))])] [],.asg 6 (.bin .add (.call 70 [(.var 6)]) (.ite (.cmp .ne (.subN (.var 5) 0) (.int 0)) (.lst [(.call 71 [(.var 5)])]) (.lst []))),.ite (.cmp .eq (.bi1 .len (.var 6)) (.int 0)) [.ret (.glob 6)] [],.ret (.ite (.cmp .eq (.bi1 .len (.var 6)) (.int 1)) (.subN (.var 6) 0) (.tup [(.str 2),(.bi1 .tuple (.var 6))]))]⟩
noncomputable def gJ:Fn:=⟨"as_power",1,false,["t"],
 [.ite (.cmp .eq (.subN (.var 0) 0) (.str 4)) [.ret (.tup [(.subN (.var 0) 1),(.subN (.var 0) 2)])] [],.ite (.and [(.cmp .eq (.subN (.var 0) 0) (.str 5)),(.cmp .eq (.subN (.var 0) 1) (.str 6))]) [.ret (.tup [(.glob 8),(.subN (.subN (.var 0) 2) 0)])] [],.ret (.tup [(.var 0),(.glob 7)])]⟩
noncomputable def bI:Fn:=⟨"gathered_product",1,false,["parts","number","exponents","part","base","exponent","found","is_done","made"],
 [.unpE [1,2] [.e (.tup [(.int 1),(.int 1)]),.newD],.for [3] (.val (.call 74 [(.var 0),(.str 3)])) [.ite (.cmp .eq (.subN (.var 3) 0) (.str 0)) [.asg 1 (.call 4 [(.var 1),(.tup [(.subN (.var 3) 1),(.subN (.var 3) 2)])])] [.unp [4,5] (.call 76 [(.var 3)]),.setI 2 (.var 4) (.call 75 [(.lst [(.dget 2 (.var 4) (.glob 6)),(.var 5)])])]],.ite (.cmp .eq (.subN (.var 1) 0) (.int 0)) [.ret (.glob 6)] [],.unpE [6,7] [.newL,.e (.bool true)],.for [4,5] (.itm 2) [.asg 8 (.call 78 [(.var 4),(.var 5)]),.ite (.cmp .eq (.subN (.var 8) 0) (.str 0)) [.asg 1 (.call 4 [(.var 1),(.tup [(.subN (.var 8) 1),(.subN (.var 8) 2)])])] [.asg 7 (.and [(.var 7),(.cmp .ne (.subN (.var 8) 0) (.str 3)),(.cmp .eq (.subN (.call 76 [(.var 8)]) 0) (.var 4))]),.app 6 (.var 8)]],.ite (.not (.var 7)) [.ret (.call 77 [(.bin .add (.lst [(.call 71 [(.var 1)])]) (.frz 6))])] [],.asg 6 (.call 70 [(.frz 6)]),.ite (.or [(.cmp .eq (.bi1 .len (.var 6)) (.int 0)),(.cmp .eq (.subN (.var 1) 0) (.int 0))]) [.ret (.call 71 [(.var 1)])] [],.ret (.call 73 [(.var 1),(.ite (.cmp .eq (.bi1 .len (.var 6)) (.int 1)) (.subN (.var 6) 0) (.tup [(.str 3),(.bi1 .tuple (.var 6))]))])]⟩
noncomputable def gK:Fn:=⟨"power_of",2,false,["base","exponent"],
 [.ite (.cmp .eq (.var 1) (.glob 6)) [.ite (.cmp .eq (.var 0) (.glob 6)) [.bad] [],.ret (.glob 7)] [],.ite (.cmp .eq (.var 1) (.glob 7)) [.ret (.var 0)] [],.ite (.cmp .eq (.var 0) (.glob 8)) [.bad] [],.ite (.cmp .eq (.subN (.var 0) 0) (.str 0)) [.bad] [],.ite (.and [(.call 58 [(.var 1)]),(.cmp .eq (.subN (.var 0) 0) (.str 3))]) [.ret (.call 77 [(.comp 1 (.val (.subN (.var 0) 1)) [] (.call 78 [(.var 2),(.var 1)]))])] [],.ite (.and [(.call 58 [(.var 1)]),(.cmp .eq (.subN (.var 0) 0) (.str 4))]) [.ret (.call 78 [(.subN (.var 0) 1),(.call 77 [(.lst [(.subN (.var 0) 2),(.var 1)])])])] [],.ite (.and [(.call 58 [(.var 1)]),(.cmp .eq (.subN (.var 0) 0) (.str 5)),(.cmp .eq (.subN (.var 0) 1) (.str 6))]) [.bad] [],.ite (.and [(.cmp .eq (.subN (.var 1) 0) (.str 0)),(.or [(.inS true (.subN (.var 0) 0) [3,4]),(.and [(.cmp .eq (.subN (.var 0) 0) (.str 5)),(.cmp .eq (.subN (.var 0) 1) (.str 6))])])]) [.bad] [],.ret (.tup [(.str 4),(.var 0),(.var 1)])]⟩
noncomputable def cR:Fn:=⟨"simplify",1,false,["t","kind","parts"],
 [.asg 1 (.subN (.var 0) 0),.ite (.cmp .eq (.var 1) (.str 0)) [.ret (.call 71 [(.call 1 [(.subN (.var 0) 1),(.subN (.var 0) 2)])])] [],.ite (.cmp .eq (.var 1) (.str 1)) [.ret (.var 0)] [],.ite (.cmp .eq (.var 1) (.str 4)) [.ret (.call 78 [(.call 79 [(.subN (.var 0) 1)]),(.call 79 [(.subN (.var 0) 2)])])] [],.ite (.cmp .eq (.var 1) (.str 5)) [.bad] [],.ite (.cmp .eq (.var 1) (.str 15)) [.ret (.tup [(.str 15),(.call 79 [(.subN (.var 0) 1)]),(.call 79 [(.subN (.var 0) 2)])])] [],.asg 2 (.comp 1 (.val (.subN (.var 0) 1)) [] (.call 79 [(.var 3)])),.ite (.cmp .eq (.var 1) (.str 2)) [.ret (.call 75 [(.var 2)])] [],.ret (.ite (.cmp .eq (.var 1) (.str 3)) (.call 77 [(.var 2)]) (.tup [(.str 16),(.bi1 .tuple (.var 2))]))]⟩
noncomputable def bK:Fn:=⟨"limit_end",1,false,["term"],
 [.ite (.cmp .eq (.var 0) (.glob 13)) [.ret (.str 20)] [],.ite (.or [(.cmp .eq (.var 0) (.glob 14)),(.cmp .eq (.var 0) (.tup [(.str 3),(.tup [(.glob 5),(.glob 13)])]))]) [.ret (.str 23)] [],.ite (.not (.call 56 [(.var 0)])) [.bad] [],.ret (.call 57 [(.var 0)])]⟩
noncomputable def bX:Fn:=⟨"limit_term",4,false,["term","name","end","side","found"],
 [.asg 4 (.call 49 [(.var 0),(.var 1),(.call 80 [(.var 2)]),(.var 3)]),.ite (.isN (.var 4)) [.ret (.call 51 [(.str 22)])] [],.ite (.cmp .eq (.var 4) (.str 20)) [.ret (.glob 13)] [],.ret (.ite (.cmp .eq (.var 4) (.str 23)) (.glob 14) (.call 50 [(.subN (.var 4) 0),(.subN (.var 4) 1)]))]⟩
noncomputable def bJ:Fn:=⟨"taylor_term",4,false,["term","name","at","order","apart","found","step","number"],
 [.ite (.or [(.not (.call 56 [(.var 2)])),(.not (.call 58 [(.var 3)])),(.cmp .lt (.subN (.var 3) 1) (.int 0))]) [.bad] [],.asg 4 (.call 79 [(.call 52 [(.lst [(.call 51 [(.var 1)]),(.call 55 [(.var 2)])])])]),.newL 5,.for [6,7] (.enm (.call 44 [(.var 0),(.var 1),(.call 57 [(.var 2)]),(.bin .add (.subN (.var 3) 1) (.int 1))])) [.app 5 (.call 53 [(.lst [(.call 50 [(.subN (.var 7) 0),(.subN (.var 7) 1)]),(.call 54 [(.var 4),(.call 50 [(.var 6),(.int 1)])])])])],.ret (.call 79 [(.call 52 [(.frz 5)])])]⟩
noncomputable def gM:Fn:=⟨"_law_pick",2,true,["pen","many"],
 [.setI 0 (.int 1) (.bin .add (.subO 0 (.int 1)) (.int 1)),.ite (.cmp .le (.subO 0 (.int 1)) (.bi1 .len (.subO 0 (.int 0)))) [.ret (.bin .mod (.sub (.subO 0 (.int 0)) (.bin .sub (.subO 0 (.int 1)) (.int 1))) (.var 1))] [],.ret (.bin .mod (.bin .add (.bin .add (.bin .mul (.int 5) (.subO 0 (.int 1))) (.bin .fdiv (.bin .mul (.subO 0 (.int 1)) (.subO 0 (.int 1))) (.int 7))) (.subO 0 (.int 2))) (.var 1))]⟩
noncomputable def eZ:Fn:=⟨"_law_ratio",2,false,["top","bottom","one","other"],
 [.unpE [2,3] [.e (.bi1 .abs (.var 0)),.e (.bi1 .abs (.var 1))],.whl (.cmp .gt (.var 3) (.int 0)) [.unpE [2,3] [.e (.var 3),.e (.bin .mod (.var 2) (.var 3))]],.asg 2 (.ite (.cmp .gt (.var 1) (.int 0)) (.var 2) (.bin .sub (.int 0) (.var 2))),.ret (.tup [(.bin .fdiv (.var 0) (.var 2)),(.bin .fdiv (.var 1) (.var 2))])]⟩
noncomputable def gN:Fn:=⟨"_law_plus",2,false,["one","other"],
 [.ret (.call 84 [(.bin .add (.bin .mul (.subN (.var 0) 0) (.subN (.var 1) 1)) (.bin .mul (.subN (.var 1) 0) (.subN (.var 0) 1))),(.bin .mul (.subN (.var 0) 1) (.subN (.var 1) 1))])]⟩
noncomputable def eI:Fn:=⟨"_law_raised",2,false,["base","many"],
 [.ret (.ite (.cmp .ge (.var 1) (.int 0)) (.call 84 [(.bin .pow (.subN (.var 0) 0) (.var 1)),(.bin .pow (.subN (.var 0) 1) (.var 1))]) (.call 84 [(.bin .pow (.subN (.var 0) 1) (.bin .sub (.int 0) (.var 1))),(.bin .pow (.subN (.var 0) 0) (.bin .sub (.int 0) (.var 1)))]))]⟩
noncomputable def gO:Fn:=⟨"_law_term",1,false,["row"],
 [.ret (.call 79 [(.tup [(.str 2),(.bi1 .tuple (.comp 2 (.enm (.var 0)) [] (.tup [(.str 3),(.tup [(.tup [(.str 0),(.var 2),(.int 1)]),(.tup [(.str 4),(.glob 15),(.tup [(.str 0),(.var 1),(.int 1)])])])])))])])]⟩
noncomputable def dL:Fn:=⟨"_law_value",2,false,["term","x","found","part","one"],
 [.ite (.cmp .eq (.subN (.var 0) 0) (.str 0)) [.ret (.tup [(.subN (.var 0) 1),(.subN (.var 0) 2)])] [],.ite (.cmp .eq (.subN (.var 0) 0) (.str 1)) [.ret (.tup [(.var 1),(.int 1)])] [],.ite (.cmp .eq (.subN (.var 0) 0) (.str 4)) [.ret (.call 86 [(.call 88 [(.subN (.var 0) 1),(.var 1)]),(.subN (.subN (.var 0) 2) 1)])] [],.asg 2 (.ite (.cmp .eq (.subN (.var 0) 0) (.str 2)) (.tup [(.int 0),(.int 1)]) (.tup [(.int 1),(.int 1)])),.for [3] (.val (.subN (.var 0) 1)) [.asg 4 (.call 88 [(.var 3),(.var 1)]),.asg 2 (.ite (.cmp .eq (.subN (.var 0) 0) (.str 2)) (.call 85 [(.var 2),(.var 4)]) (.call 84 [(.bin .mul (.subN (.var 2) 0) (.subN (.var 4) 0)),(.bin .mul (.subN (.var 2) 1) (.subN (.var 4) 1))]))],.ret (.var 2)]⟩
noncomputable def eJ:Fn:=⟨"_law_choose",2,false,["many","few","top","bottom","turn"],
 [.unpE [2,3] [.e (.int 1),.e (.int 1)],.for [4] (.rng1 (.var 1)) [.unpE [2,3] [.e (.bin .mul (.var 2) (.bin .sub (.var 0) (.var 4))),.e (.bin .mul (.var 3) (.bin .add (.var 4) (.int 1)))]],.ret (.bin .fdiv (.var 2) (.var 3))]⟩
noncomputable def aV:Fn:=⟨"_law_beginning",2,true,["pen","order","form","place","row","found","step","number","at","raised_here","gap","below","sign"],
 [.unpE [2,3] [.e (.callO 83 0 [(.int 4)]),.e (.call 84 [(.bin .sub (.callO 83 0 [(.int 5)]) (.int 2)),(.bin .add (.int 1) (.callO 83 0 [(.int 2)]))])],.ite (.cmp .eq (.var 2) (.int 0)) [.asg 4 (.comp 1 (.rng1 (.callO 83 0 [(.int 5)])) [] (.bin .sub (.callO 83 0 [(.int 5)]) (.int 2))),.newL 5,.for [6] (.rng1 (.bin .add (.var 1) (.int 1))) [.asg 7 (.tup [(.int 0),(.int 1)]),.for [8] (.rng2 (.var 6) (.bi1 .len (.var 4))) [.asg 9 (.call 86 [(.var 3),(.bin .sub (.var 8) (.var 6))]),.asg 7 (.call 85 [(.var 7),(.tup [(.bin .mul (.bin .mul (.sub (.var 4) (.var 8)) (.call 89 [(.var 8),(.var 6)])) (.subN (.var 9) 0)),(.subN (.var 9) 1)])])],.app 5 (.var 7)],.ret (.tup [(.call 87 [(.var 4)]),(.var 3),(.frz 5)])] [],.ite (.cmp .eq (.var 2) (.int 1)) [.asg 10 (.call 85 [(.var 3),(.tup [(.int 3),(.int 1)])]),.asg 5 (.comp 1 (.rng1 (.bin .add (.var 1) (.int 1))) [] (.call 84 [(.bin .mul (.bin .pow (.neg (.int 1)) (.var 13)) (.bin .pow (.subN (.var 10) 1) (.bin .add (.var 13) (.int 1)))),(.bin .pow (.subN (.var 10) 0) (.bin .add (.var 13) (.int 1)))])),.ret (.tup [(.call 79 [(.tup [(.str 4),(.tup [(.str 2),(.tup [(.glob 15),(.tup [(.str 0),(.int 3),(.int 1)])])]),(.tup [(.str 0),(.neg (.int 1)),(.int 1)])])]),(.var 3),(.var 5)])] [],.unpE [5,11] [.newL,.e (.int 1)],.for [6] (.rng1 (.bin .add (.var 1) (.int 1))) [.asg 11 (.bin .mul (.var 11) (.bi2 .max (.int 1) (.var 6))),.asg 12 (.ite (.cmp .eq (.var 2) (.int 2)) (.int 1) (.sub (.lst [(.int 0),(.int 1),(.int 0),(.neg (.int 1))]) (.bin .mod (.var 6) (.int 4)))),.app 5 (.call 84 [(.var 12),(.var 11)])],.ret (.tup [(.tup [(.str 5),(.sub (.lst [(.str 6),(.str 9)]) (.bin .sub (.var 2) (.int 2))),(.tup [(.glob 15)])]),(.tup [(.int 0),(.int 1)]),(.frz 5)])]⟩
noncomputable def aE:Fn:=⟨"_law_beginning_right",1,true,["pen","order","term","place","row","at","made","x","due","step","number","power","wrong"],
 [.asg 1 (.callO 83 0 [(.int 4)]),.unp [2,3,4] (.callO 90 0 [(.var 1)]),.asg 5 (.tup [(.str 0),(.subN (.var 3) 0),(.subN (.var 3) 1)]),.asg 6 (.call 82 [(.var 2),(.str 17),(.var 5),(.tup [(.str 0),(.var 1),(.int 1)])]),.for [7] (.val (.tup [(.int 0),(.int 2),(.int 5)])) [.asg 8 (.tup [(.int 0),(.int 1)]),.for [9,10] (.enm (.var 4)) [.asg 11 (.call 86 [(.call 85 [(.tup [(.var 7),(.int 1)]),(.tup [(.bin .sub (.int 0) (.subN (.var 3) 0)),(.subN (.var 3) 1)])]),(.var 9)]),.asg 8 (.call 85 [(.var 8),(.tup [(.bin .mul (.subN (.var 10) 0) (.subN (.var 11) 0)),(.bin .mul (.subN (.var 10) 1) (.subN (.var 11) 1))])])],.ite (.cmp .ne (.call 88 [(.var 6),(.var 7)]) (.var 8)) [.ret (.bool false)] []],.asg 12 (.sub (.lst [(.tup [(.var 5),(.tup [(.str 0),(.neg (.int 1)),(.int 1)])]),(.tup [(.var 5),(.tup [(.str 0),(.int 1),(.int 2)])]),(.tup [(.tup [(.str 1),(.str 20)]),(.tup [(.str 0),(.int 1),(.int 1)])]),(.tup [(.var 5),(.tup [(.str 1),(.str 19)])])]) (.callO 83 0 [(.int 4)])),.bad]⟩
noncomputable def aJ:Fn:=⟨"_law_limits_right",1,true,["pen","row","number","many","side","term","below","far","low","value","falls","end","due"],
 [.asg 1 (.bin .add (.comp 1 (.rng1 (.bin .add (.int 1) (.callO 83 0 [(.int 3)]))) [] (.bin .sub (.callO 83 0 [(.int 5)]) (.int 2))) (.lst [(.sub (.lst [(.int 1),(.neg (.int 1)),(.int 2)]) (.callO 83 0 [(.int 3)]))])),.unpE [2,3,4] [.e (.bin .sub (.callO 83 0 [(.int 5)]) (.int 2)),.e (.bin .add (.int 1) (.callO 83 0 [(.int 3)])),.e (.sub (.lst [(.int 0),(.int 1),(.neg (.int 1))]) (.callO 83 0 [(.int 3)]))],.unpE [5,6] [.e (.call 87 [(.var 1)]),.e (.call 79 [(.tup [(.str 4),(.tup [(.str 2),(.tup [(.glob 15),(.tup [(.str 0),(.bin .sub (.int 0) (.var 2)),(.int 1)])])]),(.tup [(.str 0),(.bin .sub (.int 0) (.var 3)),(.int 1)])])])],.unpE [7,8] [.e (.tup [(.str 1),(.str 20)]),.e (.tup [(.str 1),(.str 21)])],.asg 9 (.bi1 .sum (.comp 2 (.enm (.var 1)) [] (.bin .mul (.var 14) (.bin .pow (.var 2) (.var 13))))),.ite (.cmp .ne (.call 81 [(.var 5),(.str 17),(.tup [(.str 0),(.var 2),(.int 1)]),(.var 4)]) (.tup [(.str 0),(.var 9),(.int 1)])) [.ret (.bool false)] [],.asg 10 (.cmp .lt (.bin .mul (.sub (.var 1) (.neg (.int 1))) (.bin .pow (.neg (.int 1)) (.bin .sub (.bi1 .len (.var 1)) (.int 1)))) (.int 0)),.for [11,12] (.val (.tup [(.tup [(.var 7),(.ite (.cmp .gt (.sub (.var 1) (.neg (.int 1))) (.int 0)) (.var 7) (.var 8))]),(.tup [(.var 8),(.ite (.var 10) (.var 8) (.var 7))]),(.tup [(.tup [(.str 3),(.tup [(.tup [(.str 0),(.neg (.int 1)),(.int 1)]),(.var 7)])]),(.ite (.var 10) (.var 8) (.var 7))])])) [.ite (.or [(.cmp .ne (.call 81 [(.var 5),(.str 17),(.var 11),(.int 0)]) (.var 12)),(.cmp .ne (.call 81 [(.var 6),(.str 17),(.var 11),(.int 0)]) (.tup [(.str 0),(.int 0),(.int 1)]))]) [.ret (.bool false)] []],.asg 12 (.ite (.or [(.cmp .eq (.bin .mod (.var 3) (.int 2)) (.int 0)),(.cmp .eq (.var 4) (.int 1))]) (.var 7) (.ite (.cmp .eq (.var 4) (.neg (.int 1))) (.var 8) (.tup [(.str 1),(.str 22)]))),.ite (.cmp .ne (.call 81 [(.var 6),(.str 17),(.tup [(.str 0),(.var 2),(.int 1)]),(.var 4)]) (.var 12)) [.ret (.bool false)] [],.bad]⟩
noncomputable def kB:Fn:=⟨"law",1,false,["script","pen"],
 [.newLi 1 [(.bi1 .list (.slcHi (.var 0) (.int 40))),(.int 0),(.bin .mod (.bi1 .sum (.slcHi (.var 0) (.int 40))) (.int 997))],.ret (.and [(.callO 91 1 []),(.callO 92 1 []),(.callO 91 1 [])])]⟩
noncomputable def rS:List Fn:=[rA,rB,nU,nV,nW,nY,nZ,oA,jI,fZ,iC,oB,gA,cX,oE,cY,iD,cZ,eV,cD,eW,sQ,oF,lL,oG,gB,eE,oH,gC,oJ,dA,jJ,jK,mK,oK,iX,gD,jL,oM,eX,iE,gE,gR,dJ,eB,dK,eG,gI,eY,kA,lM,lN,lO,jM,lP,iF,jN,jO,dB,dC,cJ,dD,dS,bR,dE,bS,cP,cE,cQ,dF,eH,dT,cF,dU,cU,cK,gJ,bI,gK,cR,bK,bX,bJ,gM,eZ,gN,eI,gO,dL,eJ,aV,aE,aJ,kB]
end Mine.Internal
set_option genSizeOf false
namespace Mine.Internal
set_option genCtorIdx true in
inductive Pl where
 |loc (L:Addr) (x:Str)
 |cel (c:Addr)
noncomputable def Pl.addr:Pl→Addr
 |.loc L _=>L
 |.cel c=>c
def rd (h:Heap):Pl→Value→Prop
 |.loc L x,v=>∃m,h.Ns L m∧m x=some v
 |.cel c,v=>∃o,h.get? c=some o∧o.data=.cell (some v)
def there (h:Heap):Pl→Prop
 |.loc L _=>∃m,h.Ns L m
 |.cel c=>∃o v,h.get? c=some o∧o.data=.cell v
abbrev wN:=List (Option Addr)
structure Tb where
 tb:Addr→Prop
 inv:Gh→Prop
 mono:∀g g':Gh,(∀a o,g a o→g' a o)→inv g→inv g'
structure Kx where
 P:Params
 T:Tb
 bs:Heap
 N:Nat
 io:Option Addr
structure Bs (K:Kx) where
 out:Addr→Prop
 pls:List Pl
 tbN:∀a,K.T.tb a→a<K.N∧out a∧K.io≠some a
 bas:∀a o,K.bs.get? a=some o→a<K.N∧¬out a∧K.io≠some a
 pl:∀p∈pls,K.N≤p.addr∧¬out p.addr
 pnd:pls.Nodup
 ne:pls≠[]
 ioN:∀a,K.io=some a→a<K.N∧a≠sysModules
 sys:out sysModules∧sysModules<K.N
def dY (pls:List Pl)(a:Addr):Prop:=∃p∈pls,p.addr=a
abbrev lJ (h h':Heap):Prop:=∀a o,h.get? a=some o→h'.get? a=some o
def dM (h:Heap)(a:Addr):Prop:=∃hm,lJ h hm∧hm.objs.size≤a
theorem aY {h:Heap}:dM h h.objs.size:=⟨h,fun _ _ e=>e,Nat.le_refl _⟩
theorem dM.le {h:Heap}{a:Addr}(l:h.objs.size≤a):dM h a:=⟨h,fun _ _ e=>e,l⟩
theorem bF {h:Heap}{o:Obj}:lJ h (h.push o):=fun _ _ e=>Heap.get?_push_of_some _ e
theorem dM.none {h:Heap}{a:Addr}(f:dM h a){o:Obj}(e:h.get? a=some o):False:=aD f fun _ k l=>absurd (Heap.lt_size (k a o e)) (Nat.not_lt.mpr l)
theorem dM.after {h h':Heap}{a:Addr}(k:lJ h h')(f:dM h' a):dM h a:=aD f fun hm k' l=>⟨hm,fun a o e=>k' a o (k a o e),l⟩
section
variable {K:Kx}
def Xs (B:Bs K)(own:wN)(a:Addr):Prop:=B.out a∨dY B.pls a∨some a∈own
def gv (B:Bs K)(own:wN)(h:Heap):Gh:=fun a o=>h.get? a=some o∧¬Xs B own a
def gt (B:Bs K)(own:wN)(h:Heap):Gh:=fun a o=>h.get? a=some o∧(K.T.tb a∨¬Xs B own a)
def eQ (P:Params)(g:Gh)(h:Heap)(a:Addr)(sl:aF):Prop:=match sl with
 |.l xs=>∃vs n,h.get? a=some (cH vs n)∧bP P g vs xs
 |.d kvs=>∃es n,h.get? a=some (cW es n)∧kY P g es kvs∧(kvs.map (·.1)).Nodup
 |_=>False
def mL (P:Params)(g:Gh)(h:Heap)(p:Pl)(oa:Option Addr)(sl:aF):Prop:=match oa with
 |none=>match sl with
  |.un=>there h p
  |.v x=>∃pv,rd h p pv∧Rp P g pv x
  |_=>False
 |some a=>rd h p (.ref a)∧eQ P g h a sl
structure St (B:Bs K)(own:wN)(ρ:Fm)(h:Heap):Prop where
 bs:lJ K.bs h
 live:∀a,B.out a→a<K.N∨∃o,h.get? a=some o
 ow:∀(i:Nat) (a:Addr),own[i]? =some (some a)→(K.N≤a∧¬B.out a)∨(i=0∧K.io=some a)
 lenP:B.pls.length=ρ.length
 lenO:own.length=ρ.length
 slot:∀(i:Nat) p sl oa,B.pls[i]? =some p→ρ[i]? =some sl→own[i]? =some oa→mL K.P (gv B own h) h p oa sl
 sep:∀(i:Nat) (a:Addr),own[i]? =some (some a)→¬dY B.pls a
 dis:∀(i j:Nat) (a:Addr),own[i]? =some (some a)→own[j]? =some (some a)→i=j
 ti:K.T.inv (gt B own h)
 own0:∀a,K.io=some a→own[0]? =some (some a)
structure Gw (K:Kx)(pls:List Pl)(own:wN)(h:Heap)(own':wN)(h':Heap):Prop where
 k:∀a o,h.get? a=some o→¬K.T.tb a→¬dY pls a→some a∉own→h'.get? a=some o
 n:∀a,some a∈own'→some a∈own∨K.T.tb a∨dY pls a∨∀o,h.get? a≠some o
structure Gr (K:Kx)(pls:List Pl)(own:wN)(h:Heap)(own':wN)(h':Heap):Prop extends Gw K pls own h own' h' where
 r:∀p∈pls,∀v,rd h p v→rd h' p v
variable {B:Bs K}{pls:List Pl}{own own1 own2:wN}{ρ:Fm}{h h1 h2:Heap}
theorem Gw.refl:Gw K pls own h own h:=⟨fun _ _ g _ _ _=>g,fun _ m=>.inl m⟩
theorem Gw.trans (a:Gw K pls own h own1 h1)(b:Gw K pls own1 h1 own2 h2):Gw K pls own h own2 h2 where
 k:=fun x o g t p m=>b.k x o (a.k x o g t p m) t p fun q=>(a.n x q).elim m fun q=>q.elim t fun q=>q.elim p fun q=>q o g
 n:=fun x m=>(b.n x m).elim (a.n x) fun q=>q.elim (fun t=>.inr (.inl t)) fun q=>q.elim (fun p=>.inr (.inr (.inl p))) fun d=>
  Classical.byCases (fun t:K.T.tb x=>.inr (.inl t)) fun t=>Classical.byCases (fun p:dY pls x=>.inr (.inr (.inl p))) fun p=>Classical.byCases (fun m:some x∈own=>.inl m) fun m=>
   .inr (.inr (.inr fun o g=>d o (a.k x o g t p m)))
theorem Gw.beside (a:Gw K pls own h own1 h1){D:Addr→Prop}(hk:∀b o,h1.get? b=some o→¬D b→h2.get? b=some o)(hD:∀b o,D b→h.get? b≠some o):Gw K pls own h own1 h2:=
 ⟨fun x o g t p m=>hk x o (a.k x o g t p m) fun d=>hD x o d g,a.n⟩
theorem Gw.ext (hk:lJ h h1):Gw K pls own h own h1:=⟨fun _ _ g _ _ _=>hk _ _ g,fun _ m=>.inl m⟩
theorem Gw.g (w:Gw K B.pls own h own1 h1)(a:Addr)(o:Obj)(g:gv B own h a o):gv B own1 h1 a o:=
 ⟨w.k a o g.1 (fun t=>g.2 (.inl (B.tbN a t).2.1)) (fun p=>g.2 (.inr (.inl p))) fun m=>g.2 (.inr (.inr m)),fun x=>x.elim (fun x=>g.2 (.inl x)) fun x=>x.elim (fun x=>g.2 (.inr (.inl x))) fun x=>
  (w.n a x).elim (fun m=>g.2 (.inr (.inr m))) fun q=>q.elim (fun t=>g.2 (.inl (B.tbN a t).2.1)) fun q=>q.elim (fun p=>g.2 (.inr (.inl p))) fun d=>d o g.1⟩
theorem Gr.refl:Gr K pls own h own h:=⟨.refl,fun _ _ _ r=>r⟩
theorem Gr.trans (a:Gr K pls own h own1 h1)(b:Gr K pls own1 h1 own2 h2):Gr K pls own h own2 h2:=⟨a.toGw.trans b.toGw,fun p hp v r=>b.r p hp v (a.r p hp v r)⟩
theorem EM {h:Heap}{L:Addr}{m m':Str→Option Value}(a:h.Ns L m)(b:h.Ns L m'):m=m':=by
 refine sK a fun o es ep ho hd _ hm=>?_
 refine sK b fun o' es' ep' ho' hd' _ hm'=>?_
 rw [ho] at ho';cases ho'
 rw [hd] at hd';cases hd'
 funext x
 refine (hm x)▸?_;exact (hm' x)▸rfl
theorem rd.at {p:Pl}{v:Value}(r:rd h p v)(e:∀o,h.get? p.addr=some o→h1.get? p.addr=some o):rd h1 p v:=by
 cases p with
 |loc L x=>exact r.imp fun _ q=>⟨q.1.at' e,q.2⟩
 |cel c=>exact r.imp fun o q=>⟨e o q.1,q.2⟩
theorem there.at {p:Pl}(r:there h p)(e:∀o,h.get? p.addr=some o→h1.get? p.addr=some o):there h1 p:=by
 cases p with
 |loc L x=>exact r.imp fun _ q=>q.at' e
 |cel c=>exact r.imp fun o q=>q.imp fun _ q=>⟨e o q.1,q.2⟩
theorem rd.there {p:Pl}{v:Value}(r:rd h p v):there h p:=by
 cases p with
 |loc L x=>exact r.imp fun _ q=>q.1
 |cel c=>exact r.imp fun o q=>⟨_,q⟩
theorem rd.uniq {p:Pl}{v v':Value}(r:rd h p v)(r':rd h p v'):v=v':=by
 cases p with
 |loc L x=>
  refine aD r fun m a b=>?_;refine aD r' fun m' a' b'=>?_
  exact Option.some.inj (b.symm.trans ((EM a a'▸rfl:m x=m' x).trans b'))
 |cel c=>
  refine aD r fun o a b=>?_;refine aD r' fun o' a' b'=>?_
  have e:=Option.some.inj (a.symm.trans a')
  exact Option.some.inj (Data.cell.inj (b.symm.trans (e▸b')))
theorem there.live {p:Pl}(r:there h p):∃o,h.get? p.addr=some o∧((∃es n,o.data=.dict es n)∨∃v,o.data=.cell v):=by
 cases p with
 |loc L x=>refine aT r fun m atO=>?_;obtain ⟨o,es,ep,g,d,_⟩:=atO;exact ⟨o,g,.inl (bW es ep d)⟩
 |cel c=>refine dI r fun o v g d=>?_;exact ⟨o,g,.inr ⟨v,d⟩⟩
theorem mL.there {P g p oa sl}(k:mL P g h p oa sl):there h p:=by
 cases oa with
 |some a=>exact k.1.there
 |none=>cases sl with
  |un=>exact k
  |v x=>exact k.elim fun _ q=>q.1.there
  |_=>exact k.elim
theorem eQ.live {P g a sl}(k:eQ P g h a sl):∃o,h.get? a=some o:=by
 cases sl with
 |l xs=>refine dI k fun vs n g _=>?_;exact ⟨_,g⟩
 |d xs=>refine dI k fun vs n g _=>?_;exact ⟨_,g⟩
 |_=>exact k.elim
theorem eQ.move {P a sl}{g g':Gh}(k:eQ P g h a sl)(hg:∀a o,g a o→g' a o)(e:∀o,h.get? a=some o→h1.get? a=some o):eQ P g' h1 a sl:=by
 cases sl with
 |l xs=>refine dI k fun vs n g r=>?_;exact (bW vs n ⟨e _ g,r.mono hg⟩)
 |d xs=>refine bY k fun vs n g r d=>?_;exact (bW vs n ⟨e _ g,r.mono hg,d⟩)
 |_=>exact k.elim
theorem mL.move {P p oa sl}{g g':Gh}(k:mL P g h p oa sl)(hg:∀a o,g a o→g' a o)(er:∀v,rd h p v→rd h1 p v)(et:Internal.there h p→Internal.there h1 p)
  (eo:∀a,oa=some a→∀o,h.get? a=some o→h1.get? a=some o):mL P g' h1 p oa sl:=by
 cases oa with
 |some a=>exact ⟨er _ k.1,k.2.move hg (eo a rfl)⟩
 |none=>cases sl with
  |un=>exact et k
  |v x=>exact k.elim fun pv q=>⟨pv,er _ q.1,q.2.mono hg⟩
  |_=>exact k.elim
theorem ix {α:Type}{l:List α}{x:α}(h:x∈l):∃i:Nat,l[i]? =some x:=List.mem_iff_getElem?.mp h
theorem kF {α β:Type}{l:List α}{m:List β}{i:Nat}{x:α}(h:l[i]? =some x)(e:l.length=m.length):∃y,m[i]? =some y:=⟨_,List.getElem?_eq_getElem (e▸(List.getElem?_eq_some_iff.mp h).1)⟩
theorem iY {α:Type}{l:List α}{i j:Nat}{x y:α}(h:(l.set i x)[j]? =some y):(j=i∧y=x)∨(j≠i∧l[j]? =some y):=by
 by_cases e:i=j
 ·subst e
  rw [List.getElem?_set_self'] at h
  cases q:l[i]? with
  |none=>rw [q] at h;cases h
  |some z=>rw [q] at h;cases h;exact .inl ⟨rfl,rfl⟩
 ·rw [List.getElem?_set_ne e] at h
  exact .inr ⟨fun q=>e q.symm,h⟩
section
variable (S:St B own ρ h)
include S
theorem St.get {i:Nat}{sl:aF}(hi:ρ[i]? =some sl):∃p oa,B.pls[i]? =some p∧own[i]? =some oa∧mL K.P (gv B own h) h p oa sl:=
 aT (kF hi S.lenP.symm) fun p hp=>
 aT (kF hi S.lenO.symm) fun oa ho=>
 (bW p oa ⟨hp,ho,S.slot i p sl oa hp hi ho⟩)
theorem St.plLive {p:Pl}(hp:p∈B.pls):there h p:=by
 refine aT (ix hp) fun i hi=>?_
 refine aT (kF hi S.lenP) fun sl hs=>?_
 refine aT (kF hs S.lenO.symm) fun oa ho=>?_
 exact (S.slot i p sl oa hi hs ho).there
theorem St.ownLive {a:Addr}(ha:some a∈own):∃o,h.get? a=some o:=by
 refine aT (ix ha) fun i hi=>?_
 refine aT (kF hi S.lenO) fun sl hs=>?_
 refine aT (kF hs S.lenP.symm) fun p hp=>?_
 exact (S.slot i p sl _ hp hs hi).2.live
theorem St.size:K.N≤h.objs.size:=by
 refine bD (List.exists_cons_of_ne_nil B.ne) fun p r e=>?_
 have hp:p∈B.pls:=e▸.head _
 refine aD ((S.plLive hp).live) fun o g _=>?_
 exact Nat.le_trans (B.pl p hp).1 (Nat.le_of_lt (Heap.lt_size g))
theorem St.xlive {a:Addr}(x:Xs B own a):a<K.N∨∃o,h.get? a=some o:=by
 rcases x with x|⟨p,hp,rfl⟩|x
 ·exact S.live a x
 ·refine aD ((S.plLive hp).live) fun o g _=>?_;exact .inr ⟨o,g⟩
 ·exact .inr (S.ownLive x)
theorem St.ownX {a:Addr}(ha:some a∈own):¬K.T.tb a∧¬dY B.pls a∧K.bs.get? a=none∧(K.N≤a∧¬B.out a∨K.io=some a):=by
 refine aT (ix ha) fun i hi=>?_
 have q:K.N≤a∧¬B.out a∨K.io=some a:=(S.ow i a hi).imp id And.right
 refine ⟨fun t=>?_,S.sep i a hi,?_,q⟩
 ·refine iK (B.tbN a t) fun t1 _ t3=>?_
  exact q.elim (fun q=>absurd t1 (Nat.not_lt.mpr q.1)) t3
 ·cases e:K.bs.get? a with
  |none=>rfl
  |some o=>
   refine iK (B.bas a o e) fun t1 _ t3=>?_
   exact (q.elim (fun q=>absurd t1 (Nat.not_lt.mpr q.1)) t3).elim
omit S in
theorem XZ {p:Pl}(hp:p∈B.pls):¬K.T.tb p.addr∧K.bs.get? p.addr=none∧K.io≠some p.addr:=by
 refine aG (B.pl p hp) fun q1 q2=>?_
 refine ⟨fun t=>absurd (B.tbN _ t).1 (Nat.not_lt.mpr q1),?_,fun e=>absurd (B.ioN _ e).1 (Nat.not_lt.mpr q1)⟩
 cases e:K.bs.get? p.addr with
 |none=>rfl
 |some o=>exact absurd (B.bas _ o e).1 (Nat.not_lt.mpr q1)
theorem St.base {a:Addr}{o:Obj}(e:K.bs.get? a=some o):gv B own h a o:=by
 refine ⟨S.bs a o e,?_⟩
 rintro (q|⟨p,hp,rfl⟩|q)
 ·exact (B.bas a o e).2.1 q
 ·have:=(XZ hp).2.1;rw [e] at this;cases this
 ·have:=(S.ownX q).2.2.1;rw [e] at this;cases this
theorem St.fresh {a:Addr}(f:dM h a):¬Xs B own a∧K.N≤a∧¬K.T.tb a∧K.bs.get? a=none:=by
 have hN:K.N≤a:=by
  refine aD f fun hm k l=>?_
  refine bD (List.exists_cons_of_ne_nil B.ne) fun p r e=>?_
  have hp:p∈B.pls:=e▸.head _
  refine aD ((S.plLive hp).live) fun o g _=>?_
  exact Nat.le_trans (B.pl p hp).1 (Nat.le_trans (Nat.le_of_lt (Heap.lt_size (k _ _ g))) l)
 refine ⟨fun x=>(S.xlive x).elim (fun q=>absurd q (Nat.not_lt.mpr hN)) fun ⟨o,g⟩=>f.none g,hN,fun t=>absurd (B.tbN _ t).1 (Nat.not_lt.mpr hN),?_⟩
 cases e:K.bs.get? a with
 |none=>rfl
 |some o=>exact absurd (B.bas _ o e).1 (Nat.not_lt.mpr hN)
theorem St.chg {D:Addr→Prop}(hk:∀b o,h.get? b=some o→¬D b→h1.get? b=some o)(hD:∀b,D b→B.out b∧K.io≠some b∧(b<K.N∨∃o,h1.get? b=some o))(ti:K.T.inv (gt B own h1)):St B own ρ h1 where
 bs:=fun a o e=>hk a o (S.bs a o e) fun d=>(B.bas a o e).2.1 (hD a d).1
 live:=fun a x=>Classical.byCases (fun d:D a=>(hD a d).2.2) fun d=>(S.live a x).imp id fun ⟨o,g⟩=>⟨o,hk a o g d⟩
 ow:=S.ow
 lenP:=S.lenP
 lenO:=S.lenO
 slot:=fun i p sl oa h1 h2 h3=>(S.slot i p sl oa h1 h2 h3).move (fun a o g=>⟨hk a o g.1 fun d=>g.2 (.inl (hD a d).1),g.2⟩)
  (fun _ r=>r.at fun o g=>hk _ o g fun d=>(B.pl p (List.mem_of_getElem? h1)).2 (hD _ d).1) (fun r=>r.at fun o g=>hk _ o g fun d=>(B.pl p (List.mem_of_getElem? h1)).2 (hD _ d).1)
  fun a e o g=>hk a o g fun d=>(S.ow i a (e▸h3)).elim (fun q=>q.2 (hD a d).1) fun q=>(hD a d).2.1 q.2
 sep:=S.sep
 dis:=S.dis
 ti:=ti
 own0:=S.own0
theorem St.grow (hk:lJ h h1):St B own ρ h1:=S.chg (D:=fun _=>False) (fun b o g _=>hk b o g) (fun _=>False.elim) (K.T.mono _ _ (fun a o g=>⟨hk a o g.1,g.2⟩) S.ti)
theorem St.poke {D:Addr→Prop}(hd:∀d,D d→B.out d∧K.N≤d)(hk:∀b o,h.get? b=some o→¬D b→h1.get? b=some o)(hl:∀d,D d→∃o,h1.get? d=some o):St B own ρ h1:=
 S.chg (D:=D) hk (fun b q=>⟨(hd b q).1,fun e=>absurd (B.ioN _ e).1 (Nat.not_lt.mpr (hd b q).2),.inr (hl b q)⟩)
  (K.T.mono _ _ (fun a o g=>⟨hk a o g.1 fun q=>g.2.elim (fun t=>absurd (B.tbN a t).1 (Nat.not_lt.mpr (hd a q).2)) fun n=>n (.inl (hd a q).1),g.2⟩) S.ti)
theorem St.put {B':Bs K}(hP:B'.pls=B.pls)(hO:∀a,B'.out a→B.out a){i:Nat}{p:Pl}{oa:Option Addr}{sl:aF}{D:Addr→Prop}(hp:B.pls[i]? =some p)(hk:∀b o,h.get? b=some o→¬D b→h1.get? b=some o)
  (hD:∀b,D b→K.T.tb b∨b=p.addr∨own[i]? =some (some b)) (hr:∀q∈B.pls,q≠p→(∀v,rd h q v→rd h1 q v)∧(there h q→there h1 q))
  (ns:mL K.P (gv B' (own.set i oa) h1) h1 p oa sl) (ho:∀a,oa=some a→((K.N≤a∧¬B'.out a)∨(i=0∧K.io=some a))∧¬dY B.pls a∧∀j,j≠i→own[j]? ≠some (some a))
  (hg:∀a o,gv B own h a o→gv B' (own.set i oa) h1 a o) (hl:∀b,D b→K.T.tb b∨∃o,h1.get? b=some o) (ti:K.T.inv (gt B' (own.set i oa) h1)) (h0:∀a,K.io=some a→i=0→oa=some a):St B' (own.set i oa) (ρ.set i sl) h1 where
 bs:=fun a o e=>hk a o (S.bs a o e) fun d=>by
  have n:∀{b},K.bs.get? b=none→b≠a:=fun q r=>by subst r;rw [e] at q;cases q
  rcases hD a d with t|rfl|m
  ·exact (B.bas a o e).2.1 (B.tbN a t).2.1
  ·exact n (XZ (List.mem_of_getElem? hp)).2.1 rfl
  ·exact n (S.ownX (List.mem_of_getElem? m)).2.2.1 rfl
 live:=fun a x=>Classical.byCases (fun d:D a=>(hl a d).imp (fun t=>(B.tbN a t).1) id) fun d=>(S.live a (hO a x)).imp id fun ⟨o,g⟩=>⟨o,hk a o g d⟩
 ow:=fun j a q=>(iY q).elim (fun q=>by refine (Eq.symm q.1)▸?_;exact (ho a q.2.symm).1) fun q=>(S.ow j a q.2).imp (fun q=>⟨q.1,fun x=>q.2 (hO a x)⟩) id
 lenP:=by refine (Eq.symm List.length_set)▸?_;refine (Eq.symm hP)▸?_;exact S.lenP
 lenO:=by refine (Eq.symm List.length_set)▸?_;refine (Eq.symm List.length_set)▸?_;exact S.lenO
 slot:=fun j q sl' oa' h1' h2' h3'=>by
  rw [hP] at h1'
  rcases iY h2' with ⟨rfl,rfl⟩|⟨n,h2'⟩
  ·rcases iY h3' with ⟨_,rfl⟩|⟨n,_⟩
   ·rw [hp] at h1';cases h1';exact ns
   ·exact absurd rfl n
  ·rcases iY h3' with ⟨e,_⟩|⟨_,h3'⟩
   ·exact absurd e n
   ·have hq:q≠p:=by
     rintro rfl
     exact n ((List.getElem?_inj (List.getElem?_eq_some_iff.mp h1').1 B.pnd).mp (h1'.trans hp.symm))
    refine (S.slot j q sl' oa' h1' h2' h3').move hg (hr q (List.mem_of_getElem? h1') hq).1 (hr q (List.mem_of_getElem? h1') hq).2 fun a e o g=>hk a o g fun d=>?_
    subst e
    rcases hD a d with t|rfl|m
    ·exact (S.ownX (List.mem_of_getElem? h3')).1 t
    ·exact S.sep j _ h3' ⟨p,List.mem_of_getElem? hp,rfl⟩
    ·exact n (S.dis j i a h3' m)
 sep:=fun j a q x=>(iY q).elim (fun q=>(ho a q.2.symm).2.1 (hP▸x)) fun q=>S.sep j a q.2 (hP▸x)
 dis:=fun j k a q1 q2=>by
  rcases iY q1 with ⟨d1,e1⟩|⟨n1,r1⟩
  ·rcases iY q2 with ⟨d2,_⟩|⟨n2,r2⟩
   ·exact d1.trans d2.symm
   ·exact absurd r2 ((ho a e1.symm).2.2 k n2)
  ·rcases iY q2 with ⟨_,e2⟩|⟨n2,r2⟩
   ·exact absurd r1 ((ho a e2.symm).2.2 j n1)
   ·exact S.dis j k a r1 r2
 ti:=ti
 own0:=fun a e=>by
  by_cases hi:i=0
  ·subst hi
   have:=S.own0 a e
   refine (Eq.symm (List.getElem?_set_self (List.getElem?_eq_some_iff.mp this).1))▸?_;exact (Eq.symm (h0 a e rfl))▸rfl
  ·refine (Eq.symm (List.getElem?_set_ne hi))▸?_;exact S.own0 a e
end
end
end Mine.Internal
set_option genInjectivity false
namespace Mine.Internal
section
variable {K:Kx}{B:Bs K}{own:wN}{ρ:Fm}{h h1 h2:Heap}
structure oN (h:Heap)(p:Pl)(v:Value)(h1:Heap):Prop where
 same:∀b o,h.get? b=some o→b≠p.addr→h1.get? b=some o
 holds:rd h1 p v
 oth:∀q,q≠p→(∀u,rd h q u→rd h1 q u)∧(there h q→there h1 q)
theorem BJ {L:Addr}{x:Str}{v:Value}{m:Str→Option Value}(hn:h.Ns L m)(hn':h1.Ns L (fun y=>if y=x then some v else m y))(hs:Heap.SameBut L h h1):oN h (.loc L x) v h1:=by
 have sm:∀b o,h.get? b=some o→b≠L→h1.get? b=some o:=fun b o g n=>(hs.2 b n).trans g
 refine ⟨sm,⟨_,hn',if_pos rfl⟩,fun q hq=>?_⟩
 by_cases e:q.addr=L
 ·cases q with
  |loc L' y=>
   replace e:L'=L:=e
   subst e
   have ne:y≠x:=fun e=>hq (by exact (Eq.symm e)▸rfl)
   exact ⟨fun u ⟨m',a,b⟩=>⟨_,hn',(if_neg ne).trans (EM a hn▸b)⟩,fun _=>⟨_,hn'⟩⟩
  |cel c=>
   replace e:c=L:=e
   subst e
   have no:∀o u,h.get? c=some o→o.data=.cell u→False:=fun o u a b=>by
    refine eP hn fun o' es ep c1 c2 _=>?_
    rw [a] at c1;cases c1;rw [b] at c2;cases c2
   exact ⟨fun u ⟨o,a,b⟩=>(no o _ a b).elim,fun ⟨o,u,a,b⟩=>(no o _ a b).elim⟩
 ·exact ⟨fun u r=>r.at fun o g=>sm _ o g e,fun r=>r.at fun o g=>sm _ o g e⟩
theorem sR {c:Addr}{u:Option Value}{v:Value}(a:h.IsCell c u)(b:h1.IsCell c (some v))(hs:Heap.SameBut c h h1):oN h (.cel c) v h1:=by
 have sm:∀b o,h.get? b=some o→b≠c→h1.get? b=some o:=fun b o g n=>(hs.2 b n).trans g
 refine ⟨sm,b,fun q hq=>?_⟩
 by_cases e:q.addr=c
 ·cases q with
  |loc L y=>
   replace e:L=c:=e
   subst e
   have no:∀m,h.Ns L m→False:=fun m hn=>by
    refine eP hn fun o' es ep c1 c2 _=>?_
    refine aD a fun o a1 a2=>?_
    rw [a1] at c1;cases c1;rw [a2] at c2;cases c2
   exact ⟨fun u ⟨m,a,_⟩=>(no m a).elim,fun ⟨m,a⟩=>(no m a).elim⟩
  |cel c'=>replace e:c'=c:=e;exact absurd (e▸rfl) hq
 ·exact ⟨fun u r=>r.at fun o g=>sm _ o g e,fun r=>r.at fun o g=>sm _ o g e⟩
theorem KG {i:Nat}{oa:Option Addr}{a:Addr}(x:Xs B (own.set i oa) a):Xs B own a∨oa=some a:=by
 rcases x with x|x|x
 ·exact .inl (.inl x)
 ·exact .inl (.inr (.inl x))
 ·exact (List.mem_or_eq_of_mem_set x).imp (fun q=>.inr (.inr q)) Eq.symm
theorem BK {i:Nat}{oa:Option Addr}(hk:∀b o,h.get? b=some o→¬dY B.pls b→h1.get? b=some o)(hf:∀a,oa=some a→∀o,h.get? a≠some o):Gw K B.pls own h (own.set i oa) h1:=
 ⟨fun a o g _ p _=>hk a o g p,fun a m=>(List.mem_or_eq_of_mem_set m).imp id fun q=>.inr (.inr (hf a q.symm))⟩
theorem uJ {B':Bs K}{own1:wN}(w:∀a o,gv B own h a o→gv B' own1 h1 a o)(t:∀a o,K.T.tb a→h.get? a=some o→h1.get? a=some o)(a:Addr)(o:Obj)(g:gt B own h a o):gt B' own1 h1 a o:=
 Classical.byCases (fun q:K.T.tb a=>⟨t a o q g.1,.inl q⟩) fun q=>let z:=w a o ⟨g.1,g.2.resolve_left q⟩;⟨z.1,.inr z.2⟩
section
variable (S:St B own ρ h)
include S
theorem St.store_v {i:Nat}{p:Pl}{pv:Value}{x:V}(hi0:K.io=none∨i≠0)(hp:B.pls[i]? =some p)(U:oN h p pv h1)(hr:Rp K.P (gv B own h) pv x):
  St B (own.set i none) (ρ.set i (.v x)) h1∧Gw K B.pls own h (own.set i none) h1:=by
 have hpm:p∈B.pls:=List.mem_of_getElem? hp
 have w:Gw K B.pls own h (own.set i none) h1:=BK (fun b o g n=>U.same b o g fun e=>n ⟨p,hpm,e.symm⟩) fun a q=>nomatch q
 exact ⟨S.put (B':=B) rfl (fun _=>id) (D:=fun b=>b=p.addr) hp U.same (fun _ d=>.inr (.inl d)) (fun q _=>U.oth q) ⟨pv,U.holds,hr.mono w.g⟩ (fun a q=>nomatch q) w.g (fun b d=>.inr (d▸U.holds.there.live.imp fun _ q=>q.1))
  (K.T.mono _ _ (uJ w.g fun a o t g=>U.same a o g fun e=>(XZ hpm).1 (e▸t)) S.ti) fun a e q=>hi0.elim (fun z=>by rw [z] at e;cases e) fun z=>(z q).elim,w⟩
theorem St.store_o {i:Nat}{p:Pl}{a:Addr}{sl:aF}(hi0:K.io=none∨i≠0)(hp:B.pls[i]? =some p)(hk:lJ h h1)(ha:dM h a)(U:oN h1 p (.ref a) h2)(hr:eQ K.P (gv B own h) h1 a sl):
  St B (own.set i (some a)) (ρ.set i sl) h2∧Gw K B.pls own h (own.set i (some a)) h2:=by
 have hpm:p∈B.pls:=List.mem_of_getElem? hp
 refine yU (S.fresh ha) fun f1 f2 f3 f4=>?_
 have w:Gw K B.pls own h (own.set i (some a)) h2:=BK (fun b o g n=>U.same b o (hk _ _ g) fun e=>n ⟨p,hpm,e.symm⟩) fun _ q=>by cases q;exact fun o g=>ha.none g
 have hpa:a≠p.addr:=fun e=>f1 (.inr (.inl ⟨p,hpm,e.symm⟩))
 refine ⟨S.put (B':=B) rfl (fun _=>id) (D:=fun b=>b=p.addr) hp (fun b o g n=>U.same b o (hk _ _ g) n) (fun _ d=>.inr (.inl d)) (fun q _ n=>⟨fun v r=>(U.oth q n).1 v (r.at fun o=>hk _ o),fun r=>(U.oth q n).2 (r.at fun o=>hk _ o)⟩)
  ⟨U.holds,hr.move w.g fun o g=>U.same a o g hpa⟩ ?_ w.g (fun b d=>.inr (d▸U.holds.there.live.imp fun _ q=>q.1))
  (K.T.mono _ _ (uJ w.g fun a o t g=>U.same a o (hk _ _ g) fun e=>(XZ hpm).1 (e▸t)) S.ti) fun a e q=>hi0.elim (fun z=>by rw [z] at e;cases e) fun z=>(z q).elim,w⟩
 rintro _ ⟨rfl⟩
 exact ⟨.inl ⟨f2,fun x=>f1 (.inl x)⟩,fun x=>f1 (.inr (.inl x)),fun j _ q=>f1 (.inr (.inr (List.mem_of_getElem? q)))⟩
theorem St.upd {i:Nat}{a:Addr}{sl:aF}(ho:own[i]? =some (some a))(hk:∀b o,h.get? b=some o→¬(K.T.tb b∨b=a)→h1.get? b=some o)(ti:K.T.inv (gt B own h1))(hr:eQ K.P (gv B own h1) h1 a sl):
  St B own (ρ.set i sl) h1∧Gr K B.pls own h own h1:=by
 have hm:=List.mem_of_getElem? ho
 have ha:=S.ownX hm
 have e:own.set i (some a)=own:=by
  refine List.ext_getElem? fun j=>?_
  by_cases q:i=j
  ·subst q;refine (Eq.symm (List.getElem?_set_self (List.getElem?_eq_some_iff.mp ho).1))▸?_;exact (Eq.symm ho)▸rfl
  ·exact (Eq.symm (List.getElem?_set_ne q))▸rfl
 refine aT (kF ho (S.lenO.trans S.lenP.symm)) fun p hp=>?_
 have hpl:∀q∈B.pls,∀o,h.get? q.addr=some o→h1.get? q.addr=some o:=fun q hq o g=>hk _ o g fun d=>d.elim (XZ hq).1 fun d=>ha.2.1 ⟨q,hq,d⟩
 have w:Gr K B.pls own h own h1:=⟨⟨fun b o g t _ n=>hk b o g fun d=>d.elim t fun d=>n (d▸hm),fun _ m=>.inl m⟩,fun q hq v r=>r.at (hpl q hq)⟩
 refine aT (kF ho S.lenO) fun sl0 hs=>?_
 have hr0:=S.slot i p sl0 _ hp hs ho
 have:=S.put (B':=B) rfl (fun _=>id) (oa:=some a) (sl:=sl) (D:=fun b=>K.T.tb b∨b=a) hp hk (fun b (d:K.T.tb b∨b=a)=>d.imp id fun (d:b=a)=>.inr (d▸ho)) (fun q hq _=>⟨fun v r=>r.at (hpl q hq),fun r=>r.at (hpl q hq)⟩) ⟨hr0.1.at (hpl p (List.mem_of_getElem? hp)),by refine (Eq.symm e)▸?_;exact hr⟩ ?_ (by refine (Eq.symm e)▸?_;exact w.g)
  (fun b (d:K.T.tb b∨b=a)=>d.imp id fun (d:b=a)=>d▸hr.live) (by refine (Eq.symm e)▸?_;exact ti) fun b q1 q2=>?_
 ·rw [e] at this;exact ⟨this,w⟩
 ·rintro _ ⟨rfl⟩
  exact ⟨S.ow i a ho,ha.2.1,fun j n q=>n (S.dis j i a q ho)⟩
 ·subst q2
  have:=S.own0 b q1
  rw [ho] at this;exact Option.some.inj this
omit S in
theorem SR {i:Nat}{a:Addr}(x:Xs B (own.set i none) a):Xs B own a:=(KG x).resolve_right nofun
theorem St.freeze {i:Nat}{sl:aF}{y:V}(hi:ρ[i]? =some sl)(hio:K.io=none∨i≠0)(hy:(∃l,sl=.l l∧y=.lst l)∨∃l,sl=.d l∧y=.dct l):
  ∃a p,B.pls[i]? =some p∧rd h p (.ref a)∧St B (own.set i none) (ρ.set i (.v y)) h∧Gr K B.pls own h (own.set i none) h∧Rp K.P (gv B (own.set i none) h) (.ref a) y:=by
 refine bY (S.get hi) fun p oa hp ho k=>?_
 have hg:∀b o,gv B own h b o→gv B (own.set i none) h b o:=fun b o g=>⟨g.1,fun q=>g.2 (SR q)⟩
 cases oa with
 |none=>rcases hy with ⟨l,rfl,_⟩|⟨l,rfl,_⟩<;>exact k.elim
 |some a=>
  have hm:=List.mem_of_getElem? ho
  have hnX:¬Xs B (own.set i none) a:=by
   rintro (q|q|q)
   ·rcases S.ow i a ho with r|⟨r1,r2⟩
    ·exact r.2 q
    ·rcases hio with r|r
     ·rw [r] at r2;cases r2
     ·exact r r1
   ·exact S.sep i a ho q
   ·refine aT (ix q) fun j hj=>?_
    rcases iY hj with ⟨_,q⟩|⟨n,hj⟩
    ·cases q
    ·exact n (S.dis j i a hj ho)
  have hr:Rp K.P (gv B (own.set i none) h) (.ref a) y:=by
   rcases hy with ⟨l,rfl,rfl⟩|⟨l,rfl,rfl⟩
   ·refine aG k fun _ atR=>?_;obtain ⟨vs,n,g,q⟩:=atR;exact (jU a vs n ⟨rfl,⟨g,hnX⟩,q.mono hg⟩)
   ·refine aG k fun _ atS=>?_;obtain ⟨vs,n,g,q,d⟩:=atS;exact (jU a vs n ⟨rfl,⟨g,hnX⟩,q.mono hg,d⟩)
  exact ⟨a,p,hp,k.1,S.put (B':=B) rfl (fun _=>id) (oa:=none) (sl:=.v y) (D:=fun _=>False) hp (fun b o g _=>g) (fun _=>False.elim) (fun _ _ _=>⟨fun _ r=>r,id⟩) ⟨.ref a,k.1,hr⟩ (fun _ q=>nomatch q) hg (fun _=>False.elim)
   (K.T.mono _ _ (uJ hg fun _ _ _ g=>g) S.ti) fun a e q=>hio.elim (fun z=>by rw [z] at e;cases e) fun z=>(z q).elim,⟨BK (fun _ _ g _=>g) fun _ q=>(nomatch q),fun _ _ _ r=>r⟩,hr⟩
omit S in
noncomputable def Bs.hide (B:Bs K)(D:Addr→Prop)(hd:∀d,D d→K.N≤d∧¬dY B.pls d):Bs K where
 out:=fun a=>B.out a∨D a
 pls:=B.pls
 tbN:=fun a t=>⟨(B.tbN a t).1,.inl (B.tbN a t).2.1,(B.tbN a t).2.2⟩
 bas:=fun a o e=>⟨(B.bas a o e).1,fun x=>x.elim (B.bas a o e).2.1 fun q=>absurd (B.bas a o e).1 (Nat.not_lt.mpr (hd a q).1),(B.bas a o e).2.2⟩
 pl:=fun p hp=>⟨(B.pl p hp).1,fun x=>x.elim (B.pl p hp).2 fun q=>(hd _ q).2 ⟨p,hp,rfl⟩⟩
 pnd:=B.pnd
 ne:=B.ne
 ioN:=B.ioN
 sys:=⟨.inl B.sys.1,B.sys.2⟩
theorem St.hd {D:Addr→Prop}(f:∀d,D d→dM h d)(d:Addr)(q:D d):K.N≤d∧¬dY B.pls d:=⟨(S.fresh (f d q)).2.1,fun x=>(S.fresh (f d q)).1 (.inr (.inl x))⟩
omit S in
theorem wO {D:Addr→Prop}(hk:lJ h h1)(f:∀d,D d→dM h d)(hd:∀d,D d→K.N≤d∧¬dY B.pls d)(a:Addr)(o:Obj)(g:gv B own h a o):gv (B.hide D hd) own h1 a o:=
 ⟨hk a o g.1,fun x=>x.elim (fun x=>x.elim (fun x=>g.2 (.inl x)) fun x=>(f a x).none g.1) fun x=>g.2 (.inr x)⟩
theorem St.hide {D:Addr→Prop}(hk:lJ h h1)(f:∀d,D d→dM h d)(hd:∀d,D d→K.N≤d∧¬dY B.pls d)(hl:∀d,D d→∃o,h1.get? d=some o):St (B.hide D hd) own ρ h1 where
 bs:=fun a o e=>hk a o (S.bs a o e)
 live:=fun a x=>x.elim (fun x=>(S.live a x).imp id fun q=>q.imp fun o=>hk a o) fun x=>.inr (hl a x)
 ow:=fun i a e=>(S.ow i a e).imp (fun q=>⟨q.1,fun x=>x.elim q.2 fun x=>aT (S.ownLive (List.mem_of_getElem? e)) fun _ g=>(f a x).none g⟩) id
 lenP:=S.lenP
 lenO:=S.lenO
 slot:=fun i p sl oa h1' h2' h3'=>(S.slot i p sl oa h1' h2' h3').move (wO hk f hd) (fun _ r=>r.at fun o=>hk _ o) (fun r=>r.at fun o=>hk _ o) fun a _ o=>hk a o
 sep:=S.sep
 dis:=S.dis
 ti:=K.T.mono _ _ (uJ (B:=B) (own:=own) (h:=h) (fun a o g=>wO hk f hd a o g) fun a o _=>hk a o) S.ti
 own0:=S.own0
end
theorem wP {B':Bs K}{D:Addr→Prop}(hp:B'.pls=B.pls)(ho:∀a,B'.out a→B.out a)(hD:∀d,D d→B.out d∧K.N≤d)(hk:∀b o,h.get? b=some o→¬D b→h1.get? b=some o)(a:Addr)(o:Obj)(g:gv B own h a o):gv B' own h1 a o:=
 ⟨hk a o g.1 fun d=>g.2 (.inl (hD a d).1),fun x=>g.2 (x.imp (ho a) fun x=>x.imp (fun x=>hp▸x) id)⟩
theorem St.less {B':Bs K}{D:Addr→Prop}(S:St B own ρ h)(hp:B'.pls=B.pls)(ho:∀a,B'.out a→B.out a)(hD:∀d,D d→B.out d∧K.N≤d)(hk:∀b o,h.get? b=some o→¬D b→h1.get? b=some o)(hl:∀d,D d→B'.out d→∃o,h1.get? d=some o):St B' own ρ h1 where
 bs:=fun a o e=>hk a o (S.bs a o e) fun q=>absurd (B.bas a o e).1 (Nat.not_lt.mpr (hD a q).2)
 live:=fun a x=>Classical.byCases (fun d:D a=>.inr (hl a d x)) fun d=>(S.live a (ho a x)).imp id fun ⟨o,g⟩=>⟨o,hk a o g d⟩
 ow:=fun i a e=>(S.ow i a e).imp (fun q=>⟨q.1,fun x=>q.2 (ho a x)⟩) id
 lenP:=hp▸S.lenP
 lenO:=S.lenO
 slot:=fun i p sl oa h1' h2' h3'=>by
  rw [hp] at h1'
  have n:¬D p.addr:=fun q=>(B.pl p (List.mem_of_getElem? h1')).2 (hD _ q).1
  refine (S.slot i p sl oa h1' h2' h3').move (wP hp ho hD hk) (fun _ r=>r.at fun o g=>hk _ o g n) (fun r=>r.at fun o g=>hk _ o g n) fun a e o g=>hk a o g fun q=>?_
  exact (S.ow i a (e▸h3')).elim (fun r=>r.2 (hD a q).1) fun r=>absurd (B.ioN a r.2).1 (Nat.not_lt.mpr (hD a q).2)
 sep:=fun i a e x=>S.sep i a e (hp▸x)
 dis:=S.dis
 ti:=K.T.mono _ _ (uJ (B:=B) (own:=own) (h:=h) (wP hp ho hD hk) fun a o t g=>hk a o g fun q=>absurd (B.tbN a t).1 (Nat.not_lt.mpr (hD a q).2)) S.ti
 own0:=S.own0
theorem sS {D:Addr→Prop}{hd:∀d,D d→K.N≤d∧¬dY B.pls d}(hk:∀b o,h.get? b=some o→¬D b→h1.get? b=some o)(a:Addr)(o:Obj)(g:gv (B.hide D hd) own h a o):gv B own h1 a o:=
 wP (B:=B.hide D hd) (B':=B) rfl (fun _=>.inl) (fun d m=>⟨.inr m,(hd d m).1⟩) hk a o g
theorem St.unhide {D:Addr→Prop}{hd:∀d,D d→K.N≤d∧¬dY B.pls d}(S:St (B.hide D hd) own ρ h)(ho:∀d,D d→¬B.out d)(hk:∀b o,h.get? b=some o→¬D b→h1.get? b=some o):St B own ρ h1:=
 S.less (B':=B) rfl (fun _=>.inl) (fun d m=>⟨.inr m,(hd d m).1⟩) hk fun d m x=>absurd x (ho d m)
theorem St.adopt {D:Addr→Prop}{hd:∀d,D d→K.N≤d∧¬dY B.pls d}(S:St (B.hide D hd) own ρ h){i:Nat}{p:Pl}{d:Addr}{sl:aF}(hi0:K.io=none∨i≠0)(hp:B.pls[i]? =some p)(hD:D d)(ho:¬B.out d)(U:oN h p (.ref d) h1)(hr:eQ K.P (gv (B.hide D hd) own h) h d sl)
  {hd':∀a,D a∧a≠d→K.N≤a∧¬dY B.pls a}:St (B.hide (fun a=>D a∧a≠d) hd') (own.set i (some d)) (ρ.set i sl) h1∧∀a o,gv (B.hide D hd) own h a o→gv (B.hide (fun a=>D a∧a≠d) hd') (own.set i (some d)) h1 a o:=by
 have hpm:p∈(B.hide D hd).pls:=List.mem_of_getElem? hp
 have hpd:d≠p.addr:=fun e=>(hd d hD).2 ⟨p,hpm,e.symm⟩
 have hg:∀a o,gv (B.hide D hd) own h a o→gv (B.hide (fun a=>D a∧a≠d) hd') (own.set i (some d)) h1 a o:=fun a o g=>⟨U.same a o g.1 fun e=>g.2 (.inr (.inl ⟨p,hpm,e.symm⟩)),fun x=>(KG x).elim (fun x=>g.2 (x.imp (fun x=>x.imp id And.left) id)) fun e=>g.2 (.inl (.inr (Option.some.inj e▸hD)))⟩
 refine ⟨S.put (B':=B.hide (fun a=>D a∧a≠d) hd') rfl (fun a x=>x.imp id And.left) (D:=fun b=>b=p.addr) hp U.same (fun _ d=>.inr (.inl d)) (fun q _=>U.oth q) ⟨U.holds,hr.move hg fun o g=>U.same d o g hpd⟩ ?_ hg (fun b e=>.inr (e▸U.holds.there.live.imp fun _ q=>q.1))
  (K.T.mono _ _ (uJ (B:=B.hide D hd) (own:=own) (h:=h) hg fun a o t g=>U.same a o g fun e=>(XZ hpm).1 (e▸t)) S.ti) fun a e q=>hi0.elim (fun z=>by rw [z] at e;cases e) fun z=>(z q).elim,hg⟩
 rintro _ ⟨rfl⟩
 exact ⟨.inl ⟨(hd d hD).1,fun x=>x.elim ho fun x=>x.2 rfl⟩,(hd d hD).2,fun j _ q=>(S.ownX (List.mem_of_getElem? q)).2.2.2.elim (fun q=>q.2 (.inr hD)) fun q=>absurd (B.ioN d q).1 (Nat.not_lt.mpr (hd d hD).1)⟩
noncomputable def Bs.wide (B:Bs K)(C:Addr)(vars:List Str)(hC:K.N≤C∧¬B.out C∧¬dY B.pls C)(hv:vars.Nodup):Bs K where
 out:=B.out
 pls:=B.pls++vars.map (.loc C)
 tbN:=B.tbN
 bas:=B.bas
 pl:=fun p hp=>(List.mem_append.mp hp).elim (B.pl p) fun hp=>by refine aD (List.mem_map.mp hp) fun y _ as9=>?_;subst as9;exact ⟨hC.1,hC.2.1⟩
 pnd:=List.nodup_append.mpr ⟨B.pnd,List.Pairwise.map _ (fun a b (n:a≠b) e=>n (Pl.loc.inj e).2) hv,fun a ha b hb e=>by
  refine aD (List.mem_map.mp hb) fun y _ atA=>?_;subst atA
  exact hC.2.2 ⟨a,ha,by refine (Eq.symm e)▸?_;rfl⟩⟩
 ne:=fun e=>B.ne (List.append_eq_nil_iff.mp e).1
 ioN:=B.ioN
 sys:=B.sys
section
variable {C:Addr}{vars:List Str}{hC:K.N≤C∧¬B.out C∧¬dY B.pls C}{hv:vars.Nodup}
theorem mZ {a:Addr}(x:dY (B.pls++vars.map (.loc C)) a):dY B.pls a∨a=C:=by
 refine aD x fun p hp atB=>?_;subst atB
 rcases List.mem_append.mp hp with hp|hp
 ·exact .inl ⟨p,hp,rfl⟩
 ·refine aD (List.mem_map.mp hp) fun y _ atC=>?_;subst atC;exact .inr rfl
theorem mM {n i:Nat}{a:Addr}(e:(own++List.replicate n none)[i]? =some (some a)):own[i]? =some (some a):=by
 by_cases hi:i<own.length
 ·rwa [List.getElem?_append_left hi] at e
 ·rw [List.getElem?_append_right (Nat.le_of_not_lt hi),List.getElem?_replicate] at e
  split at e<;>cases e
theorem ZS {a:Addr}{n:Nat}(x:Xs (B.wide C vars hC hv) (own++List.replicate n none) a):Xs B own a∨a=C:=by
 rcases x with x|x|x
 ·exact .inl (.inl x)
 ·exact (mZ x).imp (fun x=>.inr (.inl x)) id
 ·refine aT (ix x) fun i hi=>?_
  exact .inl (.inr (.inr (List.mem_of_getElem? (mM hi))))
theorem St.wide (S:St B own ρ h){m:Str→Option Value}(hk:lJ h h1)(f:dM h C)(hn:h1.Ns C m):
  St (B.wide C vars hC hv) (own++List.replicate vars.length none) (ρ++List.replicate vars.length .un) h1∧∀a o,gv B own h a o→gv (B.wide C vars hC hv) (own++List.replicate vars.length none) h1 a o:=by
 have hg:∀a o,gv B own h a o→gv (B.wide C vars hC hv) (own++List.replicate vars.length none) h1 a o:=fun a o g=>⟨hk a o g.1,fun x=>(ZS x).elim g.2 fun q=>f.none (q▸g.1)⟩
 refine ⟨⟨fun a o e=>hk a o (S.bs a o e),fun a x=>(S.live a x).imp id fun q=>q.imp fun o=>hk a o,fun i a e=>S.ow i a (mM e),?_,?_,fun i p sl oa h1' h2' h3'=>?_,fun i a e x=>?_,fun i j a h1' h2'=>S.dis i j a (mM h1') (mM h2'),
  K.T.mono _ _ (uJ (B:=B) (own:=own) (h:=h) hg fun a o _=>hk a o) S.ti,fun a e=>?_⟩,hg⟩
 ·show (B.pls++_).length=_
  rw [List.length_append,List.length_append,List.length_map,List.length_replicate,S.lenP]
 ·rw [List.length_append,List.length_append,List.length_replicate,List.length_replicate,S.lenO]
 ·replace h1':(B.pls++vars.map (.loc C))[i]? =some p:=h1'
  by_cases hi:i<ρ.length
  ·rw [List.getElem?_append_left (S.lenP▸hi)] at h1'
   rw [List.getElem?_append_left hi] at h2'
   rw [List.getElem?_append_left (S.lenO▸hi)] at h3'
   exact (S.slot i p sl oa h1' h2' h3').move hg (fun _ r=>r.at fun o=>hk _ o) (fun r=>r.at fun o=>hk _ o) fun a _ o=>hk a o
  ·have hi:=Nat.le_of_not_lt hi
   rw [List.getElem?_append_right (S.lenP▸hi)] at h1'
   rw [List.getElem?_append_right hi,List.getElem?_replicate] at h2'
   rw [List.getElem?_append_right (S.lenO▸hi),List.getElem?_replicate] at h3'
   split at h2'<;>cases h2'
   split at h3'<;>cases h3'
   refine aD (List.mem_map.mp (List.mem_of_getElem? h1')) fun y _ atD=>?_;subst atD
   exact ⟨m,hn⟩
 ·have e:=mM e
  exact (mZ x).elim (S.sep i a e) fun q=>aT (S.ownLive (List.mem_of_getElem? e)) fun _ g=>f.none (q▸g)
 ·have q:=S.own0 a e
  rw [List.getElem?_append_left (List.getElem?_eq_some_iff.mp q).1];exact q
theorem BM (h0:vars≠[]):dY (B.pls++vars.map (.loc C)) C:=aT (List.exists_mem_of_ne_nil vars h0) fun y hy=>⟨.loc C y,List.mem_append_right _ (List.mem_map_of_mem hy),rfl⟩
theorem KH {a:Addr}(x:dY B.pls a):dY (B.pls++vars.map (.loc C)) a:=x.imp fun p q=>⟨List.mem_append_left _ q.1,q.2⟩
theorem sU (h0:vars≠[]){hd:∀d,d=C→K.N≤d∧¬dY B.pls d}(a:Addr)(o:Obj)(g:gv (B.wide C vars hC hv) own h a o):gv (B.hide (fun d=>d=C) hd) (own.take B.pls.length) h a o:=
 ⟨g.1,fun x=>g.2 (x.elim (fun x=>x.elim .inl fun e=>.inr (.inl (e▸BM h0))) fun x=>.inr (x.imp KH List.mem_of_mem_take))⟩
theorem mO {n i:Nat}{a:Addr}(e:(own.take n)[i]? =some (some a)):own[i]? =some (some a):=by
 rw [List.getElem?_take] at e;split at e
 ·exact e
 ·cases e
theorem St.narrow (S:St (B.wide C vars hC hv) own ρ h)(h0:vars≠[]){hd:∀d,d=C→K.N≤d∧¬dY B.pls d}:St (B.hide (fun d=>d=C) hd) (own.take B.pls.length) (ρ.take B.pls.length) h:=by
 have le:B.pls.length≤ρ.length:=by rw [←S.lenP];show _≤(B.pls++_).length;rw [List.length_append];exact Nat.le_add_right _ _
 have sp:∀{i:Nat} {a:Addr},own[i]? =some (some a)→a≠C:=fun e q=>S.sep _ _ e (q▸BM h0)
 exact ⟨S.bs,fun a x=>x.elim (S.live a) fun e=>(S.xlive (.inr (.inl (e▸BM h0)))),fun i a e=>(S.ow i a (mO e)).imp (fun q=>⟨q.1,fun x=>x.elim q.2 (sp (mO e))⟩) id,(List.length_take_of_le le).symm,
  (List.length_take_of_le (S.lenO▸le)).trans (List.length_take_of_le le).symm,fun i p sl oa h1' h2' h3'=>by
   have hi:i<B.pls.length:=(List.getElem?_eq_some_iff.mp h1').1
   rw [List.getElem?_take,if_pos hi] at h2' h3'
   exact (S.slot i p sl oa (by show (B.pls++_)[i]? =_;rw [List.getElem?_append_left hi];exact h1') h2' h3').move (sU h0) (fun _ r=>r) id fun _ _ _ g=>g,fun i a e x=>S.sep i a (mO e) (KH x),fun i j a h1' h2'=>S.dis i j a (mO h1') (mO h2'),
  K.T.mono _ _ (uJ (B:=B.wide C vars hC hv) (own:=own) (h:=h) (sU h0) fun a o _ g=>g) S.ti,fun a e=>by rw [List.getElem?_take,if_pos (List.length_pos_iff.mpr B.ne)];exact S.own0 a e⟩
theorem EO {n:Nat}{a:Addr}(x:some a∈own++List.replicate n none):some a∈own:=(List.mem_append.mp x).elim id fun x=>(nomatch (List.mem_replicate.mp x).2)
theorem Gw.narrow {own2:wN}(w:Gw K (B.pls++vars.map (.loc C)) (own++List.replicate vars.length none) h own2 h2)(hX:∀o,h.get? C≠some o):Gw K B.pls own h (own2.take B.pls.length) h2:=
 ⟨fun a o g t p m=>w.k a o g t (fun x=>(mZ x).elim p fun e=>hX o (e▸g)) fun x=>m (EO x),
  fun a m=>(w.n a (List.mem_of_mem_take m)).elim (fun x=>.inl (EO x)) fun q=>q.elim (fun t=>.inr (.inl t)) fun q=>q.elim (fun x=>(mZ x).elim (fun p=>.inr (.inr (.inl p))) fun e=>.inr (.inr (.inr fun o=>e▸hX o))) fun d=>.inr (.inr (.inr d))⟩
end
def gn (g:Gh)(h h':Heap):Gh:=fun a o=>g a o∨(h'.get? a=some o∧dM h a)
theorem rM {g:Gh}{h h':Heap}(a:Addr)(o:Obj)(x:g a o):gn g h h' a o:=.inl x
theorem St.gn (S:St B own ρ h)(hk:lJ h h1)(a:Addr)(o:Obj)(g:gn (gv B own h) h h1 a o):gv B own h1 a o:=
 g.elim (fun g=>⟨hk a o g.1,g.2⟩) fun g=>⟨g.1,(S.fresh g.2).1⟩
end
abbrev eO:=List (Option Str)
structure iS (env:Env)(Γ:eO)(pls:List Pl):Prop where
 kind:env.scope.kind=.function
 gl:env.globals=mainGlobals
 bl:env.builtins=builtinsNs
 names:∀(i:Nat) (x:Str),Γ[i]? =some (some x)→(env.kindOf x=some .local∧pls[i]? =some (.loc env.locals x))∨
  ((env.kindOf x=some .cell∨env.kindOf x=some .free)∧∃c,env.cells.lookup x=some c∧pls[i]? =some (.cel c))
 dbg:∀(i:Nat) (x:Str),Γ[i]? =some (some x)→(x==("__debug__":Str))=false∧(x==("__classdict__":Str))=false
 len:Γ.length=pls.length
section
variable {M:Model}{A:Around}{E:Value→Shared→Prop}{s:Shared}{env:Env}{Γ:eO}{pls:List Pl}{i:Nat}{x:Str}{p:Pl}{v:Value}
theorem iS.load (H:iS env Γ pls)(hx:Γ[i]? =some (some x))(hp:pls[i]? =some p)(r:rd s.heap p v){Q:Value→Shared→Prop}(h:Q v s):wpAny M A (loadName env x) Q E s:=by
 rcases H.names i x hx with ⟨hk,hl⟩|⟨hk,c,hc,hl⟩
 ·rw [hp] at hl;cases hl
  refine aD r fun m hn hv=>?_
  exact wpAny_loadName_local H.kind hk hn hv h
 ·rw [hp] at hl;cases hl
  rcases hk with hk|hk
  ·exact wpAny_loadName_cell H.kind hk hc r h
  ·exact wpAny_loadName_free H.kind hk hc r h (H.dbg i x hx).2
theorem iS.evalName (H:iS env Γ pls)(hx:Γ[i]? =some (some x))(hp:pls[i]? =some p)(r:rd s.heap p v){pos:Pos}{Q:Value→Shared→Prop}(h:Q v s):wpAny M A (eval (.Name x pos) env) Q E s:=
 wpAny_Name (H.load hx hp r h) (H.dbg i x hx).1
theorem sV {env:Env}{name:Str}{c:Addr}{v₀:Option Value}{v:Value}{Q:Unit→Shared→Prop}(hk:env.scope.kind=.function)(hl:env.kindOf name=some .free)
  (hc:env.cells.lookup name=some c) (hv:s.heap.IsCell c v₀)
  (h:∀h',h'.IsCell c (some v)→Heap.SameBut c s.heap h'→Q () {s with heap:=h'}):wpAny M A (storeName env name v) Q E s:=by
 unfold storeName
 simp only [hl,hk]
 exact wpAny_bind (wpAny_cellOf hc (wpAny_cellSet hv h))
theorem iS.store (H:iS env Γ pls)(hx:Γ[i]? =some (some x))(hp:pls[i]? =some p)(r:there s.heap p){Q:Unit→Shared→Prop}
  (h:∀h' tk,oN s.heap p v h'→Q () {s with heap:=h',toks:=tk}):wpAny M A (storeName env x v) Q E s:=by
 rcases H.names i x hx with ⟨hk,hl⟩|⟨hk,c,hc,hl⟩
 ·rw [hp] at hl;cases hl
  refine aT r fun m hn=>?_
  refine wpAny_storeName_local hk hn (fun h' hn' hs=>h h' _ (BJ hn hn' hs)) ?_
  refine (Eq.symm H.kind)▸?_;rfl
 ·rw [hp] at hl;cases hl
  refine dI r fun o u ho hd=>?_
  have hcell:s.heap.IsCell c u:=⟨o,ho,hd⟩
  rcases hk with hk|hk
  ·exact wpAny_storeName_cell H.kind hk hc hcell fun h' hv hs=>h h' _ (sR hcell hv hs)
  ·exact sV H.kind hk hc hcell fun h' hv hs=>h h' _ (sR hcell hv hs)
theorem iS.bind (H:iS env Γ pls)(hx:Γ[i]? =some (some x))(hp:pls[i]? =some p)(r:there s.heap p){Q:Unit→Shared→Prop}
  (h:∀h' tk,oN s.heap p v h'→Q () {s with heap:=h',toks:=tk}):wpAny M A (bindName env x v) Q E s:=wpAny_bindName (H.store hx hp r h)
theorem iS.quiet (H:iS env Γ pls):interactive env=false:=by
 unfold interactive;refine (Eq.symm H.kind)▸?_;rfl
end
structure mC (bs:Heap)(mg:Str→Option Value)(nmF:Str)(params:Arguments)(body:List Stmt)(scope:Scope)(a:Addr):Prop where
 there:mg nmF=some (.ref a)
 obj:∃o pm cd doc,bs.get? a=some o∧o.data=.func (Calls.docDef nmF params body scope pm cd doc)∧bs.CodeRec cd nmF
 co:scope.isCoroutine=false
 gen:scope.isGenerator=false
 kind:scope.kind=.function
noncomputable def eK:List (Str×Value):=[("len",.builtin "len"),("abs",.builtin "abs"),("tuple",.type "tuple"),("list",.type "list"),("sum",.builtin "sum"),("min",.builtin "min"),("max",.builtin "max"),
 ("range",.type "range"),("enumerate",.type "enumerate"),("sorted",.builtin "sorted"),("dict",.type "dict")]
structure Cx (w:World) where
 prog:Program
 bs:Heap
 mg:Str→Option Value
 mb:Str→Option Value
 nsg:bs.Ns mainGlobals mg
 nsb:bs.Ns builtinsNs mb
 nolim:bs.NoLimit
 glob:∀(i:Nat) (x:Str) (v:V),mJ[i]? =some x→glb[i]? =some v→∃pv,mg x=some pv∧Rp w.params (gh bs) pv v
 bi:∀p∈eK,mg p.1=none∧mb p.1=some p.2
 fns:∀(f:Nat) (fn:Fn),rS[f]? =some fn→∃fa o fd,mg fn.name=some (.ref fa)∧bs.get? fa=some o∧o.data=.func fd
 rk:∃a f,mg "RANKS"=some (.ref a)∧bs.MapOf (PySem.strKind prog w) a f∧∀n v,EJ (.str n)=some (.int v)→∃t,f (nm n)=some (.int v t)
structure fH (A:Around)(d:Nat):Prop where
 handled:A.handled=none
 depth:A.depth+d≤990
 units:A.units+4*d+400≤9900
section
variable {w:World}(cx:Cx w){A:Around}{E:Value→Shared→Prop}{s:Shared}{env:Env}{Γ:eO}{pls:List Pl}{x:Str}{v:Value}{pos:Pos}
theorem eM (H:iS env Γ pls)(hk:env.kindOf x=some .globalImplicit)(hg:s.heap.Ns mainGlobals cx.mg)(hv:cx.mg x=some v){Q:Value→Shared→Prop}(h:Q v s)
  (hd:(x==("__debug__":Str))=false):wpAny (model cx.prog w) A (eval (.Name x pos) env) Q E s:=
 Calls.Name_function_global H.kind hk (Calls.loadGlobal_global (H.gl▸hg) hv h) hd
theorem dN (H:iS env Γ pls)(hk:env.kindOf x=some .globalImplicit)(hg:s.heap.Ns mainGlobals cx.mg)(hb:s.heap.Ns builtinsNs cx.mb)(hm:(x,v)∈eK){Q:Value→Shared→Prop}(h:Q v s)
  (hd:(x==("__debug__":Str))=false):wpAny (model cx.prog w) A (eval (.Name x pos) env) Q E s:=
 Calls.Name_function_global H.kind hk (Calls.loadGlobal_builtin (H.gl▸hg) (cx.bi _ hm).1 (H.bl▸hb) (cx.bi _ hm).2 h) hd
end
structure Ct where
 w:World
 cx:Cx w
 T:Tb
 A:Around
 C:CF
 N:Nat
 io:Option Addr
 hh:A.handled=none
 hu:A.units+300<cLine
noncomputable abbrev Ct.P (K:Ct):Params:=K.w.params
noncomputable abbrev Ct.M (K:Ct):Model:=model K.cx.prog K.w
noncomputable abbrev Ct.kx (K:Ct):Kx:=⟨K.w.params,K.T,K.cx.bs,K.N,K.io⟩
abbrev fJ:=List (Str×NameKind)
structure eA (K:Ct)(ns:fJ)(Γ:eO) extends Bs K.kx where
 env:Env
 ok:iS env Γ pls
 glb:∀x,ns.lookup x=some .globalImplicit→env.kindOf x=some .globalImplicit
 cel:∀x,ns.lookup x=some .cell→env.kindOf x=some .cell
structure Pt where
 own:wN
 ρ:Fm
 s:Shared
noncomputable abbrev Pt.h (σ:Pt):Heap:=σ.s.heap
def Up (s s':Shared):Prop:=s'={s with heap:=s'.heap,toks:=s'.toks}
theorem Up.trans {a b c:Shared}(h:Up a b)(k:Up b c):Up a c:=by unfold Up at*;rw [k,h]
abbrev gZ {K:Kx} (B:Bs K) (σ:Pt):Prop:=St B σ.own σ.ρ σ.s.heap
abbrev gS {K:Kx} (B:Bs K) (σ:Pt):Gh:=gv B σ.own σ.s.heap
abbrev Vl {K:Kx} (B:Bs K) (σ:Pt) (v:Value) (x:V):Prop:=Rp K.P (gS B σ) v x
abbrev Vls {K:Kx} (B:Bs K) (σ:Pt) (v:List Value) (x:List V):Prop:=bP K.P (gS B σ) v x
structure eC {K:Kx}(B:Bs K)(pu:Bool)(σ σ':Pt):Prop where
 S:gZ B σ'
 w:Gr K B.pls σ.own σ.s.heap σ'.own σ'.s.heap
 u:Up σ.s σ'.s
 p:pu=true→σ'.ρ=σ.ρ
section
variable {K:Kx}{B:Bs K}{a b:Bool}{σ σ1 σ2:Pt}
theorem eC.trans (h:eC B a σ σ1)(k:eC B b σ1 σ2):eC B (a && b) σ σ2:=⟨k.S,h.w.trans k.w,h.u.trans k.u,fun e=>by
 rw [Bool.and_eq_true] at e
 exact (k.p e.2).trans (h.p e.1)⟩
theorem eC.here (S:gZ B σ)(b:Bool):eC B b σ σ:=⟨S,.refl,rfl,fun _=>rfl⟩
theorem eC.thenP (h:eC B a σ σ1)(k:eC B true σ1 σ2):eC B a σ σ2:=⟨k.S,h.w.trans k.w,h.u.trans k.u,fun e=>(k.p rfl).trans (h.p e)⟩
theorem eC.any (h:eC B a σ σ1):eC B false σ σ1:=⟨h.S,h.w,h.u,fun e=>nomatch e⟩
theorem eC.g (h:eC B a σ σ1):∀x o,gS B σ x o→gS B σ1 x o:=h.w.g
end
abbrev uE {β:Type} (P:Params) (g:Gh) (s:Shared) (k:V→Option β) (z:β) (Q:Value→Shared→Prop):Prop:=
 ∀h' tk r x,lJ s.heap h'→k x=some z→Rp P (gn g s.heap h') r x→Q r {s with heap:=h',toks:=tk}
abbrev pH (g:Gh) (s:Shared):Prop:=∀a o,g a o→s.heap.get? a=some o
noncomputable abbrev Pt.to (σ:Pt) (h:Heap) (tk:Tok):Pt:=⟨σ.own,σ.ρ,{σ.s with heap:=h,toks:=tk}⟩
section
variable {β:Type}{K:Kx}{B:Bs K}{a:Bool}{σ σ1:Pt}{k:V→Fm→Option β}{z:β}{Q:Value→Shared→Prop}
theorem eC.new (S:gZ B σ){h':Heap}(tk:Tok)(hk:lJ σ.s.heap h'):eC B true σ (σ.to h' tk):=⟨S.grow hk,⟨.ext hk,fun _ _ _ r=>r.at fun o=>hk _ o⟩,rfl,fun _=>rfl⟩
theorem eC.nw (h:eC B a σ σ1)(hp:∀σ' v x,eC B a σ σ'→Vl B σ' v x→k x σ'.ρ=some z→Q v σ'.s):uE K.P (gS B σ1) σ1.s (fun x=>k x σ1.ρ) z Q:=fun h' tk r x hk hx hr=>
 hp (σ1.to h' tk) r x (h.thenP (.new h.S tk hk)) (hr.mono (h.S.gn hk)) hx
theorem uE.at {P:Params}{g:Gh}{s:Shared}{k:V→Option β}{z:β}(h:uE P g s k z Q){r:Value}{x:V}(hx:k x=some z)(hr:Rp P g r x){tk:Tok}:Q r {s with toks:=tk}:=h s.heap tk r x (fun _ _ e=>e) hx (hr.mono rM)
theorem uE.at0 {P:Params}{g:Gh}{s:Shared}{k:V→Option β}{z:β}(h:uE P g s k z Q){r:Value}{x:V}(hx:k x=some z)(hr:Rp P g r x):Q r s:=h s.heap s.toks r x (fun _ _ e=>e) hx (hr.mono rM)
end
section
variable (K:Ct)(ns:fJ)(Γ:eO)
def bH (e:E)(pe:Expr):Prop:=∀(B:eA K ns Γ) (σ:Pt) (β:Type) (k:V→Fm→Option β) (z:β) (Q:Value→Shared→Prop) (E:Value→Shared→Prop),gZ B.toBs σ→kE K.C Internal.glb e β σ.ρ k=some z→
 (∀σ' v x,eC B.toBs (aL e) σ σ'→Vl B.toBs σ' v x→k x σ'.ρ=some z→Q v σ'.s)→wpAny K.M K.A (eval pe B.env) Q E σ.s
def kM (e:E)(pe:Expr):Prop:=∀(B:eA K ns Γ) (σ:Pt) (β:Type) (k:V→Fm→Option β) (z:β) (Q:Bool→Shared→Prop) (E:Value→Shared→Prop),(∀x ρ,k x ρ=some z→∃t,x=.bool t)→gZ B.toBs σ→kE K.C Internal.glb e β σ.ρ k=some z→
 (∀σ' t,eC B.toBs (aL e) σ σ'→k (.bool t) σ'.ρ=some z→Q t σ'.s)→wpAny K.M K.A (isTrue pe B.env (eval pe B.env)) Q E σ.s
def nM (es:List E)(pes:List Expr):Prop:=∀(B:eA K ns Γ) (σ:Pt) (β:Type) (k:List V→Fm→Option β) (z:β) (Q:List Value→Shared→Prop) (E:Value→Shared→Prop) (pos:Pos),gZ B.toBs σ→cL K.C Internal.glb es β σ.ρ k=some z→
 (∀σ' v x,eC B.toBs (aM es) σ σ'→Vls B.toBs σ' v x→x.length=es.length→k x σ'.ρ=some z→Q v σ'.s)→wpAny K.M K.A (spliced (backTo pos (starEach pes B.env))) Q E σ.s
end
section
variable {K:Ct}{ns:fJ}{Γ:eO}
theorem eA.nsg {σ:Pt}(B:eA K ns Γ)(S:gZ B.toBs σ):σ.s.heap.Ns mainGlobals K.cx.mg:=K.cx.nsg.at' fun _ e=>(S.base e).1
theorem eA.nsb {σ:Pt}(B:eA K ns Γ)(S:gZ B.toBs σ):σ.s.heap.Ns builtinsNs K.cx.mb:=K.cx.nsb.at' fun _ e=>(S.base e).1
theorem Fm.at_get {ρ:Fm}{i:Nat}(n:ρ.at i≠.un):ρ[i]? =some (ρ.at i):=by
 unfold Fm.at at n ⊢
 rw [List.getD_eq_getElem?_getD] at n ⊢
 cases e:ρ[i]? with
 |none=>rw [e] at n;exact absurd rfl n
 |some s=>rfl
theorem Fm.at_some {ρ:Fm}{i:Nat}{sl:aF}(h:ρ.at i=sl)(n:sl≠.un):ρ[i]? =some sl:=h▸Fm.at_get (h▸n)
noncomputable def jX (ns:fJ)(x:Str):Bool:=ns.lookup x==some .globalImplicit && !(x==("__debug__":Str))
theorem eT {ns:fJ}{y:Str}(h:jX ns y=true):ns.lookup y=some .globalImplicit∧(y==("__debug__":Str))=false:=by
 unfold jX at h
 rw [Bool.and_eq_true,Bool.not_eq_true'] at h
 exact ⟨eq_of_beq h.1,h.2⟩
theorem SS {pe}:bH K ns Γ .bad pe:=fun _ _ _ _ _ _ _ _ hev _=>nomatch hev
theorem KI {c p}:bH K ns Γ .none (.Constant .none c p):=fun _ _ _ _ _ _ _ S hev hp=>Constant_none (hp _ _ .none (.here S _) rfl hev)
theorem KJ {b c p}:bH K ns Γ (.bool b) (.Constant (.bool b) c p):=fun _ _ _ _ _ _ _ S hev hp=>Constant_bool (hp _ _ (.bool b) (.here S _) rfl hev)
theorem ST {i c p}:bH K ns Γ (.int i) (.Constant (.int i) c p):=fun _ σ _ _ _ _ _ S hev hp=>wpAny_Constant_int (hp (σ.to σ.s.heap _) _ (.int i) (.new S _ fun _ _ g=>g) ⟨_,rfl⟩ hev)
theorem SU {n c p}(hn:n<27):bH K ns Γ (.str n) (.Constant (.str (nm n)) c p):=fun _ σ _ _ _ _ _ S hev hp=>wpAny_Constant_str (hp (σ.to σ.s.heap _) _ (.str n) (.new S _ fun _ _ g=>g) ⟨hn,_,rfl⟩ hev)
theorem rT {i x p}(hx:Γ[i]? =some (some x)):bH K ns Γ (.var i) (.Name x p):=fun B σ β k z Q E S hev hp=>by
 replace hev:(match σ.ρ.at i with|.v y=>k y σ.ρ|_=>none)=some z:=hev
 cases e:σ.ρ.at i with
 |v y=>
  rw [e] at hev
  refine bY (S.get (Fm.at_some e nofun)) fun p oa e1 e2 k=>?_
  cases oa with
  |none=>exact k.elim fun pv q=>B.ok.evalName hx e1 q.1 (hp _ _ y (.here S _) q.2 hev)
  |some _=>exact k.2.elim
 |_=>rw [e] at hev;cases hev
theorem SV {i x p}(hx:Γ[i]? =some (some x))(hio:K.io=none∨i≠0):bH K ns Γ (.frz i) (.Name x p):=fun B σ β k z Q E S hev hp=>by
 have main:∀sl y,σ.ρ[i]? =some sl→((∃l,sl=.l l∧y=.lst l)∨∃l,sl=.d l∧y=.dct l)→k y (σ.ρ.set i (.v y))=some z→wpAny K.M K.A (eval (.Name x p) B.env) Q E σ.s:=fun sl y h1 h2 hk=>
  mF (S.freeze h1 hio h2) fun a pl e1 r S' hg hr=>
  B.ok.evalName hx e1 r (hp ⟨σ.own.set i none,σ.ρ.set i (.v y),σ.s⟩ _ y ⟨S',hg,rfl,fun e=>nomatch e⟩ hr hk)
 replace hev:(match σ.ρ.at i with|.l xs=>k (.lst xs) (σ.ρ.set i (.v (.lst xs)))|.d kvs=>k (.dct kvs) (σ.ρ.set i (.v (.dct kvs)))|_=>none)=some z:=hev
 cases e:σ.ρ.at i with
 |l l=>rw [e] at hev;exact main _ _ (Fm.at_some e nofun) (.inl ⟨l,rfl,rfl⟩) hev
 |d l=>rw [e] at hev;exact main _ _ (Fm.at_some e nofun) (.inr ⟨l,rfl,rfl⟩) hev
 |_=>rw [e] at hev;cases hev
theorem KK {i x p}(hx:mJ[i]? =some x)(hg:jX ns x=true):bH K ns Γ (.glob i) (.Name x p):=fun B σ β k z Q E S hev hp=>by
 replace hev:((Internal.glb[i]?).bind fun y=>k y σ.ρ)=some z:=hev
 cases e:Internal.glb[i]? with
 |none=>rw [e] at hev;cases hev
 |some y=>
  rw [e] at hev
  refine aG (eT hg) fun h3 h4=>?_
  refine aD (K.cx.glob i x y hx e) fun pv h5 h6=>?_
  exact eM K.cx B.ok (B.glb _ h3) (B.nsg S) h5 (hp _ _ y (.here S _) (h6.mono fun _ _ e=>S.base e) hev) h4
end
theorem hG {β:Type}(i:Int)(k:Int→β):pG i k=k i:=by cases i with|ofNat n=>cases n<;>rfl|negSucc n=>cases n<;>rfl
theorem wQ {b:Bool}{q p:Prop}[Decidable p](e:(b=true)=q)(h:q↔p):b=decide p:=Bool.eq_iff_iff.mpr ((iff_of_eq e).trans (h.trans decide_eq_true_iff.symm))
theorem hH (i j:Int):mI i j=decide (i=j):=by
 cases i with
 |ofNat m=>cases j with
  |ofNat n=>exact wQ Nat.beq_eq ⟨congrArg Int.ofNat,Int.ofNat.inj⟩
  |negSucc n=>exact (decide_eq_false fun e=>Int.noConfusion e).symm
 |negSucc m=>cases j with
  |ofNat n=>exact (decide_eq_false fun e=>Int.noConfusion e).symm
  |negSucc n=>exact wQ Nat.beq_eq ⟨congrArg Int.negSucc,Int.negSucc.inj⟩
theorem kN (i j:Int):pF i j=decide (i<j):=by
 cases i with
 |ofNat m=>cases j with
  |ofNat n=>exact wQ Nat.blt_eq Int.ofNat_lt.symm
  |negSucc n=>exact (decide_eq_false (Int.not_lt.mpr (Int.le_trans (Int.le_of_lt (Int.negSucc_lt_zero n)) (Int.natCast_nonneg m)))).symm
 |negSucc m=>cases j with
  |ofNat n=>exact (decide_eq_true (Int.lt_of_lt_of_le (Int.negSucc_lt_zero m) (Int.natCast_nonneg n))).symm
  |negSucc n=>exact wQ Nat.blt_eq ⟨fun h=>Int.neg_lt_neg (Int.ofNat_lt.mpr (Nat.succ_lt_succ h)),fun h=>Nat.lt_of_succ_lt_succ (Int.ofNat_lt.mp (Int.lt_of_neg_lt_neg h))⟩
theorem aA {β:Type}{c:Bool}{a:Option β}{z:β}(h:cond c a none=some z):c=true∧a=some z:=by cases c with|true=>exact ⟨rfl,h⟩|false=>cases h
theorem lA {β:Type}{c:Bool}{a:Option β}{z:β}(h:cond c none a=some z):c=false∧a=some z:=by cases c with|false=>exact ⟨rfl,h⟩|true=>cases h
theorem aQ {α β:Type}{o:Option α}{f:α→Option β}{y:β}(h:o.bind f=some y):∃a,o=some a∧f a=some y:=by cases o with|some a=>exact ⟨a,rfl,h⟩|none=>cases h
section
variable {β:Type}{k:V→Option β}{z:β}{x y:V}
theorem no {P:Prop}{β:Type}{z:β}(h:none=some z):P:=nomatch h
theorem frc {β:Type}{i:Int}{k:V→Option β}{z:Option β}(h:pG i (fun z=>k (.int z))=z):k (.int i)=z:=by rw [←hG (k:=fun z=>k (.int z))];exact h
variable {M:V→V→Prop}
theorem uX (h:KD x y k=some z)(h1:∀i j,k (.int (i+j))=some z→M (.int i) (.int j))(h2:∀l m,Nat.ble (l.length+m.length) mH=true→k (.lst (l++m))=some z→M (.lst l) (.lst m))
  (h3:∀l m,Nat.ble (l.length+m.length) mH=true→k (.tup (l++m))=some z→M (.tup l) (.tup m)):M x y:=by
 cases x with
 |int i=>cases y with
  |int j=>exact h1 i j (frc h)
  |_=>exact no h
 |lst l=>cases y with
  |lst m=>exact h2 l m (aA h).1 (aA h).2
  |_=>exact no h
 |tup l=>cases y with
  |tup m=>exact h3 l m (aA h).1 (aA h).2
  |_=>exact no h
 |_=>exact no h
theorem uY (h:KE x y k=some z)(h1:∀i j,k (.int (i - j))=some z→M (.int i) (.int j))(h2:∀i j,k (.int (b2i i - b2i j))=some z→M (.bool i) (.bool j)):M x y:=by
 cases x with
 |int i=>cases y with
  |int j=>exact h1 i j (frc h)
  |_=>exact no h
 |bool i=>cases y with
  |bool j=>exact h2 i j (by cases i<;>cases j<;>exact h)
  |_=>exact no h
 |_=>exact no h
theorem uZ (h:KF x y k=some z)(h1:∀i j,Nat.blt i.natAbs 18446744073709551616=true→k (.int (i*j))=some z→M (.int i) (.int j))(h2:∀a j,j<1000→ -1000<j→k (.lst (List.replicate j.toNat a))=some z→M (.lst [a]) (.int j)):M x y:=by
 cases x with
 |int i=>cases y with
  |int j=>exact h1 i j (aA h).1 (frc (aA h).2)
  |_=>exact no h
 |lst l=>cases y with
  |int j=>cases l with
   |nil=>exact no h
   |cons a r=>cases r with
    |nil=>exact h2 a j (of_decide_eq_true ((kN _ _).symm.trans (aA h).1)) (of_decide_eq_true ((kN _ _).symm.trans (aA (aA h).2).1)) (aA (aA h).2).2
    |cons _ _=>exact no h
  |_=>exact no h
 |_=>exact no h
theorem rU {f:Int→Int→Option β}(h:(match (generalizing:=false) x with|.int i=>(match (generalizing:=false) y with|.int j=>f i j|_=>none)|_=>none)=some z)(h1:∀i j,f i j=some z→M (.int i) (.int j)):M x y:=by
 cases x with
 |int i=>cases y with
  |int j=>exact h1 i j h
  |_=>exact no h
 |_=>exact no h
theorem sW (h:EK x y k=some z)(h1:∀i j,j≠0→Nat.blt j.natAbs 18446744073709551616=true→k (.int (i.fdiv j))=some z→M (.int i) (.int j)):M x y:=
 rU h fun i j h=>h1 i j (of_decide_eq_false ((hH _ _).symm.trans (lA h).1)) (aA (lA h).2).1 (frc (aA (lA h).2).2)
theorem vA (h:ZQ x y k=some z)(h1:∀i j,j≠0→k (.int (i.fmod j))=some z→M (.int i) (.int j)):M x y:=
 rU h fun i j h=>h1 i j (of_decide_eq_false ((hH _ _).symm.trans (lA h).1)) (frc (lA h).2)
theorem vC (h:ad6 x y k=some z)(h1:∀i n,n≤1000000→i.natAbs<2^64→k (.int (i^n))=some z→M (.int i) (.int (.ofNat n))):M x y:=
 rU h fun i j h=>by
  cases j with
  |ofNat n=>exact h1 i n (Nat.le_of_ble_eq_true (aA h).1) (Nat.blt_eq.mp (aA (aA h).2).1) (frc (aA (aA h).2).2)
  |negSucc _=>exact no h
theorem eR {k:Bool→Option β}(h:uU x y k=some z)(h1:∀i j,k (decide (i<j))=some z→M (.int i) (.int j)):M x y:=
 rU h fun i j h=>h1 i j (kN i j▸h)
theorem gU {k:Bool→Option β}{M:V→Prop}(h:fD x k=some z)(h1:∀t,k t=some z→M (.bool t)):M x:=by
 cases x with
 |bool t=>exact h1 t h
 |_=>exact no h
end
theorem SW {f:V→V→Option Bool}{l:List V}(hf:∀x∈l,∀y t,f x y=some t→(t=true↔x=y)):∀m t,SP f l m=some t→(t=true↔l=m):=by
 induction l with
 |nil=>
  intro m t h
  cases m with
  |nil=>cases h;exact ⟨fun _=>rfl,fun _=>rfl⟩
  |cons _ _=>cases h;exact ⟨fun e=>(nomatch e),fun e=>(nomatch e)⟩
 |cons x l ih=>
  intro m t h
  cases m with
  |nil=>cases h;exact ⟨fun e=>(nomatch e),fun e=>(nomatch e)⟩
  |cons y m=>
   refine aD (aQ h) fun u h1 h2=>?_
   have q:=hf x (.head _) y u h1
   cases u with
   |true=>rw [ih (fun x hx=>hf x (.tail _ hx)) m t h2,List.cons.injEq,and_iff_right (q.mp rfl)]
   |false=>cases h2;rw [List.cons.injEq];exact ⟨fun e=>(nomatch e),fun e=>q.mpr e.1⟩
theorem ff {P:Prop}(h:¬P){t:Bool}(e:some false=some t):t=true↔P:=by cases e;exact ⟨fun e=>(nomatch e),fun e=>(h e).elim⟩
theorem EP:∀n x y t,lK n x y=some t→(t=true↔x=y):=by
 have ii:∀{i j:Int} {t},some (mI i j)=some t→(t=true↔V.int i=.int j):=fun {i j t} h=>by cases h;rw [hH,decide_eq_true_iff,V.int.injEq]
 have ss:∀{i j:Nat} {t},some (Nat.beq i j)=some t→(t=true↔V.str i=.str j):=fun {i j t} h=>by cases h;rw [Nat.beq_eq,V.str.injEq]
 intro n
 induction n with
 |zero=>
  intro x y t h
  cases x with
  |int i=>cases y with
   |int j=>exact ii h
   |str _=>exact ff nofun h
   |tup _=>exact ff nofun h
   |_=>exact no h
  |str i=>cases y with
   |str j=>exact ss h
   |int _=>exact ff nofun h
   |tup _=>exact ff nofun h
   |_=>exact no h
  |_=>exact no h
 |succ n ih=>
  intro x y t h
  cases x with
  |int i=>cases y with
   |int j=>exact ii h
   |str _=>exact ff nofun h
   |tup _=>exact ff nofun h
   |_=>exact no h
  |str i=>cases y with
   |str j=>exact ss h
   |int _=>exact ff nofun h
   |tup _=>exact ff nofun h
   |_=>exact no h
  |tup l=>cases y with
   |tup m=>rw [V.tup.injEq];exact SW (fun x _=>ih x) m t h
   |int _=>exact ff nofun h
   |str _=>exact ff nofun h
   |_=>exact no h
  |_=>exact no h
theorem wR {n m:Nat}(h:Nat.blt m 27=true):jV n (.str m)=true:=by cases n<;>exact h
theorem sX {n:Nat}{i:Int}:jV n (.int i)=true:=by cases n<;>rfl
theorem pI {β:Type}{k:Bool→Option β}{z:β}{x y:V}{M:V→V→Prop}(h:uH x y k=some z)(h1:∀i j,k (i==j)=some z→M (.bool i) (.bool j))(h2:∀x y t,jV 20 x=true→jV 20 y=true→(t=true↔x=y)→k t=some z→M x y):M x y:=by
 have ne:∀{x y:V},(x=y→False)→(false=true↔x=y):=fun h=>⟨fun e=>(nomatch e),fun e=>(h e).elim⟩
 cases x with
 |str m=>
  cases y with
  |str n=>exact h2 _ _ _ (wR (aA h).1) (wR (aA (aA h).2).1) (by rw [Nat.beq_eq,V.str.injEq]) (aA (aA h).2).2
  |int n=>
   have h:cond (Nat.blt m 27) (k false) none=some z:=h
   exact h2 _ _ false (wR (aA h).1) sX (ne nofun) (aA h).2
  |tup l=>
   have h:cond (jV 20 (.tup l)) (cond (Nat.blt m 27) (k false) none) none=some z:=h
   exact h2 _ _ false (wR (aA (aA h).2).1) (aA h).1 (ne nofun) (aA (aA h).2).2
  |_=>exact no h
 |int i=>
  cases y with
  |int j=>exact h2 _ _ _ sX sX (by rw [hH,decide_eq_true_iff,V.int.injEq]) h
  |str n=>
   have h:cond (jV 20 (.str n)) (k false) none=some z:=h
   exact h2 _ _ false sX (aA h).1 (ne nofun) (aA h).2
  |tup l=>
   have h:cond (jV 20 (.tup l)) (k false) none=some z:=h
   exact h2 _ _ false sX (aA h).1 (ne nofun) (aA h).2
  |_=>exact no h
 |bool i=>
  cases y with
  |bool j=>exact h1 i j h
  |_=>exact no h
 |tup l=>
  have h:cond (jV 20 (.tup l)) (cond (jV 20 y) ((lK 20 (.tup l) y).bind k) none) none=some z:=h
  refine aD (aQ (aA (aA h).2).2) fun t h3 h4=>?_
  exact h2 _ _ t (aA h).1 (aA (aA h).2).1 (EP _ _ _ _ h3) h4
 |_=>exact no h
theorem iP {n:Nat}(h:Nat.ble n mH=true):n≤sizeLine:=Nat.le_trans (Nat.le_of_ble_eq_true h) (by decide+kernel)
noncomputable def ZT:BO→Operator
 |.add=>.Add|.sub=>.Sub|.mul=>.Mult|.fdiv=>.FloorDiv|.mod=>.Mod|.pow=>.Pow
noncomputable def uK:CO→CmpOp
 |.eq=>.Eq|.ne=>.NotEq|.lt=>.Lt|.le=>.LtE|.gt=>.Gt|.ge=>.GtE
section
variable {prog:Program}{w:World}{A:Around}{E:Value→Shared→Prop}{s:Shared}{g:Gh}{Q:Value→Shared→Prop}{x y:V}{u v:Value}{β:Type}{k:V→Option β}{z:β}
theorem wT {a b:Int}(h:b.natAbs<2^64):Builtin.divisionGoesByPylong a b=false:=by
 refine PyProof.noPylong_of_log2 ?_
 by_cases h0:b.natAbs=0
 ·refine (Eq.symm h0)▸?_;decide+kernel
 ·have:=(Nat.log2_lt h0).mpr h
  lia
theorem eS {a:Addr}{vs:List Value}{n:Nat}(h:s.heap.get? a=some (cH vs n)):s.heap.IsList a vs.toArray:=⟨_,h,rfl,n,rfl⟩
theorem SX {l b:Addr}{vs ws:List Value}{n m:Nat}(hl:s.heap.get? l=some (cH vs n))(hb:s.heap.get? b=some (cH ws m))(hz:vs.length+ws.length≤sizeLine)
  (h:Q (.ref s.heap.objs.size) {s with heap:=s.heap.push (cH (vs++ws) 0)}):wpAny (model prog w) A (binaryOp .Add (.ref l) (.ref b)) Q E s:=by
 refine concat_meets ⟨_,hl,rfl⟩ ⟨_,hb,rfl⟩ noFill_list_add seq_list_add PySem.F.slot_list_add PySem.F.entry_list_add (PySem.F.args_list_add_2 _ _) (list_addW l b vs.toArray ws.toArray n m none none #[] #[] (by simpa using hz)) ⟨hl,hb,?_⟩
 refine (Eq.symm (show vs.toArray++ws.toArray=(vs++ws).toArray by simp))▸?_
 exact h
theorem SY {t b:Addr}{vs ws:List Value}(ht:s.heap.get? t=some {cls:=.type "tuple",data:=.seq vs.toArray}) (hb:s.heap.get? b=some {cls:=.type "tuple",data:=.seq ws.toArray}) (hz:vs.length+ws.length≤sizeLine)
  (h0:vs=[]→Q (.ref b) s) (h1:ws=[]→Q (.ref t) s)
  (h2:Q (.ref s.heap.objs.size) {s with heap:=s.heap.push {cls:=.type "tuple",data:=.seq (vs++ws).toArray}}):wpAny (model prog w) A (binaryOp .Add (.ref t) (.ref b)) Q E s:=by
 by_cases hv:vs=[]
 ·exact concat_meets ⟨_,ht,rfl⟩ ⟨_,hb,rfl⟩ noFill_tuple_add seq_tuple_add PySem.F.slot_tuple_add PySem.F.entry_tuple_add (PySem.F.args_tuple_add_2 _ _)
   (tuple_addW0 t b vs.toArray ws.toArray 0 0 none none #[] #[] (by simp [hv])) ⟨ht,hb,h0 hv⟩
 ·by_cases hw:ws=[]
  ·exact concat_meets ⟨_,ht,rfl⟩ ⟨_,hb,rfl⟩ noFill_tuple_add seq_tuple_add PySem.F.slot_tuple_add PySem.F.entry_tuple_add (PySem.F.args_tuple_add_2 _ _)
    (tuple_addW1 t b vs.toArray ws.toArray 0 0 none none #[] #[] (by simpa using hv) (by simp [hw])) ⟨ht,hb,h1 hw⟩
  ·refine concat_meets ⟨_,ht,rfl⟩ ⟨_,hb,rfl⟩ noFill_tuple_add seq_tuple_add PySem.F.slot_tuple_add PySem.F.entry_tuple_add (PySem.F.args_tuple_add_2 _ _)
    (tuple_addW2 t b vs.toArray ws.toArray 0 0 none none #[] #[] (by simpa using hv) (by simpa using hw) (by simpa using hz)) ⟨ht,hb,?_⟩
   refine (Eq.symm (show vs.toArray++ws.toArray=(vs++ws).toArray by simp))▸?_
   exact h2
theorem vD (a:Value):∀(n:Nat) (acc:Array Value),List.foldl (fun x1 x2=>x1++x2) acc (List.replicate n #[a])=(acc.toList++List.replicate n a).toArray
 |0,acc=>by simp
 |n+1,acc=>by
  rw [List.replicate_succ,List.foldl_cons,vD a n,List.replicate_succ]
  simp
theorem SZ {l:Addr}{a:Value}{k:Nat}{x:Int}{t:Tok}(hl:s.heap.get? l=some (cH [a] k))(hx:x≤1000)(hlo: -1000≤x)
  (h:Q (.ref s.heap.objs.size) {s with heap:=s.heap.push (cH (List.replicate x.toNat a) 0)}):wpAny (model prog w) A (binaryOp .Mult (.ref l) (.int x t)) Q E s:=by
 have h1:(#[a]:Array Value).size=1:=rfl
 have h2:x.toNat≤1000:=Int.toNat_le.mpr hx
 have e:List.foldl (fun x1 x2=>x1++x2) #[] (List.replicate (if ([a].toArray).isEmpty=true then 0 else x.toNat) [a].toArray)=(List.replicate x.toNat a).toArray:=by
  rw [if_neg (by simp)]
  simpa using vD a x.toNat #[]
 refine wpAny_binaryOp_repeat_ref (T:="list") (U:="int") (by decide) ⟨_,hl,rfl⟩ (fun s'=>typeIs_int s' x t) noFill_list_mul F.fills_int_mul F.slot_int_rmul repeat_list F.slot_int_index.lookup
  (call_meets F.slot_int_rmul (typeIs_int s x t) F.entry_int_rmul (F.args_int_rmul_2 _ _) (int___rmul___int_list x t l #[a] k)
   ⟨hl,rfl,⟨_,hl,rfl⟩,call_meets F.slot_list_mul ⟨_,hl,rfl⟩ F.entry_list_mul (F.args_list_mul_2 _ _)
    (AutoListH.list___mul___list_int_3 l #[a] k x t (by simp [Builtin.List.listFitsIndex];lia) (by refine (Eq.symm h1)▸?_;lia) (by refine (Eq.symm h1)▸?_;simp [Builtin.List.listTooLong,sizeLine];lia))
    ⟨hl,by refine (Eq.symm e)▸?_;exact h⟩⟩)
theorem ZU {o:BO}(hg:pH g s)(hx:Rp w.params g u x)(hy:Rp w.params g v y)(hz:dQ o x y k=some z)(h:uE w.params g s k z Q):wpAny (model prog w) A (binaryOp (ZT o) u v) Q E s:=by
 revert hx hy
 cases o with
 |add=>
  refine uX (M:=fun x y=>Rp w.params g u x→Rp w.params g v y→_) hz (fun i j q=>?_) (fun l m hb q=>?_) fun l m hb q=>?_
  ·rintro ⟨_,rfl⟩ ⟨_,rfl⟩;exact add_int (h.at q ⟨_,rfl⟩)
  ·rintro ⟨a,vs,n,rfl,g1,r1⟩ ⟨b,ws,n',rfl,g2,r2⟩
   exact SX (hg _ _ g1) (hg _ _ g2) (by refine (Eq.symm (bP.length r1))▸?_;refine (Eq.symm (bP.length r2))▸?_;exact iP hb) (h _ _ _ _ bF q (jU _ _ _ ⟨rfl,.inr ⟨Heap.get?_push_size _ rfl,aY⟩,bP.mono (bP.append r2 r1) rM⟩))
  ·rintro ⟨a,vs,rfl,g1,r1⟩ ⟨b,ws,rfl,g2,r2⟩
   refine SY (hg _ _ g1) (hg _ _ g2) (by refine (Eq.symm (bP.length r1))▸?_;refine (Eq.symm (bP.length r2))▸?_;exact iP hb) (fun e=>?_) (fun e=>?_) (h _ _ _ _ bF q (bW _ _ ⟨rfl,.inr ⟨Heap.get?_push_size _ rfl,aY⟩,bP.mono (bP.append r2 r1) rM⟩))
   ·subst e
    rw [List.eq_nil_of_length_eq_zero (bP.length r1).symm] at q
    exact h.at0 q (bW _ _ ⟨rfl,g2,r2⟩)
   ·subst e
    rw [List.eq_nil_of_length_eq_zero (bP.length r2).symm,List.append_nil] at q
    exact h.at0 q (bW _ _ ⟨rfl,g1,r1⟩)
 |sub=>
  refine uY (M:=fun x y=>Rp w.params g u x→Rp w.params g v y→_) hz (fun i j q=>?_) fun i j q=>?_
  ·rintro ⟨_,rfl⟩ ⟨_,rfl⟩;exact sub_int (h.at q ⟨_,rfl⟩)
  ·rintro rfl rfl;exact sub_bool (h.at q ⟨_,rfl⟩)
 |mul=>
  refine uZ (M:=fun x y=>Rp w.params g u x→Rp w.params g v y→_) hz (fun i j hb q=>?_) fun a j h1 h2 q=>?_
  ·rintro ⟨_,rfl⟩ ⟨_,rfl⟩
   have:=Nat.blt_eq.mp hb
   exact mul_int (h.at q ⟨_,rfl⟩) (.of_left (intBits_le_64 (Int.lt_of_neg_lt_neg (Int.lt_of_le_of_lt (Int.le_trans Int.le_natAbs (Int.le_of_eq (congrArg _ (Int.natAbs_neg i)))) (Int.ofNat_lt.mpr this))) (Int.lt_of_le_of_lt Int.le_natAbs (Int.ofNat_lt.mpr this))))
  ·rintro ⟨b,vs,n,rfl,g1,v,t,rfl,r1,rfl⟩ ⟨_,rfl⟩
   exact SZ (hg _ _ g1) (Int.le_of_lt h1) (Int.le_of_lt h2) (h _ _ _ _ bF q (jU _ _ _ ⟨rfl,.inr ⟨Heap.get?_push_size _ rfl,aY⟩,bP.mono (bP.replicate r1 _) rM⟩))
 |fdiv=>
  refine sW (M:=fun x y=>Rp w.params g u x→Rp w.params g v y→_) hz fun i j h1 h2 q=>?_
  rintro ⟨_,rfl⟩ ⟨_,rfl⟩
  exact floordiv_int h1 (h.at q ⟨_,rfl⟩) (.inl (wT (Nat.blt_eq.mp h2)))
 |mod=>
  refine vA (M:=fun x y=>Rp w.params g u x→Rp w.params g v y→_) hz fun i j h1 q=>?_
  rintro ⟨_,rfl⟩ ⟨_,rfl⟩
  exact mod_int h1 (h.at q ⟨_,rfl⟩)
 |pow=>
  refine vC (M:=fun x y=>Rp w.params g u x→Rp w.params g v y→_) hz fun i n h1 h2 q=>?_
  rintro ⟨_,rfl⟩ ⟨_,rfl⟩
  exact pow_int_small (Int.natCast_nonneg n) (Int.ofNat_le.mpr h1) h2 (h.at q ⟨_,rfl⟩)
theorem wU {b:Bool}{Q:Bool→Shared→Prop}(hx:Rp w.params g u (.bool b))(h:Q b s):wpAny (model prog w) A (truthy u) Q E s:=by cases hx;exact wpAny_truthy_bool h
theorem pJ (hg:pH g s){x:V}{v:Value}(h:jV 20 x=true)(r:Rp w.params g v x):∃as,Reads s.heap v x.py as:=sN 20 x h v (r.mono hg)
theorem KL {o:CO}(hg:pH g s)(hu:A.units+64<cLine)(hx:Rp w.params g u x)(hy:Rp w.params g v y)(hz:bQ o x y k=some z)(h:uE w.params g s k z Q):wpAny (model prog w) A (compareOp (uK o) u v) Q E s:=by
 have eqv:∀{x y t},jV 20 x=true→jV 20 y=true→(t=true↔x=y)→PyData.eqv x.py y.py=t:=fun h1 h2 ht=>Bool.eq_iff_iff.mpr ((KC 20 _ h1 20 _ h2).trans ht.symm)
 have nl:∀{i j:Int},(!decide (i<j))=decide (j≤i):=fun {i j}=>by rw [←decide_not];exact decide_eq_decide.mpr Int.not_lt
 revert hx hy
 cases o with
 |eq=>
  refine pI (M:=fun x y=>Rp w.params g u x→Rp w.params g v y→_) (show (uH x y fun t=>k (.bool t))=some z from hz) (fun i j q=>?_) fun x y t h1 h2 ht q hx hy=>?_
  ·rintro rfl rfl;exact eq_bool (h.at0 q rfl)
  ·exact eq_dataH (pJ hg h1 hx).choose_spec (pJ hg h2 hy).choose_spec (jE (by decide) h1) (jE (by decide) h2) hu (by refine (Eq.symm (eqv h1 h2 ht))▸?_;exact h.at0 q rfl)
 |ne=>
  refine pI (M:=fun x y=>Rp w.params g u x→Rp w.params g v y→_) (show (uH x y fun t=>k (.bool (not t)))=some z from hz) (fun i j q=>?_) fun x y t h1 h2 ht q hx hy=>?_
  ·rintro rfl rfl;exact ne_bool (h.at0 q rfl)
  ·exact ne_dataH (pJ hg h1 hx).choose_spec (pJ hg h2 hy).choose_spec (jE (by decide) h1) (jE (by decide) h2) hu (by refine (Eq.symm (eqv h1 h2 ht))▸?_;exact h.at0 q rfl)
 |lt=>exact eR (M:=fun x y=>Rp w.params g u x→Rp w.params g v y→_) (show (uU x y fun t=>k (.bool t))=some z from hz) fun i j q=>by rintro ⟨_,rfl⟩ ⟨_,rfl⟩;exact lt_int (h.at0 q rfl)
 |gt=>exact fun hx hy=>eR (M:=fun y x=>Rp w.params g u x→Rp w.params g v y→_) (show (uU y x fun t=>k (.bool t))=some z from hz) (fun i j q=>by rintro ⟨_,rfl⟩ ⟨_,rfl⟩;exact gt_int (h.at0 q rfl)) hx hy
 |le=>exact fun hx hy=>eR (M:=fun y x=>Rp w.params g u x→Rp w.params g v y→_) (show (uU y x fun t=>k (.bool (not t)))=some z from hz) (fun i j q=>by rintro ⟨_,rfl⟩ ⟨_,rfl⟩;rw [nl] at q;exact le_int (h.at0 q rfl)) hx hy
 |ge=>exact eR (M:=fun x y=>Rp w.params g u x→Rp w.params g v y→_) (show (uU x y fun t=>k (.bool (not t)))=some z from hz) fun i j q=>by rintro ⟨_,rfl⟩ ⟨_,rfl⟩;rw [nl] at q;exact ge_int (h.at0 q rfl)
end
structure PX (pe:Expr):Prop where
 st:∀rest env,starEach (pe::rest) env=(false,eval pe env)::starEach rest env
 sb:∀o i,subscripted pe false o i=operate [o,i] (getItem o i)
 se:∀env x,foldedSetIterable pe env x=pure x
theorem bN {pe:Expr}(h:PX pe)(rest:List Expr)(env:Env):starEach (pe::rest) env=(false,eval pe env)::starEach rest env:=h.st rest env
theorem lB {pe:Expr}(h:PX pe)(o i:Value):subscripted pe false o i=operate [o,i] (getItem o i):=h.sb o i
theorem vE {pe:Expr}(h:PX pe)(env:Env)(x:Value):foldedSetIterable pe env x=pure x:=h.se env x
theorem nA {f a k p}:PX (.Call f a k p):=⟨fun _ _=>rfl,fun _ _=>rfl,fun _ _=>rfl⟩
theorem mP {c k p}:PX (.Constant c k p):=⟨fun _ _=>rfl,fun _ _=>rfl,fun _ _=>rfl⟩
theorem EQ {l p}:PX (.List l p):=⟨fun _ _=>rfl,fun _ _=>rfl,fun _ _=>rfl⟩
theorem pK:∀(l:List V) (n:Nat),HA l n=l[n]? :=fun l=>by
 induction l with
 |nil=>intro n;rfl
 |cons x l ih=>
  intro n
  cases n with
  |zero=>rfl
  |succ n=>exact ih n
section
variable {prog:Program}{w:World}{A:Around}{E:Value→Shared→Prop}{s:Shared}{g:Gh}{Q:Value→Shared→Prop}{x y:V}{u v:Value}{β:Type}{k:V→Option β}{z:β}
theorem yY {i:Int}{n:Nat}(h0:0≤i)(h1:i<n):seqIndex? i n=some i.toNat:=by
 unfold seqIndex?
 have e:¬(i<0):=Int.not_lt.mpr h0
 simp only [if_neg e]
 rw [if_pos]
 simp only [Bool.and_eq_true,decide_eq_true_eq]
 exact ⟨h0,h1⟩
theorem TA {l:List V}{a:Addr}{vs:List Value}{i:Nat}{t:Tok}{y:V}{slice value:Expr}(hsl:PX slice)(ho:s.heap.get? a=some (yV vs))(hr:bP w.params g vs l)(hi:i≤1000)(hy:l[i]? =some y)(hk:k y=some z)(h:uE w.params g s k z Q):
  wpAny (model prog w) A (subscriptTail value slice (.ref a) (.int i t)) Q E s:=by
 refine aD (bP.get hr hy) fun v hv hrv=>?_
 have hlt:i<vs.length:=(List.getElem?_eq_some_iff.mp hv).1
 exact tail_any ⟨_,ho,rfl⟩ slot_tuple_getitem.lookup (PyProof.Rows.getItem_tuple (j:=i) ⟨_,ho,rfl,_,rfl⟩ (by lia) (by lia) (yY (by lia) (by simp;lia)) (by simpa using hv) (h.at0 hk hrv)) (lB hsl _ _)
theorem ER {l:List V}{a:Addr}{vs:List Value}{n i:Nat}{t:Tok}{y:V}{slice value:Expr}(hsl:PX slice)(ho:s.heap.get? a=some (cH vs n))(hr:bP w.params g vs l)(hi:i≤1000)(hy:l[i]? =some y)(hk:k y=some z)(h:uE w.params g s k z Q):
  wpAny (model prog w) A (subscriptTail value slice (.ref a) (.int i t)) Q E s:=by
 refine aD (bP.get hr hy) fun v hv hrv=>?_
 exact tail_any ⟨_,ho,rfl⟩ slot_list_getitem.lookup (wpAny_getItem_list ⟨_,ho,rfl,_,rfl⟩ (by lia) (by lia) (by simpa using hv) (h.at0 hk hrv)) (lB hsl _ _)
theorem TB {l:List V}{a:Addr}{vs:List Value}{n i:Nat}{t:Tok}{y:V}{slice value:Expr}(hsl:PX slice)(ho:s.heap.get? a=some (cH vs n))(hr:bP w.params g vs l)(hl:l.length≤1000)(hi:i<l.length)(hy:l[l.length - (i+1)]? =some y)(hk:k y=some z)(h:uE w.params g s k z Q):
  wpAny (model prog w) A (subscriptTail value slice (.ref a) (.int (.negSucc i) t)) Q E s:=by
 refine aD (bP.get hr hy) fun v hv hrv=>?_
 have hlen:=bP.length hr
 have e:(Int.negSucc i+(vs.toArray.size:Int)).toNat=l.length - (i+1):=by refine (Eq.symm List.size_toArray)▸?_;refine (Eq.symm hlen)▸?_;refine (Int.add_comm _ _).symm▸?_;exact Int.toNat_sub l.length (i+1)
 exact tail_any ⟨_,ho,rfl⟩ slot_list_getitem.lookup (wpAny_getItem_list_neg ⟨_,ho,rfl,_,rfl⟩ (Int.negSucc_lt_zero i) (by refine (Eq.symm List.size_toArray)▸?_;refine (Eq.symm hlen)▸?_;lia) (by lia) (by refine (Eq.symm e)▸?_;simpa using hv) (h.at0 hk hrv)) (lB hsl _ _)
theorem ET {l:List V}{a:Addr}{vs:List Value}{n:Nat}{i:Int}{t:Tok}{slice value:Expr}(hsl:PX slice)(ho:s.heap.get? a=some (cH vs n))(hr:bP w.params g vs l)(hz:SO l i k=some z)(h:uE w.params g s k z Q):
  wpAny (model prog w) A (subscriptTail value slice (.ref a) (.int i t)) Q E s:=by
 cases i with
 |ofNat n=>
  refine aG (aA hz) fun h1 h2=>?_
  refine aD (aQ h2) fun y h3 h4=>?_
  exact ER hsl ho hr (Nat.le_of_ble_eq_true h1) ((pK _ _).symm.trans h3) h4 h
 |negSucc n=>
  refine aG (aA hz) fun h1 h2=>?_
  refine aG (aA h2) fun h3 h4=>?_
  refine aD (aQ h4) fun y h5 h6=>?_
  exact TB hsl ho hr (Nat.le_of_ble_eq_true h1) (Nat.blt_eq.mp h3) ((pK _ _).symm.trans h5) h6 h
theorem KM {n:Nat}{t:Tok}{slice value:Expr}(hsl:PX slice)(hg:pH g s)(hx:Rp w.params g u x)(hz:yX x n k=some z)(h:uE w.params g s k z Q):wpAny (model prog w) A (subscriptTail value slice u (.int n t)) Q E s:=by
 cases x with
 |tup l=>
  refine aG (aA hz) fun h1 h2=>?_
  refine aD (aQ h2) fun y h3 h4=>?_
  refine bY hx fun a vs atE g1 r1=>?_;subst atE
  exact TA hsl (hg _ _ g1) r1 (Nat.le_of_ble_eq_true h1) ((pK _ _).symm.trans h3) h4 h
 |lst l=>
  refine aG (aA hz) fun h1 h2=>?_
  refine aD (aQ h2) fun y h3 h4=>?_
  refine eP hx fun a vs m atF g1 r1=>?_;subst atF
  exact ER hsl (hg _ _ g1) r1 (Nat.le_of_ble_eq_true h1) ((pK _ _).symm.trans h3) h4 h
 |_=>exact no hz
theorem ad7 (hz:k (.bool (match x with|.none=>true|_=>false))=some z)(hx:Rp w.params g u x)(h:uE w.params g s k z Q):wpAny (model prog w) A (compareOp .Is u .none) Q E s:=by
 refine is_none_gen ?_
 cases x with
 |none=>cases hx;exact h.at0 hz rfl
 |bool _=>cases hx;exact h.at0 hz rfl
 |int _=>refine aT hx fun _ atG=>?_;subst atG;exact h.at0 hz rfl
 |str _=>refine aG hx fun _ atH=>?_;obtain ⟨_,rfl⟩:=atH;exact h.at0 hz rfl
 |tup _=>refine dI hx fun _ _ atI _=>?_;subst atI;exact h.at0 hz rfl
 |lst _=>refine mG hx fun _ _ _ atJ _=>?_;subst atJ;exact h.at0 hz rfl
 |dct _=>refine mG hx fun _ _ _ atK _=>?_;subst atK;exact h.at0 hz rfl
theorem oO:∀(l:List Nat) {vs:List Value} (_:bP w.params g vs (l.map .str)),StrsAre vs (l.map nm)
 |[]=>fun h=>by cases h;exact .nil
 |n::l=>fun h=>bY h fun _ _ e f b=>f.2.elim fun _ f=>by subst e f;exact .cons _ _ (oO l b)
theorem KN (l:List Nat)(n:Nat)(hn:n<27)(hl:∀m∈l,m<27):(l.map nm).any (· ==nm n)=l.contains n:=by
 rw [Bool.eq_iff_iff,List.any_eq_true,List.contains_iff_mem]
 constructor
 ·rintro ⟨x,hx,e⟩
  refine aD (List.mem_map.mp hx) fun m hm atL=>?_;subst atL
  exact BE (hl m hm) hn (eq_of_beq e)▸hm
 ·intro h
  exact ⟨nm n,List.mem_map_of_mem h,beq_self_eq_true _⟩
noncomputable def KO (p:Bool):CmpOp:=cond p .In .NotIn
theorem ad8 {p:Bool}{l:List Nat}{n:Nat}{a:Addr}{vs:List Value}(hl:∀m∈l,m<27)(hx:Rp w.params g u (.str n))(ha:s.heap.get? a=some (yV vs))(r1:bP w.params g vs (l.map .str))(hz:k (.bool (cond (l.contains n) p (not p)))=some z)(h:uE w.params g s k z Q):
  wpAny (model prog w) A (compareOp (KO p) u (.ref a)) Q E s:=by
 obtain ⟨hn,t,rfl⟩:=hx
 have ht:IsTup s.heap a vs.toArray:=⟨_,ha,rfl,0,rfl⟩
 cases p
 ·refine notin_tuple_strs ht (oO l r1) ?_
  refine (Eq.symm (KN l n hn hl))▸?_
  cases hc:l.contains n<;>rw [hc] at hz<;>exact h.at0 hz rfl
 ·refine in_tuple_strs ht (oO l r1) ?_
  refine (Eq.symm (KN l n hn hl))▸?_
  cases hc:l.contains n<;>rw [hc] at hz<;>exact h.at0 hz rfl
theorem KP (l u st:Option Expr)(p:Pos)(o i:Value)(h:st=none):subscripted (.Slice l u st p) false o i=operate [i,o] (getItem o i):=by subst h;rfl
theorem yZ {f:List V→Nat→List V}{M:V→V→Prop}(h:((match (generalizing:=false) x with|.lst l=>(match (generalizing:=false) y with|.int i=>if 0≤i∧l.length≤mH then some (V.lst (f l i.toNat)) else none|_=>none)|_=>none:Option V).bind k)=some z)(h1:∀(l:List V) (i:Nat),l.length≤mH→k (.lst (f l i))=some z→M (.lst l) (.int i)):M x y:=by
 cases x with
 |lst l=>cases y with
  |int i=>
   replace h:(if 0≤i∧l.length≤mH then some (V.lst (f l i.toNat)) else none).bind k=some z:=h
   split at h
   ·rename_i hb
    refine aT (Int.eq_ofNat_of_zero_le hb.1) fun n atM=>?_;subst atM
    exact h1 l n hb.2 h
   ·cases h
  |_=>exact no h
 |_=>exact no h
theorem ZV {sl a:Addr}{t:Tok}{j:Nat}{l:List V}{vs:List Value}{m:Nat}(hs:s.heap.IsSliceOf sl (.int j t) .none .none)(ha:s.heap.get? a=some (cH vs m))(r1:bP w.params g vs l)(hl:l.length≤mH)(hz:k (.lst (l.drop j))=some z)(h:uE w.params g s k z Q):
  wpAny (model prog w) A (getItem (.ref a) (.ref sl)) Q E s:=by
 refine wpAny_getItem_list_slice (eS ha) hs (.int j t) .none .none (by simp) ?_ (by rw [List.size_toArray,bP.length r1];exact iP (Nat.ble_eq.mpr hl))
 rw [slicePick_from']
 exact h _ _ _ _ bF hz (jU _ (vs.drop j) _ ⟨rfl,.inr ⟨by simpa using Heap.get?_push_size _ rfl,aY⟩,bP.mono (bP.drop r1 j) rM⟩)
theorem ZW {sl a:Addr}{t:Tok}{j:Nat}{l:List V}{vs:List Value}{m:Nat}(hs:s.heap.IsSliceOf sl .none (.int j t) .none)(ha:s.heap.get? a=some (cH vs m))(r1:bP w.params g vs l)(hl:l.length≤mH)(hz:k (.lst (l.take j))=some z)(h:uE w.params g s k z Q):
  wpAny (model prog w) A (getItem (.ref a) (.ref sl)) Q E s:=by
 refine wpAny_getItem_list_slice (eS ha) hs .none (.int j t) .none (by simp) ?_ (by rw [List.size_toArray,bP.length r1];exact iP (Nat.ble_eq.mpr hl))
 rw [slicePick_upto']
 exact h _ _ _ _ bF hz (jU _ (vs.take j) _ ⟨rfl,.inr ⟨by simpa using Heap.get?_push_size _ rfl,aY⟩,bP.mono (bP.take r1 j) rM⟩)
theorem KQ:∀{l:List V} {vs:List Value} {i:Int},bP w.params g vs l→wK l=some i→∃ns,IntsAre vs ns∧ns.sum=i:=fun {l}=>by
 induction l with
 |nil=>rintro vs i rfl hs;cases hs;exact ⟨[],.nil,rfl⟩
 |cons y l ih=>
  rintro vs i ⟨v,t,rfl,r1,r2⟩ hs
  cases y with
  |int a=>
   refine aT r1 fun tk atN=>?_;subst atN
   replace hs:(wK l).map (a+ ·)=some i:=hs
   cases e:wK l with
   |none=>rw [e] at hs;exact no hs
   |some j=>
    rw [e] at hs
    refine aD (ih r2 e) fun ns h1 h2=>?_
    exact ⟨a::ns,.cons a tk h1,by rw [List.sum_cons,h2];exact Option.some.inj hs⟩
  |_=>exact no hs
theorem HB {vs:List Value}{l:List V}{i:Int}(hr:bP w.params g vs l)(hs:wK l=some i):∃xs:Array (Int×Tok),vs.toArray=intItems xs∧preSum (numAt xs) xs.size=i:=by
 refine aD (KQ hr hs) fun ns h1 h2=>?_
 refine aT h1.allInts.items fun xs e=>?_
 refine ⟨xs,e,?_⟩
 have hns:ns=xs.toList.map (·.1):=by rw [←h1.numsOf, ←nums_intItems, ←e]
 rw [preSum_eq,List.take_of_length_le (by simp), ←h2,hns]
noncomputable def b1N:B1→Str
 |.len=>"len"|.abs=>"abs"|.tuple=>"tuple"|.list=>"list"|.sum=>"sum"
noncomputable def b2N:B2→Str
 |.min=>"min"|.max=>"max"
noncomputable def b1T:B1→Value
 |.len=>.builtin "len"|.abs=>.builtin "abs"|.tuple=>.type "tuple"|.list=>.type "list"|.sum=>.builtin "sum"
noncomputable def b2T:B2→Value
 |.min=>.builtin "min"|.max=>.builtin "max"
theorem KR {n:Nat}(h:Nat.ble n 1000=true):(n:Int)<2^63:=by have:=Nat.le_of_ble_eq_true h;lia
theorem oP {n:Nat}(h:Nat.ble n 1000=true):n≤sizeLine:=iP (Nat.ble_eq.mpr (Nat.le_trans (Nat.le_of_ble_eq_true h) (by decide)))
theorem YA {b:B1}(hg:pH g s)(hh:A.handled=none)(hx:Rp w.params g u x)(hz:kU b x k=some z)(h:uE w.params g s k z Q):wpAny (model prog w) A (call (b1T b) [u]) Q E s:=by
 cases b with
 |len=>
  cases x with
  |lst l=>
   refine eP hx fun a vs n ai0 g1 r1=>?_;subst ai0
   refine aG (aA hz) fun h1 h2=>?_
   rw [←bP.length r1] at h1 h2
   exact Calls.call_len_list (eS (hg _ _ g1)) (KR h1) (h.at h2 ⟨_,rfl⟩)
  |tup l=>
   refine bY hx fun a vs ai1 g1 r1=>?_;subst ai1
   refine aG (aA hz) fun h1 h2=>?_
   rw [←bP.length r1] at h1 h2
   exact PyProof.Rows.len_tuple ⟨_,hg _ _ g1,rfl,0,rfl⟩ (KR h1) (h.at h2 ⟨_,rfl⟩)
  |_=>exact no hz
 |abs=>
  cases x with
  |int i=>
   refine aT hx fun _ ai2=>?_;subst ai2
   refine call_abs_int fun u tk=>?_
   have e:(if i<0 then -i else i)=Int.ofNat i.natAbs:=by cases i with|ofNat n=>exact if_neg (Int.not_lt.mpr (Int.natCast_nonneg n))|negSucc n=>exact if_pos (Int.negSucc_lt_zero n)
   first|exact h.at hz ⟨_,rfl⟩|(refine (Eq.symm e)▸?_;exact h.at hz ⟨_,rfl⟩)
  |_=>exact no hz
 |tuple=>
  cases x with
  |lst l=>
   refine eP hx fun a vs n ai3 g1 r1=>?_;subst ai3
   refine aG (aA hz) fun h1 h2=>?_
   rw [←bP.length r1] at h1
   exact call_tuple_list (eS (hg _ _ g1)) (fun h' hk=>h _ _ _ _ (fun b o e=>Heap.get?_push_of_some _ (hk b o e)) h2 (bW _ _ ⟨rfl,.inr ⟨Heap.get?_push_size _ rfl,dM.after hk aY⟩,bP.mono r1 rM⟩)) (oP h1)
  |_=>exact no hz
 |list=>
  cases x with
  |lst l=>
   refine eP hx fun a vs n ai4 g1 r1=>?_;subst ai4
   refine aG (aA hz) fun h1 h2=>?_
   rw [←bP.length r1] at h1
   exact call_list_seq a (.inl rfl) (hg _ _ g1) rfl rfl (fun h' c' hk hn=>h _ _ _ _ hk h2 (jU _ _ _ ⟨rfl,.inr ⟨hn,aY⟩,bP.mono r1 rM⟩)) (oP h1)
  |tup l=>
   refine bY hx fun a vs ai5 g1 r1=>?_;subst ai5
   refine aG (aA hz) fun h1 h2=>?_
   rw [←bP.length r1] at h1
   exact call_list_seq a (.inr rfl) (hg _ _ g1) rfl rfl (fun h' c' hk hn=>h _ _ _ _ hk h2 (jU _ _ _ ⟨rfl,.inr ⟨hn,aY⟩,bP.mono r1 rM⟩)) (oP h1)
  |_=>exact no hz
 |sum=>
  cases x with
  |lst l=>
   refine eP hx fun a vs n ai6 g1 r1=>?_;subst ai6
   refine aD (aQ (aA hz).2) fun j hj h2=>?_
   refine aD (HB r1 hj) fun xs e1 e2=>?_
   exact sum_intListG hh (e1▸eS (hg _ _ g1)) fun h' tk t' hk=>h h' tk _ _ hk h2 ⟨_,by rw [e2]⟩
  |_=>exact no hz
theorem aeB {b:B2}(hh:A.handled=none)(hx:Rp w.params g u x)(hy:Rp w.params g v y)(hz:EL b x y k=some z)(h:uE w.params g s k z Q):wpAny (model prog w) A (call (b2T b) [u,v]) Q E s:=by
 cases b with
 |min=>
  refine eR (M:=fun y' x'=>y=y'→x=x'→_) (show (uU y x fun t=>k (cond t y x))=some z from hz) (fun i j q e1 e2=>?_) rfl rfl
  subst e1 e2
  obtain ⟨_,rfl⟩:=hx;obtain ⟨_,rfl⟩:=hy
  refine min_two_ints hh fun h' tk hk=>?_
  by_cases c:i<j
  ·rw [decide_eq_true c] at q;refine (Eq.symm (if_pos c))▸?_;exact h h' tk _ _ hk q ⟨_,rfl⟩
  ·rw [decide_eq_false c] at q;refine (Eq.symm (if_neg c))▸?_;exact h h' tk _ _ hk q ⟨_,rfl⟩
 |max=>
  refine eR (M:=fun x' y'=>x=x'→y=y'→_) (show (uU x y fun t=>k (cond t y x))=some z from hz) (fun i j q e1 e2=>?_) rfl rfl
  subst e1 e2
  obtain ⟨_,rfl⟩:=hx;obtain ⟨_,rfl⟩:=hy
  refine max_two_ints hh fun h' tk hk=>?_
  by_cases c:i<j
  ·rw [decide_eq_true c] at q;refine (Eq.symm (if_pos c))▸?_;exact h h' tk _ _ hk q ⟨_,rfl⟩
  ·rw [decide_eq_false c] at q;refine (Eq.symm (if_neg c))▸?_;exact h h' tk _ _ hk q ⟨_,rfl⟩
end
section
variable {prog:Program}{w:World}{A:Around}{E:Value→Shared→Prop}{s:Shared}
theorem TC:∀k x,jV k x=true→∀(v:Value) (A:Around) (s:Shared) (Q:Int→Shared→Prop),Rp w.params (gh s.heap) v x→A.units+k<cLine→Q (uT w.params x) {s with toks:=s.toks+x.draws}→wpAny (model prog w) A (pyHash v) Q E s:=
 kL (fun _ i v A s Q r _ h=>by obtain ⟨t,rfl⟩:=r;exact wpAny_pyHash_int (by rw [←hashW_int (P:=w.params)];exact h)) (fun _ n hn v A s Q r _ h=>by obtain ⟨_,t,rfl⟩:=r;exact wpAny_pyHash_str h) fun k l ih v A s Q r hu h=>by
  obtain ⟨a,vs,rfl,hg,r⟩:=r
  refine pyHash_slot (T:="tuple") ⟨_,hg,rfl⟩ F.slot_tuple_hash F.entry_tuple_hash (F.args_tuple_hash_1 _) (beq_builtin_none _) (.inr (by lia)) ?_
  show wpAny _ _ (Builtin.Tuple.tupleItemsOf (.ref a)>>=_) _ _ s
  refine wpAny_bind (wpAny_tupleItemsOf hg rfl ?_)
  refine wpAny_bind ?_
  rw [←Array.forIn_toList]
  have loop:∀(l:List V),(∀x∈l,∀(v:Value) (A:Around) (s:Shared) (Q:Int→Shared→Prop),Rp w.params (gh s.heap) v x→A.units+k<cLine→Q (uT w.params x) {s with toks:=s.toks+x.draws}→wpAny (model prog w) A (pyHash v) Q E s)→
    ∀(vs:List Value) (A:Around) (s:Shared) (b:Array Int) (Q:Array Int→Shared→Prop),bP w.params (gh s.heap) vs l→A.units+k<cLine→(∀b',b'.toList=b.toList++nR w.params l→Q b' {s with toks:=s.toks+V.drawss l})→
    wpAny (model prog w) A (forIn vs b fun x r=>do let h←pyHash x;pure PUnit.unit;pure (ForInStep.yield (r.push h))) Q E s:=by
   intro l
   induction l with
   |nil=>rintro _ vs A s b Q rfl _ h;exact wpAny_pure (h b (by rw [nR,List.append_nil]))
   |cons x l ihl=>
    rintro f vs A s b Q ⟨v,t,rfl,r1,r2⟩ hu h
    rw [List.forIn_cons]
    refine wpAny_bind (wpAny_bind (f x (.head _) v A s _ r1 hu ?_))
    refine wpAny_bind (wpAny_pure (wpAny_pure ?_))
    refine ihl (fun x hx=>f x (.tail _ hx)) t A _ _ Q r2 hu fun b' hb=>?_
    have:=h b' (by rw [hb,Array.toList_push,nR,List.append_assoc];rfl)
    rw [V.drawss, ←Nat.add_assoc] at this
    exact this
  refine loop l ih vs A.in1 s #[] _ r (by rw [Around.in1_units];lia) fun b hb=>?_
  show wpAny _ _ (retInt (Builtin.Tuple.tupleHashOf b.toList)) _ _ _
  rw [hb]
  exact wpAny_bind (wpAny_mkInt (wpAny_pure (bW _ _ ⟨rfl,h⟩)))
theorem HD {x y:V}{a b:Addr}{Q:Bool→Shared→Prop}(hu:A.units+64<cLine)(hx:cV x=true)(hy:cV y=true)(wx:Rp w.params (gh s.heap) (.ref a) x)(wy:Rp w.params (gh s.heap) (.ref b) y)(h:Q (decide (x=y)) s):wpAny (model prog w) A (eqBool (.ref a) (.ref b)) Q E s:=by
 have hx':=(jF hx).1
 have hy':=(jF hy).1
 unfold eqBool
 try with_reducible refine wpAny_holding ?_
 show wpAny _ _ (if (Value.ref a==Value.ref b)=true then _ else _) Q E s
 by_cases hab:(Value.ref a==Value.ref b)=true
 ·rw [if_pos hab]
  have e:a=b:=by have:=eq_of_beq hab;injection this
  subst e
  rw [decide_eq_true (EI 7 x hx' _ y wx wy)] at h
  exact wpAny_bind (wpAny_rule (wpAny_pure h))
 ·rw [if_neg hab]
  refine wpAny_bind ?_
  show wpAny _ _ (compareOp .Eq (.ref a) (.ref b)) _ _ _
  refine eq_dataH (sN 7 x hx' _ wx).choose_spec (sN 7 y hy' _ wy).choose_spec (jE (by decide) hx') (jE (by decide) hy') hu (wpAny_truthy_bool ?_)
  rw [show PyData.eqv x.py y.py=decide (x=y) from Bool.eq_iff_iff.mpr ((KC 7 x hx' 7 y hy').trans decide_eq_true_iff.symm)];exact h
theorem KS:∀n x,jV n x=true→∀(v:Value) (Q:Bool→Shared→Prop),Rp w.params (gh s.heap) v x→Q true s→wpAny (model prog w) A (eqIsQuiet n v) Q E s:=
 kL (fun n i v Q r h=>by obtain ⟨t,rfl⟩:=r;rw [eqIsQuiet_byValue n rfl];exact wpAny_pure h) (fun n i _ v Q r h=>by obtain ⟨_,t,rfl⟩:=r;rw [eqIsQuiet_byValue n rfl];exact wpAny_pure h) fun n l ih v Q r h=>by
  obtain ⟨a,vs,rfl,g1,r⟩:=r
  have hT:s.TypeIs (.ref a) "tuple":=⟨_,g1,rfl⟩
  unfold eqIsQuiet
  refine wpAny_bind (wpAny_specialOf hT F.slot_tuple_eq.lookup ?_)
  show wpAny _ _ (isInstance (.ref a) (.type "tuple")>>=_) _ _ s
  refine wpAny_bind (wpAny_isInstance hT isSubtype_tuple_tuple ?_)
  dsimp only [Bool.not_true,Bool.false_eq_true,if_false]
  refine wpAny_bind (wpAny_seqItems g1 rfl ?_)
  refine wpAny_bind ?_
  show wpAny _ _ (forIn vs.toArray _ _) _ _ s
  rw [←Array.forIn_toList]
  have loop:∀(l:List V),(∀x∈l,∀(v:Value) (Q:Bool→Shared→Prop),Rp w.params (gh s.heap) v x→Q true s→wpAny (model prog w) A (eqIsQuiet n v) Q E s)→∀(vs:List Value) (Q:Option Bool×PUnit→Shared→Prop),bP w.params (gh s.heap) vs l→Q (none,⟨⟩) s→
    wpAny (model prog w) A (forIn vs (none,PUnit.unit) fun y r=>do
     let ok←eqIsQuiet n y
     if (!ok)=true then pure (ForInStep.done (some false,PUnit.unit)) else do pure PUnit.unit;pure (ForInStep.yield (none,PUnit.unit))) Q E s:=by
   intro l
   induction l with
   |nil=>rintro _ vs Q rfl h;exact wpAny_pure h
   |cons x l ihl=>
    rintro f vs Q ⟨v,t,rfl,r1,r2⟩ h
    rw [List.forIn_cons]
    refine wpAny_bind (wpAny_bind (f x (.head _) v _ r1 ?_))
    simp only [Bool.not_true,Bool.false_eq_true,if_false]
    refine wpAny_bind (wpAny_pure (wpAny_pure ?_))
    exact ihl (fun x hx=>f x (.tail _ hx)) t Q r2 h
  exact loop l ih vs _ r (wpAny_pure h)
theorem KT {P:Params}{h h':Heap}{d:Addr}{o:Obj}{es ep}(ho:h.get? d=some o)(hd:o.data=.dict es ep)(hs:Heap.SameBut d h h'):∀k x,jV k x=true→∀v,Rp P (gh h) v x→Rp P (gh h') v x:=
 kL (fun _ _ _ r=>r) (fun _ _ _ _ r=>r) fun k l ih v r=>by
  obtain ⟨a,vs,rfl,g1,r⟩:=r
  have hne:a≠d:=fun e=>by
   subst e
   have e:=g1.symm.trans ho
   cases e;cases hd
  refine (bW a vs ⟨rfl,(hs.2 a hne).trans g1,?_⟩)
  clear g1
  revert vs
  induction l with
  |nil=>exact fun vs r=>r
  |cons x l ihl=>rintro vs ⟨v,t,rfl,r1,r2⟩;exact bP.cons (ih x (.head _) v r1) (ihl (fun x hx=>ih x (.tail _ hx)) t r2)
end
theorem KU:∀k x,jV k x=true→jV (k+1) x=true:=
 kL (fun _ _=>rfl) (fun _ n hn=>Nat.blt_eq.mpr hn) fun k l ih=>by
  show sM (jV (k+1)) l=true
  induction l with
  |nil=>rfl
  |cons x l ihl=>show cond (jV (k+1) x) (sM (jV (k+1)) l) false=true;refine (Eq.symm (ih x (.head _)))▸?_;refine (Eq.symm (ihl fun x hx=>ih x (.tail _ hx)))▸?_;rfl
noncomputable def gV (prog:Program)(w:World):HeapKind prog w V where
 is:=fun h x a=>Rp w.params (gh h) (.ref a) x∧cV x=true
 hash:=uT w.params
 draws:=V.draws
 room:=fun A=>A.units+64<cLine
 inj:=fun hx hy=>EI 7 _ (jF hx.2).1 _ _ hx.1 hy.1
 keeps:=fun x ho hd hs=>⟨KT ho hd hs 7 _ (jF x.2).1 _ x.1,x.2⟩
 pyHash:=fun hu hk h=>TC 7 _ (jF hk.2).1 _ _ _ _ hk.1 (by lia) h
 eqBool:=fun hu hx hy h=>HD hu hx.2 hy.2 hx.1 hy.1 h
 quiet:=fun hk h=>KS 8 _ (KU 7 _ (jF hk.2).1) _ _ hk.1 h
noncomputable def yS (P:Params)(g:Gh):List (V×V)→List (V×Addr×Value)→Prop
 |[],xs=>xs=[]
 |p::l,xs=>∃b v t,xs=(p.1,b,v)::t∧cV p.1=true∧EH P g p.1 (.ref b)∧EH P g p.2 v∧yS P g l t
section
variable {prog:Program}{w:World}{A:Around}{E:Value→Shared→Prop}{s:Shared}{P:Params}{g:Gh}{d a:Addr}{l m:List (V×V)}{xs:List (V×Addr×Value)}{es:List DictEntry}{k x y:V}{v:Value}{n:Nat}
theorem BN:∀{es:List DictEntry},kY w.params g es l→∃xs,yS w.params g l xs∧es=xs.map (entryOfKey (gV prog w)):=by
 induction l with
 |nil=>rintro _ rfl;exact ⟨[],rfl,rfl⟩
 |cons p l ih=>
  rintro _ ⟨b,v,t,rfl,h1,h2,h3,r⟩
  refine aD (ih r) fun xs q1 ai8=>?_;subst ai8
  exact ⟨_,(jU b v xs ⟨rfl,h1,h2,h3,q1⟩),rfl⟩
theorem BP:∀{xs:List (V×Addr×Value)},yS w.params g l xs→kY w.params g (xs.map (entryOfKey (gV prog w))) l:=by
 induction l with
 |nil=>rintro _ rfl;rfl
 |cons p l ih=>rintro _ ⟨b,v,t,rfl,h1,h2,h3,r⟩;exact (jU b v _ ⟨rfl,h1,h2,h3,ih r⟩)
theorem jP:∀{xs:List (V×Addr×Value)},yS P g l xs→xs.map (·.1)=l.map (·.1):=by
 induction l with
 |nil=>rintro _ rfl;rfl
 |cons p l ih=>rintro _ ⟨b,v,t,rfl,_,_,_,r⟩;exact congrArg (p.1:: ·) (ih r)
theorem KV (hg:pH g s):∀{xs:List (V×Addr×Value)},yS w.params g l xs→∀x∈xs,(gV prog w).is s.heap x.1 x.2.1:=by
 induction l with
 |nil=>rintro _ rfl x h;cases h
 |cons p l ih=>
  rintro _ ⟨b,v,t,rfl,h1,h2,_,r⟩ x h
  cases h with
  |head=>exact ⟨Rp.mono h2 hg,h1⟩
  |tail _ h=>exact ih r x h
theorem TF (r:yS P g m xs):∀{ys},yS P g l ys→yS P g (l++m) (ys++xs):=by
 induction l with
 |nil=>rintro _ rfl;exact r
 |cons p l ih=>rintro _ ⟨b,v,t,rfl,h1,h2,h3,q⟩;exact (jU b v _ ⟨rfl,h1,h2,h3,ih q⟩)
theorem wV {a:V}(e:a=k){b:Addr}{u:Value}{t:List (V×Addr×Value)}:PySem.atKey ((a,b,u)::t) k=some (b,u):=by unfold PySem.atKey;rw [List.find?_cons_of_pos (by exact decide_eq_true e)];rfl
theorem pL {a:V}(ne:¬a=k){b:Addr}{u:Value}{t:List (V×Addr×Value)}:PySem.atKey ((a,b,u)::t) k=PySem.atKey t k:=by unfold PySem.atKey;rw [List.find?_cons_of_neg (by simpa using ne)]
theorem sY {β:Type}{p k:V}{f:Bool→Option β}{z:β}{M:Prop}(h:(lK 8 p k).bind f=some z)(h1:p=k→f true=some z→M)(h2:¬p=k→f false=some z→M):M:=by
 refine aD (aQ h) fun c e1 e2=>?_
 have e:=EP _ _ _ _ e1
 cases c with
 |true=>exact h1 (e.mp rfl) e2
 |false=>exact h2 (fun q=>Bool.noConfusion (e.mpr q)) e2
theorem pM {β:Type}{q:Option V→Option β}{z:β}{M:Prop}(h1:∀b v y,PySem.atKey xs k=some (b,v)→Rp P g v y→q (some y)=some z→M)(h2:PySem.atKey xs k=none→q none=some z→M):yS P g l xs→jG k q l=some z→M:=by
 induction l generalizing xs with
 |nil=>exact fun e hz=>h2 (e▸rfl) hz
 |cons p l ih=>
  exact fun e hz=>sL e fun b v t e _ _ h3 r=>sY (show (lK 8 p.1 k).bind (fun t=>cond t (q (some p.2)) (jG k q l))=some z from hz)
   (fun ek e2=>h1 b v p.2 (e▸wV ek) h3 e2) fun ne e2=>ih (fun b v y q1=>h1 b v y ((e▸pL ne:PySem.atKey xs k=_).trans q1)) (fun q1=>h2 ((e▸pL ne:PySem.atKey xs k=_).trans q1)) r e2
theorem TG (hv:Rp P g v y){p:V×V}{b:Addr}{u:Value}{t:List (V×Addr×Value)}(e:p.1=k)(h1:cV p.1=true)(h2:EH P g p.1 (.ref b))(r:yS P g l t)(nm:p.1∉l.map (·.1)):
  k∈(p::l).map (·.1)∧PySem.atKey ((p.1,b,u)::t) k≠none∧((p.1,y)::l).map (·.1)=(p::l).map (·.1)∧yS P g ((p.1,y)::l) (((p.1,b,u)::t).map (PySem.putAt k v)):=by
 refine ⟨e▸.head _,fun q=>absurd ((wV e).symm.trans q) (Option.some_ne_none _),rfl,b,v,t,?_,h1,h2,hv,r⟩
 refine (Eq.symm List.map_cons)▸?_;refine (Eq.symm (PySem.map_putAt_of_not_mem t k v (by rw [jP r];exact e▸nm)))▸?_
 congr 1
 exact if_pos e
theorem TH (hv:Rp P g v y){xs:List (V×Addr×Value)}{w:List (V×V)}:yS P g l xs→(l.map (·.1)).Nodup→uI k y l=some w→
  (k∈l.map (·.1)∧PySem.atKey xs k≠none∧w.map (·.1)=l.map (·.1)∧yS P g w (xs.map (PySem.putAt k v)))∨(k∉l.map (·.1)∧PySem.atKey xs k=none∧w=l++[(k,y)]):=by
 induction l generalizing xs w with
 |nil=>exact fun e _ hz=>.inr ⟨List.not_mem_nil,e▸rfl,(Option.some.inj hz).symm⟩
 |cons p l ih=>
  refine fun e hn hz=>sL e fun b u t e h1 h2 h3 r=>?_
  rw [List.map_cons,List.nodup_cons] at hn
  refine sY (show (lK 8 p.1 k).bind (fun t=>cond t (some ((p.1,y)::l)) ((uI k y l).bind fun z=>some (p::z)))=some w from hz) (fun ek e2=>?_) fun ne e2=>?_
  ·exact .inl (e▸Option.some.inj e2▸TG hv ek h1 h2 r hn.1)
  ·refine aD (aQ (show (uI k y l).bind (fun z=>some (p::z))=some w from e2)) fun w' e3 e4=>?_
   refine (ih r hn.2 e3).elim (fun q=>.inl (e▸Option.some.inj e4▸⟨.tail _ q.1,(pL ne).symm▸q.2.1,congrArg (p.1:: ·) q.2.2.1,b,u,_,?_,h1,h2,h3,q.2.2.2⟩)) fun q=>.inr ⟨fun m=>(List.mem_cons.mp m).elim (fun q=>ne q.symm) q.1,(e▸pL ne:PySem.atKey xs k=_).trans q.2.1,(Option.some.inj e4).symm.trans (congrArg (p:: ·) q.2.2)⟩
   exact congrArg (· ::t.map (PySem.putAt k v)) (if_neg ne)
theorem EU {xs:List (V×Addr×Value)}{w:List (V×V)}:yS P g l xs→(l.map (·.1)).Nodup→wL k l=some w→
  w.Sublist l∧(PySem.atKey xs k=none→w=l)∧∀j p,xs[j]? =some (k,p)→yS P g w (xs.eraseIdx j):=by
 induction l generalizing xs w with
 |nil=>exact fun e _ hz=>Option.some.inj hz▸⟨.refl _,fun _=>rfl,fun j p h=>(by rw [e] at h;cases h)⟩
 |cons p l ih=>
  refine fun e hn hz=>sL e fun b u t e h1 h2 h3 r=>?_
  rw [List.map_cons,List.nodup_cons] at hn
  refine sY (show (lK 8 p.1 k).bind (fun t=>cond t (some l) ((wL k l).bind fun z=>some (p::z)))=some w from hz) (fun ek e2=>?_) fun ne e2=>?_
  ·refine Option.some.inj e2▸e▸⟨List.sublist_cons_self ..,fun q=>absurd ((wV ek).symm.trans q) (Option.some_ne_none _),fun j q hj=>?_⟩
   cases j with
   |zero=>exact r
   |succ j=>exact absurd (ek.symm▸jP r▸List.mem_map_of_mem (f:=(·.1)) (List.mem_of_getElem? (show t[j]? =_ from hj))) hn.1
  ·refine aD (aQ (show (wL k l).bind (fun z=>some (p::z))=some w from e2)) fun w' e3 e4=>?_
   refine iK (ih r hn.2 e3) fun q1 q2 q3=>?_
   refine Option.some.inj e4▸e▸⟨q1.cons_cons _,fun q=>congrArg (p:: ·) (q2 ((pL ne).symm.trans q)),fun j q hj=>?_⟩
   cases j with
   |zero=>exact absurd (congrArg Prod.fst (Option.some.inj hj)) ne
   |succ j=>exact ⟨b,u,_,rfl,h1,h2,h3,q3 j q hj⟩
theorem dictOf (hg:pH g s)(ho:s.heap.get? d=some (cW es n))(hr:kY w.params g es l)(hn:(l.map (·.1)).Nodup):∃xs,yS w.params g l xs∧s.heap.DictOfH (gV prog w) d xs:=by
 refine aD (BN (prog:=prog) hr) fun xs h1 h2=>?_
 exact ⟨xs,h1,_,es.toArray,n,ho,⟨rfl,rfl,rfl⟩,rfl,by simpa using h2,KV hg h1,by rw [jP h1];exact hn⟩
theorem sZ {h:Heap}(hm:h.DictOfH (gV prog w) d xs):∃n,h.get? d=some (cW (xs.map (entryOfKey (gV prog w))) n):=by
 refine XW hm fun atP es ep ho atQ hdat he _ _=>?_;obtain ⟨c,dd,dt,sl⟩:=atP;obtain ⟨hc,hd,hs⟩:=atQ
 refine ⟨ep,?_⟩
 simp only at hc hd hs hdat
 subst hc hd hs hdat
 rw [ho, ←he]
theorem tA (hu:A.units+66<cLine):(gV prog w).room A.in1:=by
 show A.in1.units+64<cLine
 rw [Around.in1_units];lia
section
variable {β:Type}{K:V→Option β}{z:β}(hg:pH g s)(hu:A.units+66<cLine)(ho:s.heap.get? d=some (cW es n))(hr:kY w.params g es l)(hn:(l.map (·.1)).Nodup)(hk:Rp w.params g (.ref a) k)(hkk:cV k=true)
include hg hu ho hr hn hk hkk
theorem wW {Q:Value→Shared→Prop}(hz:jG k (fun o=>match o with|some z=>K z|none=>none) l=some z)(h:uE w.params g s K z Q):wpAny (model prog w) A (getItem (.ref d) (.ref a)) Q E s:=by
 refine aD (dictOf (prog:=prog) hg ho hr hn) fun xs h1 h2=>?_
 exact pM (fun b v y e1 rv q=>wpAny_getItem_heap (tA hu) ⟨Rp.mono hk hg,hkk⟩ h2 e1 (h.at q rv)) (fun _ q=>no q) h1 hz
theorem KW {dflt:Value}{Q:Value→Shared→Prop}(hsys:(d==sysModules)=false)(hd:Rp w.params g dflt y)(hz:jG k (fun o=>K (o.getD y)) l=some z)(h:uE w.params g s K z Q):wpAny (model prog w) A (call (.builtin "dict.get") [.ref d,.ref a,dflt]) Q E s:=by
 refine aD (dictOf (prog:=prog) hg ho hr hn) fun xs h1 h2=>?_
 refine call_meetsIn F.slot_dict_get ⟨_,ho,rfl⟩ F.entry_dict_get (F.args_dict_get_3 _ _ _) (meetsH_dict_get_default (gV prog w) d a hsys dflt) ⟨tA hu,k,xs,⟨Rp.mono hk hg,hkk⟩,h2,?_⟩
 exact pM (fun b v y e1 rv q=>by refine (Eq.symm e1)▸?_;exact h.at q rv) (fun e1 q=>by refine (Eq.symm e1)▸?_;exact h.at q hd) h1 hz
omit hu in
theorem rC {v:Value}{w':List (V×V)}{xs:List (V×Addr×Value)}(h1:yS w.params g l xs)(hv:Rp w.params g v y)(hp:uI k y l=some w'):kY w.params g ((PySem.storedH xs k a v).map (entryOfKey (gV prog w))) w'∧(w'.map (·.1)).Nodup:=by
 rcases TH hv h1 hn hp with ⟨_,q2,q3,q4⟩|⟨q1,q2,rfl⟩
 ·obtain ⟨p,hp⟩:=Option.ne_none_iff_exists'.mp q2
  rw [PySem.storedH_old hp]
  exact ⟨BP q4,by rw [q3];exact hn⟩
 ·rw [PySem.storedH_new q2]
  refine ⟨BP (TF (show yS w.params g [(k,y)] _ from (jU a v [] ⟨rfl,hkk,hk,hv,rfl⟩)) h1),?_⟩
  rw [List.map_append,List.nodup_append]
  exact ⟨hn,List.nodup_cons.mpr ⟨nofun,List.nodup_nil⟩,fun b hb c hc q=>q1 (by have e:b=k:=List.mem_singleton.mp (q▸hc);subst e;exact hb)⟩
theorem wX {w':List (V×V)}{v:Value}{Q:Unit→Shared→Prop}(hv:Rp w.params g v y)(hsz:l.length≤sizeLine)(hp:uI k y l=some w')
  (h:∀h' tk es' n',Heap.SameBut d s.heap h'→h'.get? d=some (cW es' n')→kY w.params g es' w'→(w'.map (·.1)).Nodup→Q () {s with heap:=h',toks:=tk}):wpAny (model prog w) A (setItem (.ref d) (.ref a) v) Q E s:=by
 refine aD (dictOf (prog:=prog) hg ho hr hn) fun xs h1 h2=>?_
 refine wpAny_setItem_heap (tA hu) ⟨Rp.mono hk hg,hkk⟩ h2 (fun h' hm hs=>?_) (by rw [←List.length_map (f:=(·.1)),jP h1,List.length_map];exact hsz)
 refine aT (sZ hm) fun n' ho'=>?_
 refine aG (rC (prog:=prog) hg ho hr hn hk hkk h1 hv hp) fun q1 q2=>?_
 exact h h' _ _ n' hs ho' q1 q2
theorem wY {w':List (V×V)}{v:Value}{Q:Unit→Shared→Prop}(hv:Rp w.params g v y)(hsz:l.length≤sizeLine)(hp:uI k y l=some w')
  (h:∀h' tk es' n',Heap.SameBut d s.heap h'→h'.get? d=some (cW es' n')→kY w.params g es' w'→(w'.map (·.1)).Nodup→Q () {s with heap:=h',toks:=tk}):wpAny (model prog w) A (dictSet d (.ref a) v) Q E s:=by
 refine aD (dictOf (prog:=prog) hg ho hr hn) fun xs h1 h2=>?_
 refine wpAny_dictSet_heap (knd:=gV prog w) (show A.units+64<cLine by lia) ⟨Rp.mono hk hg,hkk⟩ h2 (fun h' hm hs=>?_) (by rw [←List.length_map (f:=(·.1)),jP h1,List.length_map];exact hsz)
 refine aT (sZ hm) fun n' ho'=>?_
 refine aG (rC (prog:=prog) hg ho hr hn hk hkk h1 hv hp) fun q1 q2=>?_
 exact h h' _ _ n' hs ho' q1 q2
end
end
section
variable {prog:Program}{w:World}{A:Around}{E:Value→Shared→Prop}{s:Shared}{g:Gh}{d it:Addr}{es:List DictEntry}{n i:Nat}
theorem vF {Q:Value→Shared→Prop}(hsys:(d==sysModules)=false)(ho:s.heap.get? d=some (cW es n))
  (hQ:Q (.ref s.heap.objs.size) {s with heap:=s.heap.push {cls:=.type "dict_keyiterator",data:=.fields #[.ref d,.int 0 0,.int es.length 0,.int n 0]}}):
  wpAny (model prog w) A (pyIter (.ref d)) Q E s:=by
 have hT:s.TypeIs (.ref d) "dict":=⟨_,ho,rfl⟩
 refine wpAny_pyIter_slot hT F.slot_dict_iter (wpAny_call_entry F.slot_dict_iter hT F.entry_dict_iter ?_ (F.args_dict_iter_1 _))
 unfold Builtin.«dict.__iter__» Builtin.Dict.dictSlotNone
 refine wpAny_bind (wpAny_bind (wpAny_notOrdered_dict hT ?_))
 show wpAny _ _ (pure (Value.ref d)) _ _ s
 refine wpAny_pure ?_
 show wpAny _ _ (Builtin.Dict.showsAll d>>=_) _ _ s
 unfold Builtin.Dict.showsAll
 rw [if_neg (by rw [hsys];exact Bool.false_ne_true)]
 refine wpAny_bind (wpAny_pure (wpAny_bind (wpAny_dictEntries ho rfl (wpAny_bind (wpAny_dictEpoch ho rfl ?_)))))
 refine wpAny_bind (wpAny_newObj_type (wpAny_pure ⟨_,rfl,"dict_keyiterator",_,⟨_,Heap.get?_push_size _ rfl,rfl⟩,F.slot_dict_keyiterator_next.lookup,?_⟩))
 simpa [rawInt] using hQ
theorem TI {es:List DictEntry}{i:Nat}:(if (i:Int)<0 then none else es.toArray[(i:Int).toNat]?)=es[i]? :=(if_neg (by omega)).trans (by simp)
theorem KX {e:DictEntry}{Q:Option Value→Shared→Prop}(hit:s.heap.IsKeyIter it d i es.length n)(ho:s.heap.get? d=some (cW es n))(hx:es[i]? =some e)
  (hQ:∀h',h'.IsKeyIter it d (i+1) es.length n→Heap.SameBut it s.heap h'→Q (some e.key) {s with heap:=h'}):
  wpAny (model prog w) A (pyNext (.ref it)) Q E s:=by
 refine iA (id hit) fun o hoi hc hd=>?_
 have hlt:i<es.length:=(List.getElem?_eq_some_iff.mp hx).1
 unfold pyNext
 refine wpAny_bind (wpAny_attempt (wpAny_callSpecial?_slot (name:=Str.ofString "__next__") hit.typeIs F.slot_dict_keyiterator_next
  (wpAny_call_entry F.slot_dict_keyiterator_next hit.typeIs F.entry_dict_keyiterator_next ?_ (F.args_dict_keyiterator_next_1 _))))
 refine wpAny_bind (wpAny_pure (wpAny_bind (wpAny_bind ?_)))
 first|refine wpAny_bind (wpAny_typeNameOfWhole_keyiter hit.typeIs (wpAny_pure ?_))|refine wpAny_bind (wpAny_typeNameOf_keyiter hit.typeIs (wpAny_pure ?_))
 refine wpAny_bind (wpAny_fieldsOf hoi hd ?_)
 rw [if_neg (show ¬(Builtin.Dict_items.ownsTuple "dict_keyiterator"=true) by decide)]
 show wpAny _ _ (if (Value.ref d==Value.none)=true then _ else _) _ _ s
 rw [if_neg (show ¬((Value.ref d==Value.none)=true) from Bool.false_ne_true)]
 refine wpAny_bind (wpAny_pure (wpAny_bind (wpAny_dictEntries ho rfl ?_)))
 rw [if_neg (by simp)]
 refine wpAny_bind (wpAny_pure (wpAny_bind (wpAny_dictEpoch ho rfl ?_)))
 rw [if_neg (by simp)]
 refine wpAny_pure ?_
 dsimp only;refine (Eq.symm (TI.trans hx))▸?_;dsimp only
 refine wpAny_bind ?_
 first|refine wpAny_bind (wpAny_typeNameOfWhole_keyiter hit.typeIs (wpAny_pure ?_))|refine wpAny_bind (wpAny_typeNameOf_keyiter hit.typeIs (wpAny_pure ?_))
 refine wpAny_bind (wpAny_isOneOf_keyiter hit.typeIs ?_)
 show wpAny _ _ (setField (.ref it) 1 (rawInt ((i:Int)+1))>>=_) _ _ s
 refine wpAny_bind (wpAny_setField hoi hd (by simp) ?_)
 have hit':(s.heap.update it (Obj.mapFields (·.setIfInBounds 1 (rawInt ((i:Int)+1))))).IsKeyIter it d (i+1) es.length n:=
  ⟨_,Heap.get?_update_self _ hoi (Obj.isFreed_of_fields (Obj.data_mapFields hd _)),(Obj.cls_mapFields ..).trans hc,by rw [Obj.data_mapFields hd];simp [rawInt]⟩
 refine wpAny_bind (wpAny_holding ?_)
 refine wpAny_bind (wpAny_isOneOf_keyiter (s:={s with heap:=s.heap.update it (Obj.mapFields (·.setIfInBounds 1 (rawInt ((i:Int)+1))))}) hit'.typeIs ?_)
 show wpAny _ _ (pure e.key) _ _ _
 exact wpAny_pure (wpAny_pure ⟨_,rfl,wpAny_pure (hQ _ hit' (Heap.SameBut.update ..))⟩)
theorem vG {α:Type}{Q:Option α→Shared→Prop}{K:Fin→Shared→Prop}(hh:A.handled=none)(hQ:∀h',Heap.ExtBut it s.heap h'→Q none {s with heap:=h'}):
  wpAny (model prog w) A.in1 (do let e←newExc (Value.type "StopIteration") [];raiseNew e) K
   (fun e s'=>wpAny (model prog w) A (do let b←isInstance e (Value.type "StopIteration");if b=true then pure none else throw e) Q E s') s:=by
 refine wpAny_bind ?_
 dsimp only [newExc,newTuple]
 refine wpAny_bind (wpAny_newObj_type ?_ (by size_fits))
 refine wpAny_bind (m:=firstArgMember _ _) (wpAny_of_eq (a:=Value.none) (by first|rfl|(dsimp only [firstArgMember];rfl)) ?_)
 refine wpAny_newObj_type ?_ (by size_fits)
 dsimp only [raiseNew]
 refine wpAny_bind (wpAny_handled ?_)
 refine (Eq.symm (show A.in1.handled=none from hh))▸?_
 refine wpAny_bind (wpAny_pure (wpAny_throw ?_))
 refine wpAny_bind (wpAny_isInstance (T:="StopIteration") (b:=true) ⟨_,Heap.get?_push_size _ rfl,rfl⟩ isSubtype_stop ?_)
 exact wpAny_pure (hQ _ (((Heap.ExtBut.refl it s.heap).push _).push _))
theorem EV {Q:Option Value→Shared→Prop}(hh:A.handled=none)(hit:s.heap.IsKeyIter it d i es.length n)(ho:s.heap.get? d=some (cW es n))(hx:es.length≤i)
  (hQ:∀h',Heap.ExtBut it s.heap h'→Q none {s with heap:=h'}):wpAny (model prog w) A (pyNext (.ref it)) Q E s:=by
 refine iA (id hit) fun o hoi hc hd=>?_
 unfold pyNext
 refine wpAny_bind (wpAny_attempt (wpAny_callSpecial?_slot (name:=Str.ofString "__next__") hit.typeIs F.slot_dict_keyiterator_next
  (wpAny_call_entry F.slot_dict_keyiterator_next hit.typeIs F.entry_dict_keyiterator_next ?_ (F.args_dict_keyiterator_next_1 _))))
 refine wpAny_bind (wpAny_pure (wpAny_bind (wpAny_bind ?_)))
 first|refine wpAny_bind (wpAny_typeNameOfWhole_keyiter hit.typeIs (wpAny_pure ?_))|refine wpAny_bind (wpAny_typeNameOf_keyiter hit.typeIs (wpAny_pure ?_))
 refine wpAny_bind (wpAny_fieldsOf hoi hd ?_)
 rw [if_neg (show ¬(Builtin.Dict_items.ownsTuple "dict_keyiterator"=true) by decide)]
 show wpAny _ _ (if (Value.ref d==Value.none)=true then _ else _) _ _ s
 refine (Eq.symm (if_neg (show ¬((Value.ref d==Value.none)=true) from Bool.false_ne_true)))▸?_
 refine wpAny_bind (wpAny_pure (wpAny_bind (wpAny_dictEntries ho rfl ?_)))
 rw [if_neg (by simp)]
 refine wpAny_bind (wpAny_pure (wpAny_bind (wpAny_dictEpoch ho rfl ?_)))
 rw [if_neg (by simp)]
 refine wpAny_pure ?_
 dsimp only;refine (Eq.symm (TI.trans (List.getElem?_eq_none hx)))▸?_;dsimp only
 refine wpAny_bind ?_
 first|refine wpAny_bind (wpAny_typeNameOfWhole_keyiter hit.typeIs (wpAny_pure ?_))|refine wpAny_bind (wpAny_typeNameOf_keyiter hit.typeIs (wpAny_pure ?_))
 show wpAny _ _ (setField (.ref it) 0 .none>>=_) _ _ s
 exact wpAny_bind (wpAny_setField hoi hd (by simp) (vG hh fun h' he=>hQ h' ((Heap.SameBut.update ..).extBut.trans he)))
theorem BQ {Q:Value→Shared→Prop}(hsys:(d==sysModules)=false)(ho:s.heap.get? d=some (cW es n))
  (hQ:Q (.ref s.heap.objs.size) {s with heap:=s.heap.push {cls:=.type "dict_items",data:=.fields #[.ref d]}}):
  wpAny (model prog w) A (call (.builtin "dict.items") [.ref d]) Q E s:=by
 have main:MeetsIn prog w (Builtin.«dict.items» ⟨[.ref d],[]⟩) (fun _ R s'=>s'=s∧R (.ok (.ret (.ref s.heap.objs.size))) {s with heap:=s.heap.push {cls:=.type "dict_items",data:=.fields #[.ref d]}}):=
  .of_wp fun A' R s' ⟨e,h⟩=>by
   subst e
   unfold Builtin.«dict.items» Builtin.Dict.noArgs
   refine wpAny_bind (wpAny_bind (wpAny_notOrdered_dict ⟨_,ho,rfl⟩ ?_))
   show wpAny _ _ (pure d) _ _ s'
   refine wpAny_pure ?_
   show wpAny _ _ (Builtin.Dict.showsAll d>>=_) _ _ s'
   unfold Builtin.Dict.showsAll
   rw [if_neg (by rw [hsys];exact Bool.false_ne_true)]
   exact wpAny_bind (wpAny_pure (wpAny_bind (wpAny_newObj_type (wpAny_pure ⟨_,rfl,h⟩))))
 exact call_meetsIn F.slot_dict_items ⟨_,ho,rfl⟩ F.entry_dict_items (F.args_dict_items_1 _) main ⟨rfl,hQ⟩
theorem BR {v:Addr}{Q:Value→Shared→Prop}(hv:s.heap.IsItemsView v d)(ho:s.heap.get? d=some (cW es n))
  (hQ:Q (.ref s.heap.objs.size) {s with heap:=s.heap.push {cls:=.type "dict_itemiterator",data:=.fields #[.none,.bool false,.ref d,.int 0 0,.int es.length 0,.int n 0,.none,.none]}}):
  wpAny (model prog w) A (pyIter (.ref v)) Q E s:=by
 refine iA (id hv) fun ov hov hcv hdv=>?_
 refine wpAny_pyIter_slot hv.typeIs F.slot_dict_items_iter (wpAny_call_entry F.slot_dict_items_iter hv.typeIs F.entry_dict_items_iter ?_ (F.args_dict_items_iter_1 _))
 unfold Builtin.«dict_items.__iter__» Builtin.Dict_items.dictOf
 refine wpAny_bind (wpAny_pure (wpAny_bind (wpAny_bind (wpAny_field hov hdv (x:=.ref d) rfl (wpAny_pure (wpAny_bind ?_))))))
 unfold Builtin.Dict_items.newIterator
 refine wpAny_bind (wpAny_dictEntries ho rfl (wpAny_bind (wpAny_dictEpoch ho rfl ?_)))
 simp only [show Builtin.Dict_items.ownsTuple "dict_itemiterator"=true by decide,if_true]
 refine wpAny_newObj_type (wpAny_pure ⟨_,rfl,"dict_itemiterator",_,⟨_,Heap.get?_push_size _ rfl,rfl⟩,F.slot_dict_itemiterator_next.lookup,?_⟩)
  (by simp only [sizeOk,Builtin.Dict_items.ownedTupleFields,List.size_toArray,List.length_append,List.length_cons,List.length_nil,sizeLine_eq];omega)
 simpa [rawInt,Builtin.Dict_items.ownedTupleFields] using hQ
theorem HE {e:DictEntry}{ok ov:Value}{Q:Option Value→Shared→Prop}(hit:IsItemIter s.heap it d i es.length n ok ov)(ho:s.heap.get? d=some (cW es n))(hx:es[i]? =some e)
  (hQ:∀h',IsItemIterOut h' it d (i+1) es.length n e.key e.val s.heap.objs.size→h'.get? s.heap.objs.size=some {cls:=.type "tuple",data:=.seq #[e.key,e.val]}→
   Heap.ExtBut it s.heap h'→Q (some (.ref s.heap.objs.size)) {s with heap:=h'}):
  wpAny (model prog w) A (pyNext (.ref it)) Q E s:=by
 obtain ⟨hp,gs,dr,tk,os⟩:=s
 have hT:Shared.TypeIs ⟨hp,gs,dr,tk,os⟩ (.ref it) "dict_itemiterator":=⟨_,hit,rfl⟩
 have hlt:i<es.length:=(List.getElem?_eq_some_iff.mp hx).1
 unfold pyNext
 refine wpAny_bind (wpAny_attempt (wpAny_callSpecial?_slot (name:=Str.ofString "__next__") hT F.slot_dict_itemiterator_next
  (wpAny_call_entry F.slot_dict_itemiterator_next hT F.entry_dict_itemiterator_next ?_ (F.args_dict_itemiterator_next_1 _))))
 refine wpAny_bind (wpAny_pure (wpAny_bind (wpAny_bind ?_)))
 first|refine wpAny_bind (wpAny_typeNameOfWhole_itemiter hT (wpAny_pure ?_))|refine wpAny_bind (wpAny_typeNameOf_itemiter hT (wpAny_pure ?_))
 refine wpAny_bind (wpAny_fieldsOf hit rfl ?_)
 rw [if_pos (show Builtin.Dict_items.ownsTuple "dict_itemiterator"=true by decide)]
 show wpAny _ _ (if (Value.ref d==Value.none)=true then _ else _) _ _ _
 refine (Eq.symm (if_neg (show ¬((Value.ref d==Value.none)=true) from Bool.false_ne_true)))▸?_
 refine wpAny_bind (wpAny_pure (wpAny_bind (wpAny_dictEntries ho rfl ?_)))
 rw [if_neg (by simp)]
 refine wpAny_bind (wpAny_pure (wpAny_bind (wpAny_dictEpoch ho rfl ?_)))
 rw [if_neg (by simp)]
 refine wpAny_pure ?_
 dsimp only;refine (Eq.symm (TI.trans hx))▸?_;dsimp only
 refine wpAny_bind ?_
 first|refine wpAny_bind (wpAny_typeNameOfWhole_itemiter hT (wpAny_pure ?_))|refine wpAny_bind (wpAny_typeNameOf_itemiter hT (wpAny_pure ?_))
 refine wpAny_bind (wpAny_isOneOf_itemiter hT ?_)
 show wpAny _ _ (setField (.ref it) 3 (rawInt ((i:Int)+1))>>=_) _ _ ⟨hp,gs,dr,tk,os⟩
 refine wpAny_bind (wpAny_setField_rec hit (by simp) fun h₁ he₁ hs₁=>?_)
 replace hs₁:Heap.SameBut it hp h₁:=hs₁
 replace he₁:IsItemIter h₁ it d (i+1) es.length n ok ov:=by
  have e:((i+1:Nat):Int)=(i:Int)+1:=by omega
  unfold IsItemIter;refine (Eq.symm e)▸?_;simpa [rawInt] using he₁
 have hT₁:Shared.TypeIs ⟨h₁,gs,dr,tk,os⟩ (.ref it) "dict_itemiterator":=⟨_,he₁,rfl⟩
 refine wpAny_bind (wpAny_holding (wpAny_bind (wpAny_isOneOf_itemiter hT₁ ?_)))
 refine wpAny_bind (wpAny_isOneOf_itemiter hT₁ ?_)
 show wpAny _ _ (Builtin.Dict_items.pairFromOwner (.ref it) 6 e.key e.val) _ _ ⟨h₁,gs,dr,tk,os⟩
 unfold Builtin.Dict_items.pairFromOwner
 refine wpAny_bind (wpAny_newTuple ?_)
 have hz:h₁.objs.size=hp.objs.size:=hs₁.1
 have hne:hp.objs.size≠it:=Nat.ne_of_gt (Heap.lt_size hit)
 have he₂:IsItemIter (h₁.push {cls:=.type "tuple",data:=.seq #[e.key,e.val]}) it d (i+1) es.length n ok ov:=Heap.get?_push_of_some _ he₁
 have ht₂:(h₁.push {cls:=.type "tuple",data:=.seq #[e.key,e.val]}).get? hp.objs.size=some {cls:=.type "tuple",data:=.seq #[e.key,e.val]}:=by refine hz▸?_;exact Heap.get?_push_size _ rfl
 have hk₂:Heap.ExtBut it hp (h₁.push {cls:=.type "tuple",data:=.seq #[e.key,e.val]}):=hs₁.extBut.push _
 show wpAny _ _ (Builtin.Dict_items.ownedTupleIsFree (.ref it)>>=_) _ _ ⟨_,gs,dr,tk,os⟩
 refine (Eq.symm (show Value.ref h₁.objs.size=Value.ref hp.objs.size by rw [hz]))▸?_
 generalize h₁.push {cls:=.type "tuple",data:=.seq #[e.key,e.val]}=h₂ at he₂ ht₂ hk₂
 refine wpAny_bind ?_
 unfold Builtin.Dict_items.ownedTupleIsFree
 refine wpAny_bind (wpAny_field he₂ rfl (x:=.none) rfl (wpAny_pure ?_))
 simp only [if_true]
 refine wpAny_bind (wpAny_field he₂ rfl (x:=ok) rfl (wpAny_bind (wpAny_field he₂ rfl (x:=ov) rfl ?_)))
 refine wpAny_bind (wpAny_setField_rec he₂ (by simp) fun h₃ he₃ hs₃=>?_)
 replace hs₃:Heap.SameBut it h₂ h₃:=hs₃
 replace he₃:IsItemIter h₃ it d (i+1) es.length n e.key ov:=he₃
 refine wpAny_bind (wpAny_setField_rec he₃ (by simp) fun h₄ he₄ hs₄=>?_)
 replace hs₄:Heap.SameBut it h₃ h₄:=hs₄
 replace he₄:IsItemIter h₄ it d (i+1) es.length n e.key e.val:=he₄
 refine wpAny_bind (wpAny_setField_rec he₄ (by simp) fun h₅ he₅ hs₅=>?_)
 replace hs₅:Heap.SameBut it h₄ h₅:=hs₅
 replace he₅:IsItemIterOut h₅ it d (i+1) es.length n e.key e.val hp.objs.size:=he₅
 refine wpAny_bind (wpAny_setField_rec he₅ (by simp) fun h₆ he₆ hs₆=>?_)
 replace hs₆:Heap.SameBut it h₅ h₆:=hs₆
 replace he₆:IsItemIterOut h₆ it d (i+1) es.length n e.key e.val hp.objs.size:=he₆
 have hk:Heap.ExtBut it h₂ h₆:=hs₃.extBut.trans (hs₄.extBut.trans (hs₅.extBut.trans hs₆.extBut))
 exact wpAny_bind (wpAny_letGo (wpAny_pure (wpAny_pure ⟨_,rfl,wpAny_pure (hQ h₆ he₆ (hk _ _ hne ht₂) (hk₂.trans hk))⟩)))
theorem KY {ok ov:Value}{Q:Option Value→Shared→Prop}(hh:A.handled=none)(hit:IsItemIter s.heap it d i es.length n ok ov)(ho:s.heap.get? d=some (cW es n))(hx:es.length≤i)
  (hQ:∀h',Heap.ExtBut it s.heap h'→Q none {s with heap:=h'}):wpAny (model prog w) A (pyNext (.ref it)) Q E s:=by
 have hT:s.TypeIs (.ref it) "dict_itemiterator":=⟨_,hit,rfl⟩
 unfold pyNext
 refine wpAny_bind (wpAny_attempt (wpAny_callSpecial?_slot (name:=Str.ofString "__next__") hT F.slot_dict_itemiterator_next
  (wpAny_call_entry F.slot_dict_itemiterator_next hT F.entry_dict_itemiterator_next ?_ (F.args_dict_itemiterator_next_1 _))))
 refine wpAny_bind (wpAny_pure (wpAny_bind (wpAny_bind ?_)))
 first|refine wpAny_bind (wpAny_typeNameOfWhole_itemiter hT (wpAny_pure ?_))|refine wpAny_bind (wpAny_typeNameOf_itemiter hT (wpAny_pure ?_))
 refine wpAny_bind (wpAny_fieldsOf hit rfl ?_)
 rw [if_pos (show Builtin.Dict_items.ownsTuple "dict_itemiterator"=true by decide)]
 show wpAny _ _ (if (Value.ref d==Value.none)=true then _ else _) _ _ s
 rw [if_neg (show ¬((Value.ref d==Value.none)=true) from Bool.false_ne_true)]
 refine wpAny_bind (wpAny_pure (wpAny_bind (wpAny_dictEntries ho rfl ?_)))
 rw [if_neg (by simp)]
 refine wpAny_bind (wpAny_pure (wpAny_bind (wpAny_dictEpoch ho rfl ?_)))
 rw [if_neg (by simp)]
 refine wpAny_pure ?_
 dsimp only;refine (Eq.symm (TI.trans (List.getElem?_eq_none hx)))▸?_;dsimp only
 refine wpAny_bind ?_
 first|refine wpAny_bind (wpAny_typeNameOfWhole_itemiter hT (wpAny_pure ?_))|refine wpAny_bind (wpAny_typeNameOf_itemiter hT (wpAny_pure ?_))
 show wpAny _ _ (setField (.ref it) 2 .none>>=_) _ _ s
 exact wpAny_bind (wpAny_setField hit rfl (by simp) (vG hh fun h' he=>hQ h' ((Heap.SameBut.update ..).extBut.trans he)))
end
section
variable {prog:Program}{w:World}{A:Around}{E:Value→Shared→Prop}{s:Shared}{g:Gh}{d o:Addr}{es:List DictEntry}{n i:Nat}
def BS (h:Heap)(e:DictEntry):Prop:=∃a vs,e.key=.ref a∧h.get? a=some ({cls:=.type "tuple",data:=.seq vs}:Obj)
theorem rD:∀{es:List DictEntry},(es.map (·.hash)).Nodup→∀e∈es,(es.filter (·.hash==e.hash)).length≤1
 |[],_,_,h=>by cases h
 |a::es,hn,e,he=>by
  simp only [List.map_cons,List.nodup_cons] at hn
  have none_of:∀c:Int,c∉es.map (·.hash)→es.filter (·.hash==c)=[]:=fun c hc=>by
   rw [List.filter_eq_nil_iff]
   intro b hb q
   exact hc (eq_of_beq q▸List.mem_map_of_mem hb)
  rcases List.mem_cons.mp he with rfl|he
  ·simp [List.filter_cons,none_of _ hn.1]
  ·have:(a.hash==e.hash)=false:=by
    rw [beq_eq_false_iff_ne]
    intro q
    exact hn.1 (q▸List.mem_map_of_mem he)
   rw [List.filter_cons,this]
   exact rD hn.2 e he
theorem oQ {id:String}{Q:Array DictEntry→Shared→Prop}(ho:s.heap.get? o=some (cW es n))(hk:∀e∈es,BS s.heap e)(hh:(es.map (·.hash)).Nodup)(h:Q es.toArray s):
  wpAny (model prog w) A (Builtin.Dict.entriesForEmpty id o) Q E s:=by
 unfold Builtin.Dict.entriesForEmpty
 refine wpAny_bind (wpAny_dictEntries ho rfl ?_)
 refine wpAny_bind (m:=forIn es.toArray PUnit.unit _) ?_
 rw [←Array.forIn_toList]
 have loop:∀(r:List DictEntry) (R:PUnit→Shared→Prop),(∀e∈r,e∈es)→R PUnit.unit s→wpAny (model prog w) A (forIn r PUnit.unit fun e (_:PUnit)=>(do
   let q←Builtin.Dict.quietEq e.key
   if (!q)=true then
    if (es.toArray.filter (·.hash==e.hash)).size>1 then (do let _←(unsupported s!"{id}:keys-of-equal-hash":Sem PUnit);pure (ForInStep.yield PUnit.unit)) else pure (ForInStep.yield PUnit.unit)
   else pure (ForInStep.yield PUnit.unit):Sem (ForInStep PUnit))) R E s:=by
  intro r
  induction r with
  |nil=>intro R _ hR;exact wpAny_pure hR
  |cons e r ih=>
   intro R hr hR
   refine dI (hk e (hr e (.head _))) fun a vs e1 e2=>?_
   have hf:=rD hh e (hr e (.head _))
   rw [List.forIn_cons]
   refine wpAny_bind (wpAny_bind ?_)
   rw [e1]
   show wpAny _ _ (specialOf (.ref a) "__eq__">>=_) _ _ s
   refine wpAny_bind (wpAny_specialOf (T:="tuple") ⟨_,e2,rfl⟩ F.slot_tuple_eq.lookup (wpAny_pure ?_))
   rw [if_pos (by decide),if_neg (by simpa using hf)]
   exact wpAny_pure (ih R (fun e he=>hr e (.tail _ he)) hR)
 exact loop es _ (fun _ h=>h) (wpAny_pure h)
theorem zA {Q:Value→Shared→Prop}{a:Value}{R:Value→Shared→Prop}
  (h:wpAny (model prog w) A.in1.in1 (Builtin.Dict.updateFrom "dict.__init__" s.heap.objs.size a [] .none)
   (fun fin s'=>match fin with|.done f=>wants (fun r s₂=>r=.none∧Q (.ref s.heap.objs.size) s₂) E (.ok f) s'|.again c'=>c'.quiet=true∧codeAny (model prog w) A.in1 c' (wants (fun r s₂=>r=.none∧Q (.ref s.heap.objs.size) s₂) E) s')
   (fun e s'=>wants (fun r s₂=>r=.none∧Q (.ref s.heap.objs.size) s₂) E (.error e) s') {s with heap:=s.heap.push (cW [] 0)}):
  wpAny (model prog w) A (call (.type "dict") [a]) Q E s:=by
 have _:=R
 refine callType_codes (Q₁:=fun obj s₁=>obj=.ref s.heap.objs.size∧s₁={s with heap:=s.heap.push (cW [] 0)}) F.kt_called_dict (F.kt_typeCall_dict_1 _) F.entry_dict_init (kt_code_dict_new _ ⟨rfl,rfl⟩) ?_
 rintro obj s₁ ⟨rfl,rfl⟩
 have hnew:(s.heap.push (cW [] 0)).get? s.heap.objs.size=some (cW [] 0):=Heap.get?_push_size _ rfl
 refine ⟨⟨_,hnew,rfl⟩,F.args_dict_init_2 _ _,?_⟩
 unfold Builtin.«dict.__init__» Builtin.Dict.selfAndRest
 refine wpAny_bind (wpAny_bind (wpAny_notOrdered_dict ⟨_,hnew,rfl⟩ ?_))
 show wpAny _ _ (pure (s.heap.objs.size,[a])) _ _ _
 exact wpAny_pure h
theorem HF {Q:Value→Shared→Prop}(hsys:(o==sysModules)=false)(ho:s.heap.get? o=some (cW es n))(hk:∀e∈es,BS s.heap e)(hh:(es.map (·.hash)).Nodup)(hsz:es.length≤sizeLine)
  (h:∀h' n',lJ s.heap h'→h'.get? s.heap.objs.size=some (cW es n')→Q (.ref s.heap.objs.size) {s with heap:=h'}):
  wpAny (model prog w) A (call (.type "dict") [.ref o]) Q E s:=by
 refine zA (R:=Q) ?_
 have hnew:(s.heap.push (cW [] 0)).get? s.heap.objs.size=some (cW [] 0):=Heap.get?_push_size _ rfl
 have ho':(s.heap.push (cW [] 0)).get? o=some (cW es n):=Heap.get?_push_of_some _ ho
 have hdo:s.heap.objs.size≠o:=Nat.ne_of_gt (Heap.lt_size ho)
 have hT:Shared.TypeIs {s with heap:=s.heap.push (cW [] 0)} (.ref o) "dict":=⟨_,ho',rfl⟩
 have fin:∀h' n',lJ s.heap h'→h'.get? s.heap.objs.size=some (cW es n')→wpAny (model prog w) A.in1.in1 (do Builtin.Dict.addKeywords s.heap.objs.size [];ret .none)
   (fun fin s'=>match fin with|.done f=>wants (fun r s₂=>r=.none∧Q (.ref s.heap.objs.size) s₂) E (.ok f) s'|.again c'=>c'.quiet=true∧codeAny (model prog w) A.in1 c' (wants (fun r s₂=>r=.none∧Q (.ref s.heap.objs.size) s₂) E) s')
   (fun e s'=>wants (fun r s₂=>r=.none∧Q (.ref s.heap.objs.size) s₂) E (.error e) s') {s with heap:=h'}:=fun h' n' he hd=>
  wpAny_bind (m:=Builtin.Dict.addKeywords _ []) (wpAny_pure (a:=PUnit.unit) (wpAny_pure ⟨rfl,h h' n' he hd⟩))
 unfold Builtin.Dict.updateFrom
 refine wpAny_bind (wpAny_typeOf hT ?_)
 rw [if_neg (by decide)]
 refine wpAny_bind ?_
 unfold Builtin.Dict.merge
 refine wpAny_bind ?_
 unfold Builtin.Dict.readDirectly
 refine wpAny_bind (wpAny_isInstance hT isSubtype_dict_dict ?_)
 simp only [Bool.not_true,Bool.false_eq_true,if_false]
 refine wpAny_bind (wpAny_specialOf hT F.slot_dict_iter.lookup (wpAny_pure ?_))
 simp only [beq_self_eq_true,if_true]
 refine wpAny_bind (wpAny_pure ?_)
 unfold Builtin.Dict.mergeDict
 rw [if_neg (by simpa using hdo)]
 unfold Builtin.Dict.showsAll
 rw [if_neg (by rw [hsys];exact Bool.false_ne_true)]
 refine wpAny_bind (wpAny_pure (wpAny_bind (wpAny_dictEntries ho' rfl ?_)))
 cases es with
 |nil=>
  rw [if_neg (show ¬((!(decide (([]:List DictEntry).toArray.size≤8) && ([]:List DictEntry).toArray.all fun e=>(keyPart e.key).isSome))=true) by simp)]
  refine wpAny_bind (wpAny_dictEpoch ho' rfl (wpAny_bind (wpAny_dictEntries ho' rfl (wpAny_bind ?_))))
  refine wpAny_of_eq (a:=PUnit.unit) (by simp) (wpAny_pure (a:=PUnit.unit) ?_)
  exact fin _ 0 bF hnew
 |cons e r=>
  have hnp:(e::r).toArray.all (fun e=>(keyPart e.key).isSome)=false:=by
   refine dI (hk e (.head _)) fun a vs e1 _=>?_
   simp [e1,keyPart]
  simp only [hnp,Bool.and_false,Bool.not_false,if_true]
  refine wpAny_bind (wpAny_dictEntries hnew rfl ?_)
  simp only [List.isEmpty_toArray,List.isEmpty_nil,if_true]
  refine wpAny_bind (oQ ho' (fun e he=>let ⟨a,vs,e1,e2⟩:=hk e he;⟨a,vs,e1,Heap.get?_push_of_some _ e2⟩) hh ?_)
  rw [if_pos (by simp)]
  refine wpAny_bind (wpAny_updateDictKeysTo hnew rfl (wpAny_pure (a:=PUnit.unit) ?_) (by simp only [List.size_toArray];omega))
  have hu:=Heap.get?_update_self (Obj.mapDictKeys fun _=>(e::r).toArray) hnew rfl
  exact fin _ 1 (fun b ob h1=>(Heap.get?_update_other _ _ (Nat.ne_of_gt (Heap.lt_size h1))).trans (Heap.get?_push_of_some _ h1)) (by rw [hu];rfl)
theorem HG {l:Addr}{vs:List Value}{Q:Option Value→Shared→Prop}(hx:s.heap.get? l=some (cH vs n))(hA:A.handled=none)(h:∀h' tk,lJ s.heap h'→Q none {s with heap:=h',toks:=tk}):
  wpAny (model prog w) A (getAttr? (.ref l) (Str.ofString "keys")) Q E s:=by
 obtain ⟨hp,gs,dr,tk,os⟩:=s
 replace hx:hp.get? l=some ({cls:=.type "list",dict:=none,data:=.seq vs.toArray n,slots:= #[]}:Obj):=hx
 have hT:∀tk',(⟨hp,gs,dr,tk',os⟩:Shared).TypeIs (.ref l) "list":=fun _=>⟨_,hx,rfl⟩
 have f1:=sub_AttributeError
 have f3:=F.slot_list_getattribute.lookup
 have f4:=F.slot_list_getattribute.bind (.ref l)
 have f5:=am_list_getattr_none
 have hmiss:typeLookup (.type "list") (Str.ofString "keys")=pure none:=by rw [typeLookup_type,builtinLookup_eq_fast];kernel_rfl
 have hname:(["__module__","__name__","__qualname__","__doc__","__annotations__"]:List Str).contains (Str.ofString "keys")=false:=by decide+kernel
 have hsz:(Str.ofString "keys").length+100≤sizeLine:=by decide+kernel
 unfold getAttr? getAttrBy? getAttrBy
 repeat (any_goals (first|assumption|exact hT _|((with_reducible show wpAny _ _ (call (Value.builtin "list.__getattribute__") _ _) _ _ _);refine call_meets F.slot_list_getattribute (hT _) am_entry_list_getattribute (F.args_list_getattribute_2 _ _) (meets_getattribute_miss_list l _ n _ _ _ hmiss hname hsz) ⟨hx,hA,fun h' tk' e hx'=>?_⟩)|wp_step))
 refine bD hx'.there fun t' u' he=>?_
 show wpAny _ _ (getattributeRaised _ _ _ _ _ _ _) _ _ _
 unfold getattributeRaised
 repeat (any_goals (first|assumption|wp_step))
 exact h _ _ hx'.keeps
theorem pN:entryFor table "dict.update.loop"=some Builtin.«dict.update.loop»:=entryFor_of_fast (by kernel_rfl)
theorem zB {l:Addr}{Q:Value→Shared→Prop}(hh:A.handled=none)(hl:s.heap.get? l=some (cH [] n))
  (h:∀h' tk n',lJ s.heap h'→h'.get? s.heap.objs.size=some (cW [] n')→Q (.ref s.heap.objs.size) {s with heap:=h',toks:=tk}):
  wpAny (model prog w) A (call (.type "dict") [.ref l]) Q E s:=by
 refine zA (R:=Q) ?_
 have hnew:(s.heap.push (cW [] 0)).get? s.heap.objs.size=some (cW [] 0):=Heap.get?_push_size _ rfl
 have hl':(s.heap.push (cW [] 0)).get? l=some (cH [] n):=Heap.get?_push_of_some _ hl
 have hT:Shared.TypeIs {s with heap:=s.heap.push (cW [] 0)} (.ref l) "list":=⟨_,hl',rfl⟩
 unfold Builtin.Dict.updateFrom
 refine wpAny_bind (wpAny_typeOf hT ?_)
 rw [if_pos (by decide)]
 refine wpAny_bind (HG hl' hh fun h' tk he=>?_)
 have hl2:=he _ _ hl'
 have hd2:=he _ _ hnew
 dsimp only [Option.isNone_none,if_true]
 refine wpAny_bind (wpAny_rule (wpAny_bind (wpAny_pyIter_list ⟨_,hl2,rfl,_,rfl⟩ (wpAny_pure ⟨Code.quiet_builtin _ (by decide+kernel),?_⟩))))
 refine codeAny_builtin pN ?_
 rw [Around.under_plainId (by decide+kernel) _]
 show wpAny _ A.in1.in1 (pyNext (.ref h'.objs.size)>>=_) _ _ _
 refine wpAny_bind (wpAny_pyNext_list_end (items:=([]:List Value).toArray) hh ⟨_,Heap.get?_push_size _ rfl,rfl,rfl⟩ ⟨_,Heap.get?_push_of_some _ hl2,rfl,_,rfl⟩ (by simp) fun h₂ he₂=>?_)
 have ext₂:lJ h' h₂:=fun b ob e=>he₂ b ob (Nat.ne_of_lt (Heap.lt_size e)) (Heap.get?_push_of_some _ e)
 exact wpAny_bind (m:=Builtin.Dict.addKeywords _ []) (wpAny_pure (a:=PUnit.unit) (wpAny_pure ⟨rfl,h h₂ _ 0 (fun b ob e=>ext₂ _ _ (he _ _ (Heap.get?_push_of_some _ e))) (ext₂ _ _ hd2)⟩))
end
section
variable {prog:Program}{w:World}{A:Around}{E:Value→Shared→Prop}{s:Shared}{g:Gh}{d o:Addr}{es:List DictEntry}{n i:Nat}{x y z:V}{u v:Value}
noncomputable abbrev HH (d:Addr) (n:Nat):Obj:={cls:=.type "dict_keyiterator",data:=.fields #[.ref d,.int 0 0,.int ([]:List DictEntry).length 0,.int n 0]}
theorem HI {Q:Bool→Shared→Prop}(hT:s.TypeIs (.ref d) "dict") (h:Q false s):wpAny (model prog w) A (Builtin.List.listLengthHint (.ref d)) Q E s:=by
 unfold Builtin.List.listLengthHint
 refine wpAny_bind (wpAny_specialOf hT F.slot_dict_len.lookup ?_)
 generalize hid:("dict.__len__":String)=id0
 wp_delta
 refine (Eq.symm (show splitId id0=some ("dict","__len__") from by subst hid;decide+kernel))▸?_
 subst hid
 refine wpAny_bind (wpAny_isInstance (b:=true) hT isSubtype_dict_dict ?_)
 rw [if_neg (by decide)]
 wp_delta
 repeat (any_goals (first|assumption|wp_step))
theorem uL {Q:List Value→Shared→Prop}(hh:A.handled=none)(hsys:(d==sysModules)=false)(ho:s.heap.get? d=some (cW [] n))(h:∀h',lJ s.heap h'→Q [] {s with heap:=h'}):
  wpAny (model prog w) A (collect (.ref d)) Q E s:=by
 unfold collect
 refine wpAny_bind (wpAny_runValue (codeAny_builtin F.entry_proto_collect ?_))
 refine (Eq.symm (Around.under_plainId F.plain_proto_collect _))▸?_
 show wpAny _ A.in1 (newList []>>=fun l=>again (.builtin "list.__iadd__" ⟨[l,.ref d],[]⟩)) _ _ s
 refine wpAny_bind (wpAny_newObj_type (wpAny_pure ⟨plainId_quiet F.plain_list_iadd _,codeAny_builtin F.entry_list_iadd ?_⟩))
 refine (Eq.symm (Around.under_plainId F.plain_list_iadd _))▸?_
 show wpAny _ A.in1 (Builtin.List.listExtendWith (.ref s.heap.objs.size) (.ref d) (.ref s.heap.objs.size)) _ _ _
 have hne:d≠s.heap.objs.size:=Nat.ne_of_lt (Heap.lt_size ho)
 have ho1:(s.heap.push (cH [] 0)).get? d=some (cW [] n):=Heap.get?_push_of_some _ ho
 have hS1:(s.heap.push (cH [] 0)).get? s.heap.objs.size=some (cH [] 0):=Heap.get?_push_size _ rfl
 have hT1:Shared.TypeIs {s with heap:=s.heap.push (cH [] 0)} (.ref d) "dict":=⟨_,ho1,rfl⟩
 unfold Builtin.List.listExtendWith
 refine wpAny_bind (wpAny_typeOf hT1 ?_)
 have h1:Builtin.List.listSameRef (.ref s.heap.objs.size) (.ref d)=false:=by simp [Builtin.List.listSameRef,Ne.symm hne]
 rw [if_neg (by rw [h1];decide)]
 have hz1:(s.heap.push (cH [] 0)).objs.size=s.heap.objs.size+1:=Heap.size_push ..
 refine wpAny_bind (vF hsys ho1 ?_)
 refine wpAny_bind (wpAny_holding (HI ⟨_,Heap.get?_push_of_some _ ho1,rfl⟩ ?_))
 show wpAny _ A.in1 (rule "list.extend.makes-room">>=fun _=>Builtin.List.listTouch (.ref s.heap.objs.size)>>=fun _=>
  again (.builtin "list.extend.loop" ⟨[.ref s.heap.objs.size,.ref (s.heap.push (cH [] 0)).objs.size,.ref s.heap.objs.size],[]⟩)) _ _ {s with heap:=(s.heap.push (cH [] 0)).push (HH d n)}
 have hS2:=Heap.get?_push_of_some (h:=s.heap.push (cH [] 0)) (HH d n) hS1
 have hd2:=Heap.get?_push_of_some (h:=s.heap.push (cH [] 0)) (HH d n) ho1
 have hI2:=Heap.get?_push_size (s.heap.push (cH [] 0)) (o:=(HH d n)) rfl
 have hk2:lJ s.heap ((s.heap.push (cH [] 0)).push (HH d n)):=fun _ _ e=>Heap.get?_push_of_some _ (Heap.get?_push_of_some _ e)
 generalize (s.heap.push (cH [] 0)).push (HH d n)=h2 at hS2 hd2 hI2 hk2
 refine wpAny_bind (wpAny_rule (wpAny_bind ?_))
 show wpAny _ A.in1 (updateSeq s.heap.objs.size (·.push .none)>>=fun _=>updateSeq s.heap.objs.size (·.pop)) _ _ _
 refine wpAny_bind (wpAny_updateSeq hS2 rfl ?_)
 have hS3:=Heap.get?_update_self (Obj.mapSeq (·.push Value.none)) hS2 rfl
 refine wpAny_updateSeq hS3 rfl ?_
 have hS4:=Heap.get?_update_self (Obj.mapSeq (·.pop)) hS3 rfl
 have oth:∀b o,b≠s.heap.objs.size→h2.get? b=some o→((h2.update s.heap.objs.size (Obj.mapSeq (·.push Value.none))).update s.heap.objs.size (Obj.mapSeq (·.pop))).get? b=some o:=
  fun b o hb e=>(Heap.get?_update_other _ _ (Ne.symm hb)).trans ((Heap.get?_update_other _ _ (Ne.symm hb)).trans e)
 refine wpAny_pure ⟨plainId_quiet F.plain_extend_loop _,codeAny_builtin F.entry_extend_loop ?_⟩
 refine (Eq.symm (Around.under_plainId F.plain_extend_loop _))▸?_
 show wpAny _ A.in1 (pyNext (.ref (s.heap.push (cH [] 0)).objs.size)>>=_) _ _ _
 have hne2:(s.heap.push (cH [] 0)).objs.size≠s.heap.objs.size:=by refine (Eq.symm hz1)▸?_;exact Nat.succ_ne_self _
 refine wpAny_bind (EV (es:=[]) (i:=0) hh ⟨_,oth _ _ hne2 hI2,rfl,rfl⟩ (oth _ _ hne hd2) (Nat.zero_le _) fun h3 he3=>wpAny_pure ?_)
 have hS5:=he3 _ _ (Ne.symm hne2) hS4
 show wpAny _ A (load s.heap.objs.size>>=_) _ _ _
 refine wpAny_bind (wpAny_load hS5 (wpAny_pure ?_))
 refine h h3 fun b ob e=>?_
 have hlt:=Heap.lt_size e
 exact he3 _ _ (by refine (Eq.symm hz1)▸?_;exact Nat.ne_of_lt (Nat.lt_succ_of_lt hlt)) (oth _ _ (Nat.ne_of_lt hlt) (hk2 _ _ e))
theorem wZ {Q:Value→Shared→Prop}(hh:A.handled=none)(hsys:(d==sysModules)=false)(ho:s.heap.get? d=some (cW [] n))
  (h:∀h' hm a,lJ s.heap h'→lJ s.heap hm→hm.objs.size≤a→(∃k,h'.get? a=some (cH [] k))→Q (.ref a) {s with heap:=h'}):
  wpAny (model prog w) A (call (.builtin "sorted") [.ref d]) Q E s:=by
 refine Calls.call_function_entry kind_sorted plain_sorted entry_sorted (args_sorted1 _) ?_
 unfold Builtin.«sorted»
 refine wpAny_bind (m:=checkCount "sorted" 1 1 _) (wpAny_pure (wpAny_bind (uL hh hsys ho fun h1 he=>wpAny_bind (wpAny_newList ?_))))
 have hL:(h1.push (cH [] 0)).get? h1.objs.size=some (seqObj "list" ([]:List Value).toArray 0):=Heap.get?_push_size _ rfl
 refine wpAny_bind (wpAny_holding (wpAny_call_entry slot_list_sort ⟨_,hL,rfl⟩ entry_list_sort (list_sort_tree hL .nil (by decide) fun out ns' a1 a2 a3=>⟨_,rfl,?_⟩) (args_list_sort _)))
 have e0:out= #[]:=by
  have:ns'=[]:=by simpa using a2
  subst this
  generalize hq:out.toList=q at a1
  cases a1
  simpa using hq
 subst e0
 refine wpAny_pure ⟨_,rfl,?_⟩
 have hlt:h1.objs.size<(h1.push (cH [] 0)).objs.size:=by rw [Heap.size_push];omega
 unfold sortedHeap
 have e1:=Heap.get?_update_self (Obj.mapSeq fun _=>(#[]:Array Value)) hL rfl
 refine h _ h1 h1.objs.size (fun b ob e=>?_) he (Nat.le_refl _) ⟨_,Heap.get?_update_self (Obj.mapSeq fun _=>(#[]:Array Value)) (Heap.get?_push_of_some _ (Heap.get?_push_of_some _ e1)) rfl⟩
 have hb:=Ne.symm (Nat.ne_of_lt (Heap.lt_size (he _ _ e)))
 exact (Heap.get?_update_other _ _ hb).trans (Heap.get?_push_of_some _ (Heap.get?_push_of_some _ ((Heap.get?_update_other _ _ hb).trans (Heap.get?_push_of_some _ (he _ _ e)))))
end
section
variable {prog:Program}{w:World}{A:Around}{E:Value→Shared→Prop}{s:Shared}{g:Gh}{d a:Addr}{l:List (V×V)}{es:List DictEntry}{k y:V}{n:Nat}{β:Type}{q:Option V→Option β}{z:β}
theorem pO {α β:Type}(f:α→β):∀(l:List α) (i:Nat),(l.map f).eraseIdx i=(l.eraseIdx i).map f
 |[],_=>rfl
 |a::l,0=>rfl
 |a::l,i+1=>congrArg (f a:: ·) (pO f l i)
section
variable {w':List (V×V)}(hg:pH g s)(ho:s.heap.get? d=some (cW es n))(hr:kY w.params g es l)(hn:(l.map (·.1)).Nodup)(hk:Rp w.params g (.ref a) k)(hkk:cV k=true)(hsz:l.length≤sizeLine)(hw:wL k l=some w')
include hg ho hr hn hk hkk hsz hw
theorem xA {Q:Option DictEntry→Shared→Prop}(hu:A.units+64<cLine)(hz:jG k q l=some z)
  (h0:∀tk,q none=some z→w'=l→Q none {s with toks:=tk})
  (h1:∀h' tk es' n' e x,q (some x)=some z→Rp w.params g e.val x→Heap.SameBut d s.heap h'→h'.get? d=some (cW es' n')→kY w.params g es' w'→Q (some e) {s with heap:=h',toks:=tk}):
  wpAny (model prog w) A (Builtin.Dict.takeOut d (.ref a)) Q E s:=by
 refine aD (BN (prog:=prog) hr) fun xs hx ai7=>?_;subst ai7
 have hkey:(gV prog w).is s.heap k a:=⟨Rp.mono hk hg,hkk⟩
 have hnx:(xs.map (·.1)).Nodup:=by rw [jP hx];exact hn
 have hlen:xs.length=l.length:=by rw [←List.length_map (f:=(·.1)),jP hx,List.length_map]
 refine iK (EU hx hn hw) fun _ d2 d3=>?_
 unfold Builtin.Dict.takeOut
 try with_reducible refine wpAny_holding ?_
 refine wpAny_bind ((gV prog w).pyHash hu hkey ?_)
 refine wpAny_bind (wpAny_dictFind_heap (knd:=gV prog w) (s:={s with toks:=s.toks+(gV prog w).draws k}) (xs:=xs) hu hkey ho rfl (by simp) (KV hg hx) hnx ?_ ?_)
 ·intro hno
  have e:=PySem.atKey_none_of_get hno
  exact wpAny_pure (pM (fun b v y e1 _ _=>by rw [e] at e1;cases e1) (fun _ hq=>h0 _ hq (d2 e)) hx hz)
 ·intro j p hj
  refine wpAny_bind (wpAny_dictEntries (s:={s with toks:=s.toks+(gV prog w).draws k}) ho rfl ?_)
  have hat:(xs.map (entryOfKey (gV prog w))).toArray[j]? =some (entryOfKey (gV prog w) (k,p)):=by simp [hj]
  rw [hat]
  have hsz':(xs.map (entryOfKey (gV prog w))).toArray.size≤sizeLine:=by rw [List.size_toArray,List.length_map,hlen];exact hsz
  refine wpAny_bind (wpAny_updateDictKeys (hz:=hsz') (s:={s with toks:=s.toks+(gV prog w).draws k}) ho rfl (wpAny_pure ?_))
  have hu:=Heap.get?_update_self (Obj.mapDictKeys (·.eraseIdxIfInBounds j)) ho rfl
  have e2:=PySem.atKey_of_get hnx hj
  refine pM (fun b v x e1 rv hq=>?_) (fun e1 _=>?_) hx hz
  ·rw [e2] at e1;cases e1
   exact h1 _ _ ((xs.eraseIdx j).map (entryOfKey (gV prog w))) (n+1) _ x hq rv (Heap.SameBut.update ..) (by rw [hu];simp [Obj.mapDictKeys];exact pO _ _ _) (BP (d3 j _ hj))
  ·rw [e2] at e1;cases e1
theorem KZ {dflt:Value}{K:V→Option β}{Q:Value→Shared→Prop}(hu:A.units+66<cLine)(hsys:(d==sysModules)=false)(hd:Rp w.params g dflt y)(hz:jG k (fun o=>K (o.getD y)) l=some z)
  (h:∀h' tk es' n' r x,K x=some z→Rp w.params g r x→Heap.SameBut d s.heap h'→h'.get? d=some (cW es' n')→kY w.params g es' w'→Q r {s with heap:=h',toks:=tk}):
  wpAny (model prog w) A (call (.builtin "dict.pop") [.ref d,.ref a,dflt]) Q E s:=by
 have main:MeetsIn prog w (Builtin.«dict.pop» ⟨[.ref d,.ref a,dflt],[]⟩) (fun A' R s'=>s'=s∧A'.units+65<cLine∧
   (∀h' tk es' n' r x,K x=some z→Rp w.params g r x→Heap.SameBut d s.heap h'→h'.get? d=some (cW es' n')→kY w.params g es' w'→R (.ok (.ret r)) {s with heap:=h',toks:=tk})):=
  .of_wp fun A' R s' ⟨e,hu',hR⟩=>by
   subst e
   have hu'':A'.in1.units+64<cLine:=by show A'.units+1+64<cLine;omega
   unfold Builtin.«dict.pop»
   refine wpAny_bind ?_
   unfold Builtin.Dict.keyAndDefault
   refine wpAny_bind (wpAny_notOrdered_dict ⟨_,ho,rfl⟩ ?_)
   show wpAny _ _ (pure (d,Value.ref a,some dflt)) _ _ s'
   refine wpAny_pure ?_
   dsimp only [show (keyPart (.ref a)).isSome=false from rfl,Bool.false_eq_true,if_false]
   refine wpAny_bind (m:=dictEntries d) (wpAny_dictEntries ho rfl (wpAny_bind (wpAny_pure ?_)))
   cases he:es.toArray.isEmpty with
   |true=>
    have e0:es=[]:=by simpa using he
    subst e0
    cases l with
    |cons p l=>refine mG hr fun _ _ _ q _=>?_;cases q
    |nil=>
     cases hw
     simp only [if_true]
     refine wpAny_bind (wpAny_rule (wpAny_bind (wpAny_pure ?_)))
     dsimp only [Option.isNone_none,if_true]
     refine wpAny_bind (wpAny_missedRemoval_other hsys ?_)
     exact wpAny_bind (wpAny_rule (wpAny_pure ⟨_,rfl,hR s'.heap s'.toks [] n _ _ hz hd (Heap.SameBut.refl ..) ho rfl⟩))
   |false=>
    simp only [Bool.false_eq_true,if_false]
    refine wpAny_bind (xA hg ho hr hn hk hkk hsz hw hu'' hz (fun tk hq e=>?_) fun h' tk es' n' e x hq hv hs hd' hr'=>?_)
    ·subst e
     dsimp only [Option.isNone_none,if_true]
     refine wpAny_bind (wpAny_missedRemoval_other hsys ?_)
     exact wpAny_bind (wpAny_rule (wpAny_pure ⟨_,rfl,hR s'.heap tk es n _ _ hq hd (Heap.SameBut.refl ..) ho hr⟩))
    ·dsimp only [Option.isNone_some,Bool.false_eq_true,if_false]
     exact wpAny_bind (wpAny_letGo (wpAny_pure ⟨_,rfl,hR h' tk es' n' _ _ hq hv hs hd' hr'⟩))
 exact call_meetsIn F.slot_dict_pop ⟨_,ho,rfl⟩ F.entry_dict_pop (F.args_dict_pop_3 _ _ _) main ⟨rfl,Nat.lt_of_succ_lt (by assumption),h⟩
end
end
section
variable {β:Type}{z:β}{x y:V}{k:V→Option β}
theorem HJ {o:BO}(h:dQ o x y k=some z):∃v,k v=some z:=by
 cases o with
 |add=>exact uX (M:=fun _ _=>∃v,k v=some z) h (fun _ _ q=>⟨_,q⟩) (fun _ _ _ q=>⟨_,q⟩) fun _ _ _ q=>⟨_,q⟩
 |sub=>exact uY (M:=fun _ _=>∃v,k v=some z) h (fun _ _ q=>⟨_,q⟩) fun _ _ q=>⟨_,q⟩
 |mul=>exact uZ (M:=fun _ _=>∃v,k v=some z) h (fun _ _ _ q=>⟨_,q⟩) fun _ _ _ _ q=>⟨_,q⟩
 |fdiv=>exact sW (M:=fun _ _=>∃v,k v=some z) h fun _ _ _ _ q=>⟨_,q⟩
 |mod=>exact vA (M:=fun _ _=>∃v,k v=some z) h fun _ _ _ q=>⟨_,q⟩
 |pow=>exact vC (M:=fun _ _=>∃v,k v=some z) h fun _ _ _ _ q=>⟨_,q⟩
theorem HK {o:CO}(h:bQ o x y k=some z):∃v,k v=some z:=by
 cases o with
 |eq=>exact pI (M:=fun _ _=>∃v,k v=some z) (show (uH x y fun t=>k (.bool t))=some z from h) (fun _ _ q=>⟨_,q⟩) fun _ _ _ _ _ _ q=>⟨_,q⟩
 |ne=>exact pI (M:=fun _ _=>∃v,k v=some z) (show (uH x y fun t=>k (.bool (not t)))=some z from h) (fun _ _ q=>⟨_,q⟩) fun _ _ _ _ _ _ q=>⟨_,q⟩
 |lt=>exact eR (M:=fun _ _=>∃v,k v=some z) (show (uU x y fun t=>k (.bool t))=some z from h) fun _ _ q=>⟨_,q⟩
 |gt=>exact eR (M:=fun _ _=>∃v,k v=some z) (show (uU y x fun t=>k (.bool t))=some z from h) fun _ _ q=>⟨_,q⟩
 |le=>exact eR (M:=fun _ _=>∃v,k v=some z) (show (uU y x fun t=>k (.bool (not t)))=some z from h) fun _ _ q=>⟨_,q⟩
 |ge=>exact eR (M:=fun _ _=>∃v,k v=some z) (show (uU x y fun t=>k (.bool (not t)))=some z from h) fun _ _ q=>⟨_,q⟩
theorem vH {n:Nat}(h:yX x n k=some z):∃v,k v=some z:=by
 cases x with
 |tup l=>refine aD (aQ (aA h).2) fun v _ q=>?_;exact ⟨v,q⟩
 |lst l=>refine aD (aQ (aA h).2) fun v _ q=>?_;exact ⟨v,q⟩
 |_=>exact no h
theorem vI {l:List V}{i:Int}(h:SO l i k=some z):∃v,k v=some z:=by
 cases i with
 |ofNat n=>refine aD (aQ (aA h).2) fun v _ q=>?_;exact ⟨v,q⟩
 |negSucc n=>refine aD (aQ (aA (aA h).2).2) fun v _ q=>?_;exact ⟨v,q⟩
theorem lQ {l:List (V×V)}{q:Option V→Option β}(h:jG x q l=some z):∃o,q o=some z:=by
 induction l with
 |nil=>exact ⟨_,h⟩
 |cons p l ih=>
  refine aD (aQ (show (lK 8 p.1 x).bind (fun t=>cond t (q (some p.2)) (jG x q l))=some z from h)) fun c _ e=>?_
  cases c with
  |true=>exact ⟨_,e⟩
  |false=>exact ih e
theorem BT (h:sP x y k=some z):∃v,k v=some z:=by
 cases x with
 |lst l=>cases y with
  |int i=>exact vI h
  |_=>exact no h
 |tup l=>cases y with
  |int i=>cases i with
   |ofNat n=>exact vH (x:=.tup l) (n:=n) h
   |negSucc n=>exact no h
  |_=>exact no h
 |dct l=>
  obtain ⟨o,e⟩:=lQ (aA h).2
  cases o with
  |some v=>exact ⟨v,e⟩
  |none=>exact no e
 |_=>exact no h
theorem LB {b:B1}(h:kU b x k=some z):∃v,k v=some z:=by
 cases b with
 |len=>cases x with
  |lst l=>exact ⟨_,(aA h).2⟩
  |tup l=>exact ⟨_,(aA h).2⟩
  |_=>exact no h
 |abs=>cases x with
  |int l=>exact ⟨_,h⟩
  |_=>exact no h
 |tuple=>cases x with
  |lst l=>exact ⟨_,(aA h).2⟩
  |_=>exact no h
 |list=>cases x with
  |lst l=>exact ⟨_,(aA h).2⟩
  |tup l=>exact ⟨_,(aA h).2⟩
  |_=>exact no h
 |sum=>cases x with
  |lst l=>refine aD (aQ (aA h).2) fun v _ q=>?_;exact ⟨_,q⟩
  |_=>exact no h
theorem LC {b:B2}(h:EL b x y k=some z):∃v,k v=some z:=by
 cases b with
 |min=>exact eR (M:=fun _ _=>∃v,k v=some z) (show (uU y x fun t=>k (cond t y x))=some z from h) fun _ _ q=>⟨_,q⟩
 |max=>exact eR (M:=fun _ _=>∃v,k v=some z) (show (uU x y fun t=>k (cond t y x))=some z from h) fun _ _ q=>⟨_,q⟩
theorem vJ {m n:Int}{k:List V→Option β}(h:BI m n k=some z):∃l,k l=some z:=⟨_,(aA (aA (aA (aA h).2).2).2).2⟩
end
section
variable {C:CF}{G:List V}
theorem lC {β:Type}:∀{n:Nat} {σ:Fm} {f:Fm→Option β} {z:β},iV n σ f=some z→σ.length=n∧f σ=some z:=fun {n}=>by
 induction n with
 |zero=>intro σ f z h;cases σ with
  |nil=>exact ⟨rfl,h⟩
  |cons _ _=>exact no h
 |succ n ih=>intro σ f z h;cases σ with
  |nil=>exact no h
  |cons s r=>refine aG (ih (f:=fun t=>f (s::t)) h) fun e q=>?_;exact ⟨congrArg (· +1) e,q⟩
abbrev ES (C:CF) (G:List V) (e:E):Prop:=∀{β:Type} {ρ:Fm} {k:V→Fm→Option β} {z:β},kE C G e β ρ k=some z→∃v ρ',k v ρ'=some z
theorem LD {β:Type}{s:aF}{f:List V→Option β}{g:List (V×V)→Option β}{z:β}(h:(match (generalizing:=false) s with|.l xs=>f xs|.d kvs=>g kvs|_=>none)=some z):(∃xs,s=.l xs∧f xs=some z)∨∃kvs,s=.d kvs∧g kvs=some z:=by
 cases s with
 |l xs=>exact .inl ⟨xs,rfl,h⟩
 |d xs=>exact .inr ⟨xs,rfl,h⟩
 |_=>exact no h
theorem TJ {β:Type}{s:aF}{f:List V→Option β}{z:β}(h:(match (generalizing:=false) s with|.l xs=>f xs|_=>none)=some z):∃xs,s=.l xs∧f xs=some z:=by
 cases s with
 |l xs=>exact ⟨xs,rfl,h⟩
 |_=>exact no h
theorem zC {β:Type}{s:aF}{f:List (V×V)→Option β}{z:β}(h:(match (generalizing:=false) s with|.d xs=>f xs|_=>none)=some z):∃xs,s=.d xs∧f xs=some z:=by
 cases s with
 |d xs=>exact ⟨xs,rfl,h⟩
 |_=>exact no h
theorem aeC {β:Type}{s:aF}{f:V→Option β}{z:β}(h:(match (generalizing:=false) s with|.v xs=>f xs|_=>none)=some z):∃xs,s=.v xs∧f xs=some z:=by
 cases s with
 |v xs=>exact ⟨xs,rfl,h⟩
 |_=>exact no h
theorem kO {β:Type}{s:V}{f:Int→Option β}{z:β}(h:(match (generalizing:=false) s with|.int i=>f i|_=>none)=some z):∃i,s=.int i∧f i=some z:=by
 cases s with
 |int xs=>exact ⟨xs,rfl,h⟩
 |_=>exact no h
theorem ZX {β:Type}{s:V}{f:Nat→Option β}{z:β}(h:(match (generalizing:=false) s with|.str i=>f i|_=>none)=some z):∃i,s=.str i∧f i=some z:=by
 cases s with
 |str xs=>exact ⟨xs,rfl,h⟩
 |_=>exact no h
theorem BU {β:Type}{s:V}{f:List V→Option β}{z:β}(h:(match (generalizing:=false) s with|.lst i=>f i|_=>none)=some z):∃i,s=.lst i∧f i=some z:=by
 cases s with
 |lst xs=>exact ⟨xs,rfl,h⟩
 |_=>exact no h
mutual
theorem bA:∀(e:E),ES C G e
 |.bad=>fun h=>no h
 |.none=>fun h=>(bW _ _ h)
 |.bool _=>fun h=>(bW _ _ h)
 |.int _=>fun h=>(bW _ _ h)
 |.str _=>fun h=>(bW _ _ h)
 |.var i=>fun h=>aD (aeC (s:=Fm.at _ i) h) fun x _ q=>(bW x _ q)
 |.frz i=>fun h=>(LD (s:=Fm.at _ i) h).elim (fun g=>aD g fun _ _ q=>bW _ _ q) fun g=>aD g fun _ _ q=>bW _ _ q
 |.glob g=>fun h=>aD (aQ h) fun x _ q=>bW x _ q
 |.bin _ a b=>fun h=>bD (bA a h) fun _ _ h=>bD (bA b h) fun _ _ h=>Exists.elim (HJ h) fun v q=>bW v _ q
 |.neg a=>fun h=>bD (bA a h) fun _ _ h=>aD (kO h) fun _ _ q=>bW _ _ q
 |.not a=>fun h=>bD (bA a h) fun x _ h=>gU (M:=fun _=>_) h fun _ q=>bW _ _ q
 |.cmp _ a b=>fun h=>bD (bA a h) fun _ _ h=>bD (bA b h) fun _ _ h=>Exists.elim (HK h) fun v q=>bW v _ q
 |.isN a=>fun h=>bD (bA a h) fun _ _ h=>bW _ _ h
 |.inS _ a _=>fun h=>bD (bA a h) fun _ _ h=>aD (ZX h) fun _ _ q=>bW _ _ q
 |.and _=>fun h=>aD (aQ (aA h).2) fun v _ q=>(bW v _ q)
 |.or _=>fun h=>aD (aQ (aA h).2) fun v _ q=>(bW v _ q)
 |.ite t _ _=>fun h=>bD (bA t (aA h).2) fun _ _ h=>gU (M:=fun _=>_) h fun _ q=>aD (aQ q) fun v _ q=>bW v _ q
 |.tup es=>fun h=>bD (lD es h) fun _ _ h=>bW _ _ h
 |.lst es=>fun h=>bD (lD es h) fun _ _ h=>bW _ _ h
 |.dct0=>fun h=>(bW _ _ h)
 |.dct1 a b=>fun h=>bD (bA a h) fun _ _ h=>bD (bA b h) fun _ _ h=>⟨_,_,(aA h).2⟩
 |.subN a _=>fun h=>bD (bA a h) fun _ _ h=>Exists.elim (vH h) fun v q=>bW v _ q
 |.sub a i=>fun h=>bD (bA a h) fun _ _ h=>bD (bA i h) fun _ _ h=>Exists.elim (BT h) fun v q=>bW v _ q
 |.subO n i=>fun h=>bD (bA i (aA h).2) fun _ _ h=>aD (TJ (s:=Fm.at _ n) h) fun _ _ h=>aD (kO h) fun _ _ h=>Exists.elim (vI h) fun v q=>bW v _ q
 |.slcLo a i=>fun h=>bD (bA a h) fun _ _ h=>bD (bA i h) fun _ _ h=>aD (aQ h) fun v _ q=>bW v _ q
 |.slcHi a i=>fun h=>bD (bA a h) fun _ _ h=>bD (bA i h) fun _ _ h=>aD (aQ h) fun v _ q=>bW v _ q
 |.call _ es=>fun h=>bD (lD es h) fun _ _ h=>aD (aQ h) fun _ _ q=>bW _ _ q
 |.callO _ n es=>fun h=>bD (lD es (aA h).2) fun _ _ h=>(LD (s:=Fm.at _ n) h).elim (fun g=>aD g fun _ _ h=>aD (aQ h) fun _ _ q=>bW _ _ q) fun g=>aD g fun _ _ h=>aD (aQ h) fun _ _ q=>bW _ _ q
 |.bi1 _ a=>fun h=>bD (bA a h) fun _ _ h=>Exists.elim (LB h) fun v q=>bW v _ q
 |.bi2 _ a b=>fun h=>bD (bA a h) fun _ _ h=>bD (bA b h) fun _ _ h=>Exists.elim (LC h) fun v q=>bW v _ q
 |.dget n a b=>fun h=>bD (bA a (aA h).2) fun _ _ h=>bD (bA b h) fun _ _ h=>aD (zC (s:=Fm.at _ n) h) fun _ _ h=>Exists.elim (lQ (aA h).2) fun _ q=>bW _ _ q
 |.dpop n a b=>fun h=>bD (bA a (aA h).2) fun _ _ h=>bD (bA b h) fun _ _ h=>aD (zC (s:=Fm.at _ n) h) fun _ _ h=>Exists.elim (lQ (aA (aA h).2).2) fun _ q=>aD (aQ q) fun _ _ q=>bW _ _ q
 |.comp nv s ifs elt=>fun h=>by
  have fin:∀{β:Type} {z:β} {c:Bool} {a b:Option β},cond c a b=some z→a=some z∨b=some z:=fun {β z c a b} h=>by cases c with|true=>exact .inl h|false=>exact .inr h
  rcases fin h with h|h
  ·refine bD (zD s h) fun _ _ h=>?_
   refine aD (aQ h) fun _ _ h=>?_
   exact (bW _ _ ((aA (aA h).2).2))
  ·refine bD (zD s h) fun _ _ h=>?_
   refine aD (aQ h) fun _ _ h=>?_
   exact (bW _ _ ((lC (aA h).2).2))
 |.rank a=>fun h=>bD (bA a h) fun _ _ h=>aD (aQ h) fun v _ q=>bW v _ q
theorem lD:∀(es:List E) {β:Type} {ρ:Fm} {k:List V→Fm→Option β} {z:β},cL C G es β ρ k=some z→∃v ρ',k v ρ'=some z
 |[]=>fun h=>(bW _ _ h)
 |e::r=>fun h=>bD (bA e h) fun _ _ h=>bD (lD r h) fun _ _ h=>bW _ _ h
theorem zD:∀(s:Sr) {β:Type} {ρ:Fm} {k:List V→Fm→Option β} {z:β},jW C G s β ρ k=some z→∃v ρ',k v ρ'=some z
 |.val a=>fun h=>bD (bA a h) fun _ _ h=>aD (aQ h) fun _ _ q=>bW _ _ q
 |.rng1 a=>fun h=>bD (bA a h) fun _ _ h=>aD (kO h) fun _ _ h=>Exists.elim (vJ h) fun _ q=>bW _ _ q
 |.rng2 a b=>fun h=>bD (bA a h) fun _ _ h=>bD (bA b h) fun _ _ h=>aD (kO h) fun _ _ h=>aD (kO h) fun _ _ h=>Exists.elim (vJ h) fun _ q=>bW _ _ q
 |.enm a=>fun h=>bD (bA a h) fun _ _ h=>aD (BU h) fun _ _ q=>bW _ _ q
 |.itm n=>fun h=>aD (zC (s:=Fm.at _ n) h) fun _ _ q=>(bW _ _ q)
 |.srtE n=>fun h=>by
  refine aD (zC (s:=Fm.at _ n) h) fun l _ q=>?_
  cases l with
  |nil=>exact (bW _ _ q)
  |cons _ _=>exact no q
end
end
section
variable {K:Ct}{ns:fJ}{Γ:eO}
theorem aeD (K:Ct):K.A.units+64<cLine:=by have:=K.hu;lia
theorem LE (K:Ct):K.A.units+66<cLine:=by have:=K.hu;lia
abbrev qK {K:Kx} (B:Bs K) (σ:Pt):pH (gS B σ) σ.s:=fun _ _ g=>g.1
noncomputable def ZY:E→Nat
 |.bad=>0
 |.comp ..=>1
 |.tup _=>2
 |_=>3
noncomputable def bc (e:E):Bool:=Nat.ble (ZY e) 1
noncomputable def bt (e:E):Bool:=Nat.ble (ZY e) 2
structure cM (K:Ct)(ns:fJ)(Γ:eO)(e:E)(pe:Expr):Prop where
 ev:bH K ns Γ e pe
 t:kM K ns Γ e pe
 px:e=.bad∨PX pe
 sw:bc e=true∨∀t l env,swapsWith pe t l env=pure false
 un:bt e=true∨∀ts k p l env,swapsWithSole [.Tuple ts k p] pe l env=pure false∧swappedStores [.Tuple ts k p] pe env=pure none
def PlT (pe:Expr):Prop:=∀{M A env} {whole:Sem Value} {Q E s},wpAny M A whole (fun v s₁=>wpAny M A (truthy v) Q E s₁) E s→wpAny M A (isTrue pe env whole) Q E s
theorem TK {B:eA K ns Γ}{σ:Pt}{pu:Bool}{β:Type}{k:V→Fm→Option β}{z:β}{Q:Bool→Shared→Prop}{E:Value→Shared→Prop}(hb:∀x ρ,k x ρ=some z→∃t,x=.bool t)(hp:∀σ' t,eC B.toBs pu σ σ'→k (.bool t) σ'.ρ=some z→Q t σ'.s):
  ∀σ' v x,eC B.toBs pu σ σ'→Vl B.toBs σ' v x→k x σ'.ρ=some z→wpAny K.M K.A (truthy v) Q E σ'.s:=fun σ' v x G r hk=>by
 refine aT (hb x _ hk) fun t ai9=>?_;subst ai9
 exact wU r (hp σ' t G hk)
theorem pP {β:Type}{f:Bool→Fm→Option β}{z:β}(x:V)(ρ:Fm)(h:(fD x fun t=>f t ρ)=some z):∃t,x=.bool t:=gU (M:=fun x=>∃t,x=.bool t) h fun t _=>⟨t,rfl⟩
theorem cM.pl {e:E}{pe:Expr}(h:bH K ns Γ e pe)(t:PlT pe)(p:PX pe)(sw:bc e=true∨∀t l env,swapsWith pe t l env=pure false)(un:bt e=true∨∀ts k p l env,swapsWithSole [.Tuple ts k p] pe l env=pure false∧swappedStores [.Tuple ts k p] pe env=pure none):cM K ns Γ e pe:=
 ⟨h,fun B σ β k z Q E hb S hev hp=>t (h B σ β k z _ E S hev (TK hb hp)),.inr p,sw,un⟩
theorem cM.bad {pe:Expr}:cM K ns Γ .bad pe:=⟨SS,fun _ _ _ _ _ _ _ _ _ hev _=>(nomatch hev),.inl rfl,.inl rfl,.inl rfl⟩
theorem cM.plain {e:E}{pe:Expr}(h:cM K ns Γ e pe){C:CF}{β:Type}{ρ:Fm}{k:V→Fm→Option β}{z:β}(hev:kE C Internal.glb e β ρ k=some z):PX pe:=h.px.elim (fun q=>by subst q;exact no hev) id
structure auX (K:Ct)(ns:fJ)(Γ:eO)(es:List E)(pes:List Expr):Prop where
 all:nM K ns Γ es pes
 len:pes.length=es.length
theorem BV:nM K ns Γ [] []:=fun _ _ _ _ _ _ _ _ S hev hp=>args_nil (hp _ [] [] (.here S _) rfl rfl hev)
theorem zE {e:E}{r:List E}{p:Expr}{t:List Expr}(he:cM K ns Γ e p)(hr:nM K ns Γ r t):nM K ns Γ (e::r) (p::t):=fun B σ β k z Q E pos S hev hp=>
 args_cons (he.ev B σ β _ z _ E S hev fun σ1 v1 x1 g1 r1 k1=>hr B σ1 β _ z _ E pos g1.S k1 fun σ2 vs xs g2 r2 hl k2=>hp σ2 _ _ (g1.trans g2) (.cons (r1.mono g2.g) r2) (congrArg (· +1) hl) k2) (bN (he.plain hev) _ _)
theorem TL {a p pos}(ha:bH K ns Γ a p):bH K ns Γ (.neg a) (.UnaryOp .USub p pos):=fun B σ β k z Q E S hev hp=>
 wpAny_UnaryOp (ha B σ β _ z _ E S hev fun σ1 v1 x1 g1 r1 k1=>by
  cases x1 with
  |int i=>obtain ⟨_,rfl⟩:=r1;exact neg_int (uE.at (g1.nw hp) k1 ⟨_,rfl⟩)
  |_=>exact no k1)
theorem TM {a p pos}(ha:bH K ns Γ a p):bH K ns Γ (.not a) (.UnaryOp .Not p pos):=fun B σ β k z Q E S hev hp=>
 wpAny_UnaryOp (ha B σ β _ z _ E S hev fun σ1 v1 x1 g1 r1 k1=>gU (M:=fun x=>Vl B.toBs σ1 v1 x→_) k1 (fun t q r=>not_of (wU r (hp σ1 _ (.bool (not t)) g1 rfl q))) r1)
theorem LF {a p pos}(ha:kM K ns Γ a p):kM K ns Γ (.not a) (.UnaryOp .Not p pos):=fun B σ β k z Q E _ S hev hp=>
 isTrue_not (ha B σ β _ z _ E (pP (f:=fun t ρ=>k (.bool (not t)) ρ)) S hev fun σ1 t g1 k1=>hp σ1 _ g1 k1)
theorem TN {o a b p q pos}(ha:bH K ns Γ a p)(hb:bH K ns Γ b q):bH K ns Γ (.bin o a b) (.BinOp p (ZT o) q pos):=fun B σ β k z Q E S hev hp=>
 wpAny_BinOp (ha B σ β _ z _ E S hev fun σ1 v1 x1 g1 r1 k1=>hb B σ1 β _ z _ E g1.S k1 fun σ2 v2 x2 g2 r2 k2=>ZU (qK B.toBs σ2) (r1.mono g2.g) r2 k2 ((g1.trans g2).nw hp))
theorem oR (o:CO)(r:Expr):behindInMarks (uK o) r=false:=by
 have e:(uK o==.In||uK o==.NotIn)=false:=by cases o<;>rfl
 cases r with
 |Set l k p=>show (k==0 && (uK o==.In||uK o==.NotIn) && l.all (constantsAlone 8))=false;rw [e,Bool.and_false];rfl
 |_=>rfl
theorem zF {o a b p q}(ha:bH K ns Γ a p)(hb:bH K ns Γ b q){B:eA K ns Γ}{σ:Pt}{β:Type}{k:V→Fm→Option β}{z:β}{Q:Value→Shared→Prop}{E:Value→Shared→Prop}(S:gZ B.toBs σ)(hev:kE K.C Internal.glb (.cmp o a b) β σ.ρ k=some z)
  (hp:∀σ' v x,eC B.toBs (aL (.cmp o a b)) σ σ'→Vl B.toBs σ' v x→k x σ'.ρ=some z→Q v σ'.s):
  wpAny K.M K.A (eval p B.env) (fun u s₁=>wpAny K.M K.A (eval q B.env) (fun v s₂=>wpAny K.M K.A (compareOp (uK o) u v) Q E s₂) E s₁) E σ.s:=
 ha B σ β _ z _ E S hev fun σ1 v1 x1 g1 r1 k1=>hb B σ1 β _ z _ E g1.S k1 fun σ2 v2 x2 g2 r2 k2=>KL (qK B.toBs σ2) (aeD K) (r1.mono g2.g) r2 k2 ((g1.trans g2).nw hp)
theorem TO {o a b p q pos}(ha:bH K ns Γ a p)(hb:bH K ns Γ b q):bH K ns Γ (.cmp o a b) (.Compare p [uK o] [q] pos):=fun B σ β k z Q E S hev hp=>
 wpAny_Compare1 (zF ha hb S hev hp) (oR o _)
theorem LG {o a b p q pos}(ha:bH K ns Γ a p)(hb:bH K ns Γ b q):kM K ns Γ (.cmp o a b) (.Compare p [uK o] [q] pos):=fun B σ β k z Q E ht S hev hp=>
 wpAny_isTrue_Compare1 (zF ha hb S hev (TK ht hp)) (oR o _)
theorem zG {a p c pos}(ha:bH K ns Γ a p){B:eA K ns Γ}{σ:Pt}{β:Type}{k:V→Fm→Option β}{z:β}{Q:Value→Shared→Prop}{E:Value→Shared→Prop}(S:gZ B.toBs σ)(hev:kE K.C Internal.glb (.isN a) β σ.ρ k=some z)
  (hp:∀σ' v x,eC B.toBs (aL a) σ σ'→Vl B.toBs σ' v x→k x σ'.ρ=some z→Q v σ'.s):
  wpAny K.M K.A (eval p B.env) (fun u s₁=>wpAny K.M K.A (eval (.Constant .none c pos) B.env) (fun v s₂=>wpAny K.M K.A (compareOp .Is u v) Q E s₂) E s₁) E σ.s:=
 ha B σ β _ z _ E S hev fun σ1 v1 x1 g1 r1 k1=>Constant_none (ad7 (k:=fun x=>k x σ1.ρ) k1 r1 (g1.nw hp))
theorem TP {a p c pos pos'}(ha:bH K ns Γ a p):bH K ns Γ (.isN a) (.Compare p [.Is] [.Constant .none c pos'] pos):=fun B σ β k z Q E S hev hp=>wpAny_Compare1 (zG ha S hev hp) rfl
theorem LI {a p c pos pos'}(ha:bH K ns Γ a p):kM K ns Γ (.isN a) (.Compare p [.Is] [.Constant .none c pos'] pos):=fun B σ β k z Q E ht S hev hp=>
 wpAny_isTrue_Compare1 (zG ha S hev (TK ht hp)) rfl
inductive uM:List Nat→List Expr→Prop
 |nil:uM [] []
 |cons {n l t c p}:n<27→uM l t→uM (n::l) (.Constant (.str (nm n)) c p::t)
theorem uM.ok {l ts}(h:uM l ts):(∀m∈l,m<27)∧ts.length=l.length:=by
 induction h with
 |nil=>exact ⟨fun _ h=>(nomatch h),rfl⟩
 |cons h _ ih=>exact ⟨fun m hm=>(List.mem_cons.mp hm).elim (fun e=>e▸h) (ih.1 m),congrArg (· +1) ih.2⟩
theorem TQ {l ts}(h:uM l ts){pos:Pos}{env:Env}{A:Around}{g:Gh}{E:Value→Shared→Prop}:∀{s:Shared} {Q:List Value→Shared→Prop},(∀tk vs,bP K.w.params g vs (l.map V.str)→Q vs {s with toks:=tk})→
  wpAny K.M A (spliced (backTo pos (starEach ts env))) Q E s:=by
 induction h with
 |nil=>exact fun {s Q} hq=>args_nil (hq s.toks [] .nil)
 |cons hn _ ih=>exact fun {s Q} hq=>args_cons (wpAny_Constant_str (ih fun tk vs hv=>hq tk _ (.cons ⟨hn,_,rfl⟩ hv))) rfl
theorem zH {p a l pa ts c tpos}(ha:bH K ns Γ a pa)(hs:uM l ts)(hlen:Nat.ble l.length mH=true){B:eA K ns Γ}{σ:Pt}{β:Type}{k:V→Fm→Option β}{z:β}{Q:Value→Shared→Prop}{E:Value→Shared→Prop}(S:gZ B.toBs σ)(hev:kE K.C Internal.glb (.inS p a l) β σ.ρ k=some z)
  (hp:∀σ' v x,eC B.toBs (aL a) σ σ'→Vl B.toBs σ' v x→k x σ'.ρ=some z→Q v σ'.s):
  wpAny K.M K.A (eval pa B.env) (fun u s₁=>wpAny K.M K.A (eval (.Tuple ts c tpos) B.env) (fun v s₂=>wpAny K.M K.A (compareOp (KO p) u v) Q E s₂) E s₁) E σ.s:=
 ha B σ β _ z _ E S hev fun σ1 v1 x1 g1 r1 k1=>by
  cases x1 with
  |str n=>
   refine wpAny_Tuple (TQ (g:=gS B.toBs σ1) hs fun tk vs hv=>⟨by rw [bP.length hv,List.length_map];exact iP hlen,?_⟩)
   let σ2:Pt:=σ1.to (σ1.s.heap.push (yV vs)) tk
   have g2:eC B.toBs true σ1 σ2:=.new g1.S tk bF
   exact ad8 (s:=σ2.s) (g:=gS B.toBs σ2) (k:=fun x=>k x σ1.ρ) hs.ok.1 (Rp.mono r1 g2.g) (Heap.get?_push_size _ rfl) (bP.mono hv g2.g) k1 ((g1.thenP g2).nw hp)
  |_=>exact no k1
theorem TR {p a l pa ts c tpos pos}(ha:bH K ns Γ a pa)(hs:uM l ts)(hlen:Nat.ble l.length mH=true):bH K ns Γ (.inS p a l) (.Compare pa [KO p] [.Tuple ts c tpos] pos):=fun B σ β k z Q E S hev hp=>
 wpAny_Compare1 (zH ha hs hlen S hev hp) (by cases p<;>rfl)
theorem LJ {p a l pa ts c tpos pos}(ha:bH K ns Γ a pa)(hs:uM l ts)(hlen:Nat.ble l.length mH=true):kM K ns Γ (.inS p a l) (.Compare pa [KO p] [.Tuple ts c tpos] pos):=fun B σ β k z Q E ht S hev hp=>
 wpAny_isTrue_Compare1 (zH ha hs hlen S hev (TK ht hp)) (by cases p<;>rfl)
theorem eC.pure {K:Kx}{B:Bs K}{pu b:Bool}{σ σ1:Pt}(g:eC B pu σ σ1)(h:pu=true):eC B b σ σ1:=⟨g.S,g.w,g.u,fun _=>g.p h⟩
theorem aeE {a b c:Bool}(h:(a && b && c)=true):a=true∧b=true∧c=true:=by
 rw [Bool.and_eq_true,Bool.and_eq_true] at h;exact ⟨h.1.1,h.1.2,h.2⟩
theorem EW {t:Bool}(x:V)(ρ:Fm)(h:(fun (v:V) (_:Fm)=>some v) x ρ=some (.bool t)):∃t,x=.bool t:=⟨t,Option.some.inj h⟩
theorem TS {t a b pt pa pb pos}(ht:kM K ns Γ t pt)(ha:bH K ns Γ a pa)(hb:bH K ns Γ b pb):bH K ns Γ (.ite t a b) (.IfExp pt pa pb pos):=fun B σ β k z Q E S hev hp=>by
 refine aG (aA hev) fun hpu hev=>?_
 refine iK (aeE hpu) fun q1 q2 q3=>?_
 refine IfExp_ (ht B σ β _ z _ E (pP (f:=fun c _=>(cond c (kE K.C Internal.glb a V σ.ρ fun v _=>some v) (kE K.C Internal.glb b V σ.ρ fun v _=>some v)).bind fun v=>k v σ.ρ)) S hev fun σ1 c g1 k1=>?_)
 refine aD (aQ k1) fun y e1 e2=>?_
 rw [←g1.p q1] at e1
 cases c with
 |true=>exact ha B σ1 V _ y _ E g1.S e1 fun σ2 v x g2 r2 e=>hp σ2 v x ((g1.trans g2).pure (by refine (Eq.symm q1)▸?_;refine (Eq.symm q2)▸?_;rfl)) r2 (by cases e;refine (Eq.symm (g2.p q2))▸?_;refine (Eq.symm (g1.p q1))▸?_;exact e2)
 |false=>exact hb B σ1 V _ y _ E g1.S e1 fun σ2 v x g2 r2 e=>hp σ2 v x ((g1.trans g2).pure (by refine (Eq.symm q1)▸?_;refine (Eq.symm q3)▸?_;rfl)) r2 (by cases e;refine (Eq.symm (g2.p q3))▸?_;refine (Eq.symm (g1.p q1))▸?_;exact e2)
theorem LK {t a b pt pa pb pos}(ht:kM K ns Γ t pt)(ha:kM K ns Γ a pa)(hb:kM K ns Γ b pb):kM K ns Γ (.ite t a b) (.IfExp pt pa pb pos):=fun B σ β k z Q E hk S hev hp=>by
 refine aG (aA hev) fun hpu hev=>?_
 refine iK (aeE hpu) fun q1 q2 q3=>?_
 refine isTrue_IfExp (ht B σ β _ z _ E (pP (f:=fun c _=>(cond c (kE K.C Internal.glb a V σ.ρ fun v _=>some v) (kE K.C Internal.glb b V σ.ρ fun v _=>some v)).bind fun v=>k v σ.ρ)) S hev fun σ1 c g1 k1=>?_)
 refine aD (aQ k1) fun y e1 e2=>?_
 refine aT (hk y _ e2) fun t ajA=>?_;subst ajA
 rw [←g1.p q1] at e1
 cases c with
 |true=>exact ha B σ1 V _ _ _ E EW g1.S e1 fun σ2 x g2 e=>hp σ2 x ((g1.trans g2).pure (by refine (Eq.symm q1)▸?_;refine (Eq.symm q2)▸?_;rfl)) (by cases e;refine (Eq.symm (g2.p q2))▸?_;refine (Eq.symm (g1.p q1))▸?_;exact e2)
 |false=>exact hb B σ1 V _ _ _ E EW g1.S e1 fun σ2 x g2 e=>hp σ2 x ((g1.trans g2).pure (by refine (Eq.symm q1)▸?_;refine (Eq.symm q3)▸?_;rfl)) (by cases e;refine (Eq.symm (g2.p q3))▸?_;refine (Eq.symm (g1.p q1))▸?_;exact e2)
structure uN (K:Ct)(ns:fJ)(Γ:eO)(es:List E)(pes:List Expr):Prop where
 nd:∀(B:eA K ns Γ) (σ:Pt) (β:Type) (k:V→Fm→Option β) (z:β) (Q:Value→Shared→Prop) (E:Value→Shared→Prop) (pos:Pos),es≠[]→aM es=true→gZ B.toBs σ→dR K.C Internal.glb es β σ.ρ k=some z→
  (∀σ' v x,eC B.toBs true σ σ'→Vl B.toBs σ' v x→k x σ'.ρ=some z→Q v σ'.s)→wpAny K.M K.A (eval (.BoolOp .And pes pos) B.env) Q E σ.s
 or:∀(B:eA K ns Γ) (σ:Pt) (β:Type) (k:V→Fm→Option β) (z:β) (Q:Value→Shared→Prop) (E:Value→Shared→Prop) (pos:Pos),es≠[]→aM es=true→gZ B.toBs σ→yR K.C Internal.glb es β σ.ρ k=some z→
  (∀σ' v x,eC B.toBs true σ σ'→Vl B.toBs σ' v x→k x σ'.ρ=some z→Q v σ'.s)→wpAny K.M K.A (eval (.BoolOp .Or pes pos) B.env) Q E σ.s
 andT:∀(B:eA K ns Γ) (σ:Pt) (β:Type) (k:V→Fm→Option β) (z:β) (Q:Bool→Shared→Prop) (E:Value→Shared→Prop) (pos:Pos) (whole:Sem Value),(∀x ρ,k x ρ=some z→∃t,x=.bool t)→aM es=true→gZ B.toBs σ→dR K.C Internal.glb es β σ.ρ k=some z→
  (∀σ' t,eC B.toBs true σ σ'→k (.bool t) σ'.ρ=some z→Q t σ'.s)→wpAny K.M K.A (isTrue (.BoolOp .And pes pos) B.env whole) Q E σ.s
 orT:∀(B:eA K ns Γ) (σ:Pt) (β:Type) (k:V→Fm→Option β) (z:β) (Q:Bool→Shared→Prop) (E:Value→Shared→Prop) (pos:Pos) (whole:Sem Value),(∀x ρ,k x ρ=some z→∃t,x=.bool t)→aM es=true→gZ B.toBs σ→yR K.C Internal.glb es β σ.ρ k=some z→
  (∀σ' t,eC B.toBs true σ σ'→k (.bool t) σ'.ρ=some z→Q t σ'.s)→wpAny K.M K.A (isTrue (.BoolOp .Or pes pos) B.env whole) Q E σ.s
theorem iQ {a b:Bool}(h:(a && b)=true):a=true∧b=true:=Bool.and_eq_true_iff.mp h
theorem uN.nil:uN K ns Γ [] [] where
 nd:=fun B σ β k z Q E pos h=>absurd rfl h
 or:=fun B σ β k z Q E pos h=>absurd rfl h
 andT:=fun B σ β k z Q E pos whole _ _ S hev hp=>isTrue_and_nil (hp σ true (.here S _) hev)
 orT:=fun B σ β k z Q E pos whole _ _ S hev hp=>isTrue_or_nil (hp σ false (.here S _) hev)
theorem uN.cons {e:E}{r:List E}{p:Expr}{t:List Expr}(he:cM K ns Γ e p)(hl:t.length=r.length)(hr:uN K ns Γ r t):uN K ns Γ (e::r) (p::t) where
 nd:=fun B σ β k z Q E pos _ hpu S hev hp=>by
  refine aG (iQ hpu) fun q1 q2=>?_
  cases r with
  |nil=>
   cases t with
   |nil=>exact BoolOp_one (he.ev B σ β k z Q E S hev fun σ' v x g=>hp σ' v x (g.pure q1))
   |cons _ _=>cases hl
  |cons e2 r2=>
   cases t with
   |nil=>cases hl
   |cons p2 t2=>
    refine BoolOp_and (he.ev B σ β (fun x ρ₁=>fD x fun t=>cond t (dR K.C Internal.glb (e2::r2) β ρ₁ k) (k (.bool false) ρ₁)) z _ E S hev fun σ1 v1 x1 g1 r1 k1=>gU (M:=fun x=>Vl B.toBs σ1 v1 x→_) k1 (fun c k2 r1=>wU r1 ?_) r1)
    cases c with
    |true=>exact hr.nd B σ1 β k z Q E pos nofun q2 g1.S k2 fun σ' v x g=>hp σ' v x ((g1.thenP g).pure q1)
    |false=>exact hp σ1 _ _ (g1.pure q1) r1 k2
 or:=fun B σ β k z Q E pos _ hpu S hev hp=>by
  refine aG (iQ hpu) fun q1 q2=>?_
  cases r with
  |nil=>
   cases t with
   |nil=>exact BoolOp_one (he.ev B σ β k z Q E S hev fun σ' v x g=>hp σ' v x (g.pure q1))
   |cons _ _=>cases hl
  |cons e2 r2=>
   cases t with
   |nil=>cases hl
   |cons p2 t2=>
    refine BoolOp_or (he.ev B σ β (fun x ρ₁=>fD x fun t=>cond t (k (.bool true) ρ₁) (yR K.C Internal.glb (e2::r2) β ρ₁ k)) z _ E S hev fun σ1 v1 x1 g1 r1 k1=>gU (M:=fun x=>Vl B.toBs σ1 v1 x→_) k1 (fun c k2 r1=>wU r1 ?_) r1)
    cases c with
    |true=>exact hp σ1 _ _ (g1.pure q1) r1 k2
    |false=>exact hr.or B σ1 β k z Q E pos nofun q2 g1.S k2 fun σ' v x g=>hp σ' v x ((g1.thenP g).pure q1)
 andT:=fun B σ β k z Q E pos whole hk hpu S hev hp=>by
  refine aG (iQ hpu) fun q1 q2=>?_
  cases r with
  |nil=>
   cases t with
   |nil=>
    refine isTrue_and (he.t B σ β k z _ E hk S hev fun σ1 c g1 k1=>?_)
    cases c with
    |true=>exact isTrue_and_nil (hp σ1 _ (g1.pure q1) k1)
    |false=>exact hp σ1 _ (g1.pure q1) k1
   |cons _ _=>cases hl
  |cons e2 r2=>
   refine isTrue_and (he.t B σ β _ z _ E (pP (f:=fun c ρ₁=>cond c (dR K.C Internal.glb (e2::r2) β ρ₁ k) (k (.bool false) ρ₁))) S hev fun σ1 c g1 k1=>?_)
   cases c with
   |true=>exact hr.andT B σ1 β k z Q E pos whole hk q2 g1.S k1 fun σ' x g=>hp σ' x ((g1.thenP g).pure q1)
   |false=>exact hp σ1 _ (g1.pure q1) k1
 orT:=fun B σ β k z Q E pos whole hk hpu S hev hp=>by
  refine aG (iQ hpu) fun q1 q2=>?_
  cases r with
  |nil=>
   cases t with
   |nil=>
    refine isTrue_or (he.t B σ β k z _ E hk S hev fun σ1 c g1 k1=>?_)
    cases c with
    |true=>exact hp σ1 _ (g1.pure q1) k1
    |false=>exact isTrue_or_nil (hp σ1 _ (g1.pure q1) k1)
   |cons _ _=>cases hl
  |cons e2 r2=>
   refine isTrue_or (he.t B σ β _ z _ E (pP (f:=fun c ρ₁=>cond c (k (.bool true) ρ₁) (yR K.C Internal.glb (e2::r2) β ρ₁ k))) S hev fun σ1 c g1 k1=>?_)
   cases c with
   |true=>exact hp σ1 _ (g1.pure q1) k1
   |false=>exact hr.orT B σ1 β k z Q E pos whole hk q2 g1.S k1 fun σ' x g=>hp σ' x ((g1.thenP g).pure q1)
theorem TT {es pes pos}(hn:es≠[])(h:uN K ns Γ es pes):bH K ns Γ (.and es) (.BoolOp .And pes pos):=fun B σ β k z Q E S hev hp=>by
 refine aG (aA hev) fun hpu hev=>?_
 refine aD (aQ hev) fun y e1 e2=>?_
 exact h.nd B σ V _ y Q E pos hn hpu S e1 fun σ' v x g r e=>hp σ' v x (g.pure rfl) r (by cases e;rw [g.p rfl];exact e2)
theorem ZZ {es pes pos}(hn:es≠[])(h:uN K ns Γ es pes):bH K ns Γ (.or es) (.BoolOp .Or pes pos):=fun B σ β k z Q E S hev hp=>by
 refine aG (aA hev) fun hpu hev=>?_
 refine aD (aQ hev) fun y e1 e2=>?_
 exact h.or B σ V _ y Q E pos hn hpu S e1 fun σ' v x g r e=>hp σ' v x (g.pure rfl) r (by cases e;refine (Eq.symm (g.p rfl))▸?_;exact e2)
theorem LL {es pes pos}(h:uN K ns Γ es pes):kM K ns Γ (.and es) (.BoolOp .And pes pos):=fun B σ β k z Q E hk S hev hp=>by
 refine iJ fun gG gH=>?_;refine aG (aA hev) fun hpu hev=>?_
 refine aD (aQ hev) fun y e1 e2=>?_
 refine aT (hk y _ e2) fun t ajB=>?_;subst ajB
 refine gH ?_;exact h.andT B σ V _ _ Q E pos _ EW hpu S e1 fun σ' x g e=>hp σ' x (g.pure rfl) (by cases e;refine (Eq.symm (g.p rfl))▸?_;exact e2)
theorem TU {es pes pos}(h:uN K ns Γ es pes):kM K ns Γ (.or es) (.BoolOp .Or pes pos):=fun B σ β k z Q E hk S hev hp=>by
 refine iJ fun gG gH=>?_;refine aG (aA hev) fun hpu hev=>?_
 refine aD (aQ hev) fun y e1 e2=>?_
 refine aT (hk y _ e2) fun t ajC=>?_;subst ajC
 refine gH ?_;exact h.orT B σ V _ _ Q E pos _ EW hpu S e1 fun σ' x g e=>hp σ' x (g.pure rfl) (by cases e;rw [g.p rfl];exact e2)
theorem TV {es pes c pos}(h:nM K ns Γ es pes)(hl:Nat.ble es.length mH=true):bH K ns Γ (.tup es) (.Tuple pes c pos):=fun B σ β k z Q E S hev hp=>
 wpAny_Tuple (h B σ β _ z _ E _ S hev fun σ1 vs xs g1 r1 e1 k1=>⟨by rw [bP.length r1,e1];exact iP hl,g1.nw hp _ _ _ _ bF k1 (bW _ vs ⟨rfl,.inr ⟨Heap.get?_push_size _ rfl,aY⟩,bP.mono r1 rM⟩)⟩)
theorem TW {es pes pos}(h:nM K ns Γ es pes)(hl:Nat.ble es.length mH=true):bH K ns Γ (.lst es) (.List pes pos):=fun B σ β k z Q E S hev hp=>
 wpAny_List (h B σ β _ z _ E _ S hev fun σ1 vs xs g1 r1 e1 k1=>⟨by rw [bP.length r1,e1];exact iP hl,g1.nw hp _ _ _ _ bF k1 (jU _ vs _ ⟨rfl,.inr ⟨Heap.get?_push_size _ rfl,aY⟩,bP.mono r1 rM⟩)⟩)
theorem LM {pos}:bH K ns Γ .dct0 (.Dict [] [] pos):=fun B σ β k z Q E S hev hp=>
 wpAny_Dict_empty ((eC.here S true).nw hp _ _ _ _ bF hev (jU _ [] _ ⟨rfl,.inr ⟨Heap.get?_push_size _ rfl,aY⟩,rfl,List.nodup_nil⟩))
theorem LN {a pa n c p pos}(ha:bH K ns Γ a pa):bH K ns Γ (.subN a n) (.Subscript pa (.Constant (.int n) c p) pos):=fun B σ β k z Q E S hev hp=>
 PyProof.Rows.Subscript_ (ha B σ β _ z _ E S hev fun σ1 v1 x1 g1 r1 k1=>wpAny_Constant_int (KM (s:=(σ1.to σ1.s.heap _).s) mP (qK B.toBs σ1) r1 k1 ((g1.thenP (.new g1.S _ fun _ _ g=>g)).nw hp)))
theorem tB {B:eA K ns Γ}{σ:Pt}(S:gZ B.toBs σ){n:Nat}{xs:List V}(e:σ.ρ.at n=.l xs):∃p a vs m,B.pls[n]? =some p∧σ.own[n]? =some (some a)∧rd σ.s.heap p (.ref a)∧σ.s.heap.get? a=some (cH vs m)∧bP K.w.params (gS B.toBs σ) vs xs:=by
 refine bY (S.get (Fm.at_some e nofun)) fun p oa e1 e2 k=>?_
 cases oa with
 |none=>exact k.elim
 |some a=>refine aG k fun r ajS=>?_;obtain ⟨vs,m,h1,h2⟩:=ajS;exact (EG p a vs m ⟨e1,e2,r,h1,h2⟩)
theorem tC {B:eA K ns Γ}{σ:Pt}(S:gZ B.toBs σ){n:Nat}{kvs:List (V×V)}(e:σ.ρ.at n=.d kvs):∃p a es m,B.pls[n]? =some p∧σ.own[n]? =some (some a)∧rd σ.s.heap p (.ref a)∧σ.s.heap.get? a=some (cW es m)∧
  kY K.w.params (gS B.toBs σ) es kvs∧(kvs.map (·.1)).Nodup∧(a==sysModules)=false:=by
 refine bY (S.get (Fm.at_some e nofun)) fun p oa e1 e2 k=>?_
 cases oa with
 |none=>exact k.elim
 |some a=>
  refine aG k fun r ajT=>?_;obtain ⟨es,m,h1,h2,h3⟩:=ajT
  refine (EG p a es m ⟨e1,e2,r,h1,h2,h3,beq_eq_false_iff_ne.mpr ?_⟩)
  rintro rfl
  rcases S.ow n _ e2 with q|q
  ·exact q.2 B.sys.1
  ·exact (B.ioN _ q.2).2 rfl
theorem Gr.same {K:Kx}{pls:List Pl}{own own1:wN}{h h1:Heap}(w:Gr K pls own h own1 h1){p:Pl}{n:Nat}(hp:pls[n]? =some p){v u:Value}(r:rd h p v)(r1:rd h1 p u):u=v:=r1.uniq (w.r p (List.mem_of_getElem? hp) _ r)
theorem xB {B:eA K ns Γ}{b:Bool}{σ σ1:Pt}(g:eC B.toBs b σ σ1){n:Nat}{xs:List V}{p:Pl}{a:Addr}(hp:B.pls[n]? =some p)(r:rd σ.s.heap p (.ref a))(e:σ1.ρ.at n=.l xs):∃vs m,σ1.own[n]? =some (some a)∧σ1.s.heap.get? a=some (cH vs m)∧bP K.w.params (gS B.toBs σ1) vs xs:=
 qZ (tB g.S e) fun p' a' vs m w1 w2 w3 w4 w5=>
  have e:a'=a:=Value.ref.inj (g.w.same hp r (Option.some.inj (w1.symm.trans hp)▸w3))
  ⟨vs,m,e▸w2,e▸w4,w5⟩
theorem BW {B:eA K ns Γ}{b:Bool}{σ σ1:Pt}(g:eC B.toBs b σ σ1){n:Nat}{kvs:List (V×V)}{p:Pl}{a:Addr}(hp:B.pls[n]? =some p)(r:rd σ.s.heap p (.ref a))(e:σ1.ρ.at n=.d kvs):∃es m,σ1.own[n]? =some (some a)∧σ1.s.heap.get? a=some (cW es m)∧
  kY K.w.params (gS B.toBs σ1) es kvs∧(kvs.map (·.1)).Nodup∧(a==sysModules)=false:=
 KA (tC g.S e) fun p' a' es m w1 w2 w3 w4 w5 w6 w7=>
  have e:a'=a:=Value.ref.inj (g.w.same hp r (Option.some.inj (w1.symm.trans hp)▸w3))
  ⟨es,m,e▸w2,e▸w4,w5,w6,e▸w7⟩
theorem TX {a b pa pb pos}(ha:bH K ns Γ a pa)(hb:cM K ns Γ b pb):bH K ns Γ (.sub a b) (.Subscript pa pb pos):=fun B σ β k z Q E S hev hp=>
 PyProof.Rows.Subscript_ (ha B σ β _ z _ E S hev fun σ1 v1 x1 g1 r1 k1=>hb.ev B σ1 β _ z _ E g1.S k1 fun σ2 v2 x2 g2 r2 k2=>by
  have hsl:=hb.plain k1
  have r1:=r1.mono g2.g
  cases x1 with
  |lst l=>
   cases x2 with
   |int i=>
    refine iJ fun gG gH=>?_;obtain ⟨_,rfl⟩:=r2
    obtain ⟨a,vs,m,rfl,h1,r1⟩:=r1
    refine gH ?_;exact ET hsl h1.1 r1 k2 ((g1.trans g2).nw hp)
   |_=>exact no k2
  |tup l=>
   cases x2 with
   |int i=>cases i with
    |ofNat n=>
     obtain ⟨_,rfl⟩:=r2
     exact KM (n:=n) hsl (qK B.toBs σ2) r1 k2 ((g1.trans g2).nw hp)
    |negSucc n=>exact no k2
   |_=>exact no k2
  |dct l=>
   refine iJ fun gG gH=>?_;obtain ⟨a,es,m,rfl,h1,r1,nd⟩:=r1
   obtain ⟨hk,k2⟩:=aA k2
   obtain ⟨_,_,rfl⟩:=jF hk
   obtain ⟨b,ws,rfl,h2,r2⟩:=r2
   refine gH ?_;exact tail_any ⟨_,h1.1,rfl⟩ slot_dict_getitem.lookup (wW (qK B.toBs σ2) (LE K) h1.1 r1 nd (show Vl B.toBs σ2 _ (.tup _) from (bW b ws ⟨rfl,h2,r2⟩)) hk k2 ((g1.trans g2).nw hp)) (lB hsl _ _)
  |_=>exact no k2)
theorem rV {P:Params}{g:Gh}{u:Value}{k:V}(hk:cV k=true)(h:Rp P g u k):∃a,u=.ref a:=by
 refine aG (jF hk) fun _ ajD=>?_;obtain ⟨l,rfl⟩:=ajD
 refine dI h fun a _ ajE _=>?_;subst ajE
 exact ⟨a,rfl⟩
theorem LP {n b y p pb pos}(hx:Γ[n]? =some (some y))(hb:cM K ns Γ b pb):bH K ns Γ (.subO n b) (.Subscript (.Name y p) pb pos):=fun B σ β k z Q E S hev hp=>by
 refine aG (aA hev) fun hpu hev=>?_
 have hsl:=hb.plain hev
 refine bD (bA b hev) fun _ _ hs=>?_
 refine aD (TJ (s:=σ.ρ.at n) hs) fun xs e _=>?_
 refine qZ (tB S e) fun pl a vs m q1 q2 q3 q4 q5=>?_
 refine PyProof.Rows.Subscript_ (B.ok.evalName hx q1 q3 ?_)
 rw [e] at hev
 refine hb.ev B σ β _ z _ E S hev fun σ1 v1 x1 g1 r1 k1=>?_
 cases x1 with
 |int i=>
  refine aT r1 fun _ ajF=>?_;subst ajF
  refine bY (xB g1 q1 q3 (by rw [g1.p hpu];exact e)) fun vs' m' w2 w4 w5=>?_
  exact ET hsl w4 w5 k1 ((g1.pure hpu).nw (k:=fun v _=>k v σ.ρ) fun σ' v x g r k=>hp σ' v x g r (by refine (Eq.symm (g.p hpu))▸?_;exact k))
 |_=>exact no k1
end
section
variable {K:Ct}{ns:fJ}{Γ:eO}
theorem HL {a b pa pb p pos}(ha:bH K ns Γ a pa)(hb:bH K ns Γ b pb):bH K ns Γ (.slcLo a b) (.Subscript pa (.Slice (some pb) none none p) pos):=fun B σ β k z Q E S hev hp=>
 PyProof.Rows.Subscript_ (ha B σ β _ z _ E S hev fun σ1 v1 x1 g1 r1 k1=>wpAny_Slice (by
  rw [evalPart_some,evalPart_none]
  refine hb B σ1 β _ z _ E g1.S k1 fun σ2 v2 x2 g2 r2 k2=>wpAny_pure (wpAny_pure ?_)
  refine yZ (f:=fun l n=>l.drop n) (M:=fun x y=>Vl B.toBs σ1 v1 x→Vl B.toBs σ2 v2 y→_) (show (BF x1 x2).bind (fun z=>k z σ2.ρ)=some z from k2) (fun l i hl q r1 r2=>?_) r1 r2
  refine iJ fun gG gH=>?_;obtain ⟨a,vs,m,rfl,h1,r1⟩:=Rp.mono r1 g2.g
  obtain ⟨t,rfl⟩:=r2
  refine gH ?_;let σ3:=σ2.to (σ2.s.heap.push {cls:=.type "slice",data:=.fields #[.int i t,.none,.none]}) σ2.s.toks
  have g3:eC B.toBs true σ2 σ3:=.new g2.S _ bF
  exact tail_any ⟨_,(g3.g _ _ h1).1,rfl⟩ slot_list_getitem.lookup (ZV (s:=σ3.s) (Heap.IsSliceOf.new ..) (g3.g _ _ h1).1 (bP.mono r1 g3.g) hl q (((g1.trans g2).thenP g3).nw hp)) (KP _ _ _ _ _ _ rfl)))
theorem HM {a b pa pb p pos}(ha:bH K ns Γ a pa)(hb:bH K ns Γ b pb):bH K ns Γ (.slcHi a b) (.Subscript pa (.Slice none (some pb) none p) pos):=fun B σ β k z Q E S hev hp=>
 PyProof.Rows.Subscript_ (ha B σ β _ z _ E S hev fun σ1 v1 x1 g1 r1 k1=>wpAny_Slice (by
  rw [evalPart_some,evalPart_none]
  refine wpAny_pure (hb B σ1 β _ z _ E g1.S k1 fun σ2 v2 x2 g2 r2 k2=>wpAny_pure ?_)
  refine yZ (f:=fun l n=>l.take n) (M:=fun x y=>Vl B.toBs σ1 v1 x→Vl B.toBs σ2 v2 y→_) (show (nT x1 x2).bind (fun z=>k z σ2.ρ)=some z from k2) (fun l i hl q r1 r2=>?_) r1 r2
  refine iJ fun gG gH=>?_;obtain ⟨a,vs,m,rfl,h1,r1⟩:=Rp.mono r1 g2.g
  obtain ⟨t,rfl⟩:=r2
  refine gH ?_;let σ3:=σ2.to (σ2.s.heap.push {cls:=.type "slice",data:=.fields #[.none,.int i t,.none]}) σ2.s.toks
  have g3:eC B.toBs true σ2 σ3:=.new g2.S _ bF
  exact tail_any ⟨_,(g3.g _ _ h1).1,rfl⟩ slot_list_getitem.lookup (ZW (s:=σ3.s) (Heap.IsSliceOf.new ..) (g3.g _ _ h1).1 (bP.mono r1 g3.g) hl q (((g1.trans g2).thenP g3).nw hp)) (KP _ _ _ _ _ _ rfl)))
structure dX (K:Ct)(h:Heap)(out:Addr→Prop)(io:Option Addr):Prop where
 base:∀a o,K.cx.bs.get? a=some o→h.get? a=some o∧¬out a
 live:∀a,out a→a<h.objs.size∨∃o,h.get? a=some o
 tb:∀a,K.T.tb a→out a∧a<h.objs.size
 ti:K.T.inv fun a o=>h.get? a=some o∧(K.T.tb a∨¬out a)
 sys:out sysModules∧sysModules<h.objs.size
 io:∀a,io=some a→out a∧¬K.T.tb a∧a≠sysModules
abbrev go (h:Heap) (out:Addr→Prop):Gh:=fun a o=>h.get? a=some o∧¬out a
def iZ (P:Params)(h:Heap)(g:Gh)(io:Option Addr)(vs:List Value)(slots:List aF):Prop:=match io with
 |none=>∃xs,slots=xs.map .v∧bP P g vs xs
 |some a=>∃sl xs rest,slots=sl::xs.map .v∧vs=.ref a::rest∧eQ P g h a sl∧bP P g rest xs
structure pQ (K:Ct)(h:Heap)(out:Addr→Prop)(io:Option Addr)(r:V)(sl:aF)(h':Heap)(v:Value):Prop where
 keep:∀a o,h.get? a=some o→¬K.T.tb a→io≠some a→h'.get? a=some o
 ti:K.T.inv fun a o=>h'.get? a=some o∧(K.T.tb a∨¬out a)
 val:Rp K.w.params (go h' out) v r
 own:∀a,io=some a→eQ K.w.params (go h' out) h' a sl
def cS (K:Ct):Prop:=∀(f:Nat) (fn:Fn) (slots:List aF) (r:V) (sl:aF) (fa:Addr),K.C f slots=some (r,sl)→rS[f]? =some fn→K.cx.mg fn.name=some (.ref fa)→
 ∀(s:Shared) (out:Addr→Prop) (io:Option Addr) (args:List Value),dX K s.heap out io→iZ K.w.params s.heap (go s.heap out) io args slots→io.isSome=fn.io→
 ∀R:Result→Shared→Prop,(∀h' tk v,pQ K s.heap out io r sl h' v→R (.ok (.ret v)) {s with heap:=h',toks:=tk})→codeAny K.M K.A (.call (.ref fa) ⟨args,[]⟩) R s
theorem tD {B:eA K ns Γ}{σ:Pt}(S:gZ B.toBs σ){io:Option Addr}(hio:∀a,io=some a→some a∈σ.own):dX K σ.s.heap (Xs B.toBs σ.own) io where
 base:=fun a o e=>S.base e
 live:=fun a x=>(S.xlive x).imp (fun q=>Nat.lt_of_lt_of_le q S.size) id
 tb:=fun a t=>⟨.inl (B.tbN a t).2.1,Nat.lt_of_lt_of_le (B.tbN a t).1 S.size⟩
 ti:=S.ti
 sys:=⟨.inl B.sys.1,Nat.lt_of_lt_of_le B.sys.2 S.size⟩
 io:=fun a e=>⟨.inr (.inr (hio a e)),(S.ownX (hio a e)).1,by
  rintro rfl
  rcases (S.ownX (hio _ e)).2.2.2 with q|q
  ·exact q.2 B.sys.1
  ·exact (B.ioN _ q).2 rfl⟩
theorem rE {pes:List Expr}{p:Expr}{f:Value}{pos:Pos}{env:Env}{M:Model}{A:Around}{E:Value→Shared→Prop}{s:Shared}{Q:Args→Shared→Prop}(hp:PX p)
  (h:wpAny M A (spliced (backTo pos (starEach (p::pes) env))) (fun vs s'=>Q ⟨vs,[]⟩ s') E s):wpAny M A (evalArgs f true (backTo pos (starEach (p::pes) env)) []) Q E s:=by
 rw [bN hp] at h ⊢
 exact Calls.evalArgs_plain h
theorem LQ (HC:cS K){f fn e r p t gp pos}(hf:rS[f]? =some fn)(hio:fn.io=false)(hg:jX ns fn.name=true)(he:cM K ns Γ e p)(h:nM K ns Γ (e::r) (p::t)):bH K ns Γ (.call f (e::r)) (.Call (.Name fn.name gp) (p::t) [] pos):=fun B σ β k z Q E S hev hp=>by
 refine eP (K.cx.fns f fn hf) fun fa o fd hm hb hd=>?_
 refine aG (eT hg) fun hg1 hg2=>?_
 refine Call_Name rfl (eM K.cx B.ok (B.glb _ hg1) (B.nsg S) hm ?_ hg2)
 refine Calls.callWith_function (o:=o) (fd:=fd) (rE (he.plain (show kE K.C Internal.glb e _ _ _=some z from hev)) (h B σ β (fun l ρ₁=>(K.C f (l.map .v)).bind fun r=>k r.1 ρ₁) z _ E pos S hev fun σ1 vs xs g1 r1 _ k1=>⟨⟨(g1.S.base hb).1,hd⟩,wpAny_call ?_⟩))
 refine aD (aQ k1) fun ajG e2 k2=>?_;obtain ⟨y,sl⟩:=ajG
 refine HC f fn _ _ _ fa e2 hf hm σ1.s (Xs B.toBs σ1.own) none _ (tD g1.S nofun) ⟨_,rfl,r1⟩ hio.symm _ fun h2 tk2 v P=>?_
 have S2:gZ B.toBs (σ1.to h2 tk2):=g1.S.chg (D:=K.T.tb) (fun b o g t=>P.keep b o g t nofun) (fun b t=>⟨(B.tbN b t).2.1,(B.tbN b t).2.2,.inl (B.tbN b t).1⟩) P.ti
 have g2:eC B.toBs true σ1 (σ1.to h2 tk2):=⟨S2,⟨⟨fun a o g t _ _=>P.keep a o g t nofun,fun _ m=>.inl m⟩,fun p hp v r=>r.at fun o g=>P.keep _ o g (XZ hp).1 nofun⟩,rfl,fun _=>rfl⟩
 exact hp (σ1.to h2 tk2) v y (g1.thenP g2) P.val k2
theorem HN (HC:cS K){f fn n es y yp vs gp pos}(hf:rS[f]? =some fn)(hio:fn.io=true)(hg:jX ns fn.name=true)(hy:Γ[n]? =some (some y))(h:nM K ns Γ es vs):bH K ns Γ (.callO f n es) (.Call (.Name fn.name gp) (.Name y yp::vs) [] pos):=fun B σ β k z Q E S hev hp=>by
 refine aG (aA hev) fun hpu hev=>?_
 refine bD (lD es hev) fun _ _ hs=>?_
 have main:∀(sl0:aF) (hr:∃p a,B.pls[n]? =some p∧σ.own[n]? =some (some a)∧rd σ.s.heap p (.ref a)),(∀σ1,gZ B.toBs σ1→σ1.ρ.at n=sl0→∃p a,B.pls[n]? =some p∧σ1.own[n]? =some (some a)∧rd σ1.s.heap p (.ref a)∧eQ K.w.params (gS B.toBs σ1) σ1.s.heap a sl0)→σ.ρ.at n=sl0→
   cL K.C Internal.glb es β σ.ρ (fun x _=>(K.C f (sl0::x.map .v)).bind fun r=>k r.1 (σ.ρ.set n r.2))=some z→wpAny K.M K.A (eval (.Call (.Name fn.name gp) (.Name y yp::vs) [] pos) B.env) Q E σ.s:=by
  intro sl0 gy1 hsl e hev;obtain ⟨p,a,hp1,_,hr⟩:=gy1
  refine eP (K.cx.fns f fn hf) fun fa o fd hm hb hd=>?_
  refine aG (eT hg) fun hg1 hg2=>?_
  refine Call_Name rfl (eM K.cx B.ok (B.glb _ hg1) (B.nsg S) hm ?_ hg2)
  refine Calls.callWith_function (o:=o) (fd:=fd) (Calls.evalArgs_plain (Calls.spliced_cons (B.ok.evalName hy hp1 hr ?_)))
  refine h B σ β _ z _ E pos S hev fun σ1 vs1 xs g1 r1 _ k1=>⟨⟨(g1.S.base hb).1,hd⟩,wpAny_call ?_⟩
  refine JW (hsl σ1 g1.S (by rw [g1.p hpu];exact e)) fun p' a' w1 w2 w3 hown=>?_
  rw [hp1] at w1;cases w1
  cases g1.w.same hp1 hr w3
  refine aD (aQ k1) fun ajV e2 k2=>?_;obtain ⟨x,sl⟩:=ajV
  have hmem:=List.mem_of_getElem? w2
  refine HC f fn _ _ _ fa e2 hf hm σ1.s (Xs B.toBs σ1.own) (some a) _ (tD g1.S (by rintro b ⟨rfl⟩;exact hmem)) (jU _ _ _ ⟨rfl,rfl,hown,r1⟩) hio.symm _ fun h2 tk2 v P=>?_
  refine aG (g1.S.upd w2 (fun b ob g d=>P.keep b ob g (fun t=>d (.inl t)) fun e=>d (.inr (Option.some.inj e).symm)) P.ti (P.own a rfl)) fun S2 g2=>?_
  exact hp ⟨σ1.own,σ1.ρ.set n sl,{σ1.s with heap:=h2,toks:=tk2}⟩ v x ⟨S2,g1.w.trans g2,g1.u.trans rfl,fun e=>nomatch e⟩ P.val (by rw [g1.p hpu];exact k2)
 rcases LD (s:=σ.ρ.at n) hs with ⟨l,e,_⟩|⟨l,e,_⟩
 ·refine uS (tB S e) fun p a _ _ q1 q2 q3 _=>?_
  exact main _ ⟨p,a,q1,q2,q3⟩ (fun σ1 S1 e=>qZ (tB S1 e) fun p a vs m q1 q2 q3 q4 q5=>⟨p,a,q1,q2,q3,vs,m,q4,q5⟩) e (by rw [e] at hev;exact hev)
 ·refine uS (tC S e) fun p a _ _ q1 q2 q3 _=>?_
  exact main _ ⟨p,a,q1,q2,q3⟩ (fun σ1 S1 e=>KA (tC S1 e) fun p a vs m q1 q2 q3 q4 q5 q6 _=>⟨p,a,q1,q2,q3,vs,m,q4,q5,q6⟩) e (by rw [e] at hev;exact hev)
theorem aaA (b:B1):(b1N b,b1T b)∈eK:=by unfold eK;cases b<;>simp [b1N,b1T]
theorem aaB (b:B2):(b2N b,b2T b)∈eK:=by unfold eK;cases b<;>simp [b2N,b2T]
theorem xC {f:Value}(hf:(∃id,f=.builtin id)∨∃T,f=.type T){pos:Pos}{trees:List (Bool×Sem Value)}{M:Model}{A:Around}{E:Value→Shared→Prop}{s:Shared}{Q:Value→Shared→Prop}(hn:(trees.any fun x=>x.1)=false)
  (h:wpAny M A (evalArgs f true trees []) (fun a s₁=>wpAny M A (call f a.pos a.kw) Q E s₁) E s):wpAny M A (callWith pos f [] trees []) Q E s:=by
 rcases hf with ⟨id,rfl⟩|⟨T,rfl⟩
 ·exact Calls.callWith_builtin hn h
 ·exact PyProof.Rows.callWith_type hn h
theorem TY (b:B1):(∃id,b1T b=.builtin id)∨∃T,b1T b=.type T:=by cases b<;>first|exact .inl ⟨_,rfl⟩|exact .inr ⟨_,rfl⟩
theorem TZ (b:B2):(∃id,b2T b=.builtin id)∨∃T,b2T b=.type T:=by cases b<;>exact .inl ⟨_,rfl⟩
theorem UA {b a p gp pos}(hg:jX ns (b1N b)=true)(ha:cM K ns Γ a p):bH K ns Γ (.bi1 b a) (.Call (.Name (b1N b) gp) [p] [] pos):=fun B σ β k z Q E S hev hp=>by
 refine aG (eT hg) fun hg1 hg2=>?_
 refine Call_Name rfl (dN K.cx B.ok (B.glb _ hg1) (B.nsg S) (B.nsb S) (aaA b) ?_ hg2)
 rw [bN (ha.plain hev) [] B.env]
 exact xC (TY b) rfl (Calls.evalArgs_plain (Calls.spliced_cons (ha.ev B σ β _ z _ E S hev fun σ1 v1 x1 g1 r1 k1=>Calls.spliced_nil (YA (qK B.toBs σ1) K.hh r1 k1 (g1.nw hp)))))
theorem UB {b a c p q gp pos}(hg:jX ns (b2N b)=true)(ha:cM K ns Γ a p)(hc:bH K ns Γ c q)(hq:PX q):bH K ns Γ (.bi2 b a c) (.Call (.Name (b2N b) gp) [p,q] [] pos):=fun B σ β k z Q E S hev hp=>by
 obtain ⟨hg1,hg2⟩:=eT hg
 refine Call_Name rfl (dN K.cx B.ok (B.glb _ hg1) (B.nsg S) (B.nsb S) (aaB b) ?_ hg2)
 rw [bN (ha.plain hev),bN hq]
 exact xC (TZ b) rfl (Calls.evalArgs_plain (Calls.spliced_cons (ha.ev B σ β _ z _ E S hev fun σ1 v1 x1 g1 r1 k1=>Calls.spliced_cons (hc B σ1 β _ z _ E g1.S k1 fun σ2 v2 x2 g2 r2 k2=>Calls.spliced_nil (aeB K.hh (r1.mono g2.g) r2 k2 ((g1.trans g2).nw hp))))))
theorem lE {x:Str}{p:Pos}{name:Str}{env:Env}:attributeBase (.Name x p) name env (eval (.Name x p) env)=eval (.Name x p) env:=rfl
section
variable {n:Nat}{k' d:E}{pk pd:Expr}{y:Str}{yp ap pos:Pos}(hl:(ap.endLine==pos.line)=true)(hy:Γ[n]? =some (some y))(hk:cM K ns Γ k' pk)(hd:bH K ns Γ d pd)(hdp:PX pd)
include hl hy hk hd hdp
theorem LR:bH K ns Γ (.dget n k' d) (.Call (.Attribute (.Name y yp) "get" ap) [pk,pd] [] pos):=fun B σ β k z Q E S hev hp=>by
 refine iJ fun gG gH=>?_;refine aG (aA hev) fun hpu hev=>?_
 refine aG (iQ hpu) fun p1 p2=>?_
 have hkp:=hk.plain hev
 refine bD (bA k' hev) fun _ _ hs=>?_
 refine bD (bA d hs) fun _ _ hs=>?_
 refine aD (zC (s:=σ.ρ.at n) hs) fun kvs e _=>?_
 refine qZ (tC S e) fun pl a0 es0 m0 q1 q2 q3 q4 _=>?_
 refine gH ?_;have ht:backTo pos (starEach [pk,pd] B.env)=[(false,eval pk B.env),(false,eval pd B.env)]:=by rw [bN hkp,bN hdp];rfl
 refine wpAny_Call_method_late (trees:=[(false,eval pk B.env),(false,eval pd B.env)]) lE (by rw [ht];rfl) hl ht (B.ok.evalName hy q1 q3 (bW ("dict") ("dict.get") ⟨PySem.F.plainAttrs_dict,PySem.F.slot_dict_get,PySem.F.type_dict_get,⟨_,q4,rfl⟩,fun a q=>by cases q;exact ⟨_,q4,rfl⟩,?_⟩))
 refine Calls.callWith_builtin rfl (Calls.evalArgs_plain (Calls.spliced_cons (hk.ev B σ β _ z _ E S hev fun σ1 v1 x1 g1 r1 k1=>Calls.spliced_cons (hd B σ1 β _ z _ E g1.S (by rw [g1.p p1];exact k1) fun σ2 v2 x2 g2 r2 k2=>Calls.spliced_nil ?_))))
 have g:eC B.toBs true σ σ2:=(g1.trans g2).pure (by rw [p1,p2];rfl)
 refine mF (BW g q1 q3 (by rw [g.p rfl];exact e)) fun es m w2 w4 w5 w6 w7=>?_
 rw [e] at k2
 refine iJ fun gG gH=>?_;refine aG (aA k2) fun hkey k2=>?_
 have r1:=r1.mono g2.g
 refine aT (rV hkey r1) fun ka ajW=>?_;subst ajW
 refine gH ?_;exact KW (K:=fun v=>k v σ.ρ) (qK B.toBs σ2) (LE K) w4 w5 w6 r1 hkey w7 r2 k2 ((g.pure rfl).nw (k:=fun v _=>k v σ.ρ) fun σ' v x G r q=>hp σ' v x G r (by rw [G.p hpu];exact q))
theorem LS:bH K ns Γ (.dpop n k' d) (.Call (.Attribute (.Name y yp) "pop" ap) [pk,pd] [] pos):=fun B σ β k z Q E S hev hp=>by
 refine iJ fun gG gH=>?_;refine aG (aA hev) fun hpu hev=>?_
 refine aG (iQ hpu) fun p1 p2=>?_
 have hkp:=hk.plain hev
 refine bD (bA k' hev) fun _ _ hs=>?_
 refine bD (bA d hs) fun _ _ hs=>?_
 refine aD (zC (s:=σ.ρ.at n) hs) fun kvs e _=>?_
 refine qZ (tC S e) fun pl a0 es0 m0 q1 q2 q3 q4 _=>?_
 refine gH ?_;have ht:backTo pos (starEach [pk,pd] B.env)=[(false,eval pk B.env),(false,eval pd B.env)]:=by rw [bN hkp,bN hdp];rfl
 refine wpAny_Call_method_late (trees:=[(false,eval pk B.env),(false,eval pd B.env)]) lE (by rw [ht];rfl) hl ht (B.ok.evalName hy q1 q3 (bW ("dict") ("dict.pop") ⟨PySem.F.plainAttrs_dict,PySem.F.slot_dict_pop,PySem.F.type_dict_pop,⟨_,q4,rfl⟩,fun a q=>by cases q;exact ⟨_,q4,rfl⟩,?_⟩))
 refine Calls.callWith_builtin rfl (Calls.evalArgs_plain (Calls.spliced_cons (hk.ev B σ β _ z _ E S hev fun σ1 v1 x1 g1 r1 k1=>Calls.spliced_cons (hd B σ1 β _ z _ E g1.S (by rw [g1.p p1];exact k1) fun σ2 v2 x2 g2 r2 k2=>Calls.spliced_nil ?_))))
 have g:eC B.toBs true σ σ2:=(g1.trans g2).pure (by rw [p1,p2];rfl)
 refine mF (BW g q1 q3 (by rw [g.p rfl];exact e)) fun es m w2 w4 w5 w6 w7=>?_
 rw [e] at k2
 refine iJ fun gG gH=>?_;refine aG (aA k2) fun hkey k2=>?_
 refine aG (aA k2) fun hz k2=>?_
 have r1:=r1.mono g2.g
 refine aT (rV hkey r1) fun ka ajX=>?_;subst ajX
 refine aT (lQ k2) fun o ho=>?_
 refine aD (aQ ho) fun w' hw _=>?_
 refine gH ?_;rw [hw] at k2
 refine KZ (K:=fun v=>k v (σ.ρ.set n (.d w'))) (qK B.toBs σ2) w4 w5 w6 r1 hkey (oP hz) hw (LE K) w7 r2 k2 fun h3 tk3 es' n' r x hx rv hs hd3 hr3=>?_
 have hX:∀a o,gS B.toBs σ2 a o→gv B.toBs σ2.own h3 a o:=fun b o gg=>⟨(hs.2 b (by rintro rfl;exact gg.2 (.inr (.inr (List.mem_of_getElem? w2))))).trans gg.1,gg.2⟩
 refine aD (BN (prog:=K.cx.prog) w5) fun ent he1 _=>?_
 refine aG (g2.S.upd (sl:=.d w') w2 (fun b ob gg dd=>(hs.2 b fun q=>dd (.inr q)).trans gg) (K.T.mono _ _ (uJ hX fun b o t gg=>(hs.2 b fun q=>(g2.S.ownX (List.mem_of_getElem? w2)).1 (q▸t)).trans gg) g2.S.ti) (bW es' n' ⟨hd3,kY.mono hr3 hX,(EU he1 w6 hw).1.map _|>.nodup w6⟩)) fun S3 g3=>?_
 exact hp ⟨σ2.own,σ2.ρ.set n (.d w'),{σ2.s with heap:=h3,toks:=tk3}⟩ r x ⟨S3,g.w.trans g3,g.u.trans rfl,fun e=>nomatch e⟩ (Rp.mono rv hX) (by rw [g.p rfl];exact hx)
end
theorem LT {a p y yp pos}(hy:y=("RANKS":Str)) (hg:jX ns y=true) (ha:cM K ns Γ a p):bH K ns Γ (.rank a) (.Subscript (.Name y yp) p pos):=fun B σ β k z Q E S hev hp=>by
 subst hy
 refine aG (eT hg) fun hg1 hg2=>?_
 refine bY K.cx.rk fun da f hm hmap hf=>?_
 refine PyProof.Rows.Subscript_ (eM K.cx B.ok (B.glb _ hg1) (B.nsg S) hm ?_ hg2)
 refine ha.ev B σ β _ z _ E S hev fun σ1 v1 x1 g1 r1 k1=>?_
 have hmap':σ1.s.heap.MapOf (PySem.strKind K.cx.prog K.w) da f:=mG hmap fun o es ep e r=>⟨o,es,ep,(g1.S.base e).1,r⟩
 refine aD (aQ k1) fun y e2 k2=>?_
 cases x1 with
 |str n=>
  refine iJ fun gG gH=>?_;refine aD (Option.map_eq_some_iff.mp (show (([4,0,2,3,5,1]:List Int)[n]?).map V.int=some y from e2)) fun v e3 e4=>?_
  subst e4
  refine aG r1 fun hn ajH=>?_;obtain ⟨t1,rfl⟩:=ajH
  refine aT (hf n v e2) fun t ht=>?_
  refine gH ?_;exact tail_any hmap'.typeIs slot_dict_getitem.lookup (wpAny_getItem_of (PySem.strKind_is K.cx.prog K.w (nm n) t1) hmap' ht (uE.at (g1.nw hp) k2 ⟨t,rfl⟩)) (lB (ha.plain hev) _ _)
 |_=>exact no e2
end
section
variable {K:Kx}{B:Bs K}{D:Addr→Prop}{pu:Bool}{σ σ2:Pt}{h1 h2:Heap}{tk1 tk2:Tok}
theorem St.offX {hd:∀d,D d→K.N≤d∧¬dY B.pls d}{own:wN}{ρ:Fm}{h:Heap}(S:St (B.hide D hd) own ρ h)(ho:∀d,D d→¬B.out d){d:Addr}(q:D d):¬Xs B own d:=fun x=>x.elim (ho d q) fun x=>x.elim (hd d q).2 fun x=>
 (S.ownX x).2.2.2.elim (fun y=>y.2 (.inr q)) fun y=>absurd (B.ioN d y).1 (Nat.not_lt.mpr (hd d q).1)
theorem eC.show {hd:∀d,D d→K.N≤d∧¬dY B.pls d}(S:gZ B σ)(hk:lJ σ.s.heap h1)(f:∀d,D d→dM σ.s.heap d)(G:eC (B.hide D hd) pu (σ.to h1 tk1) σ2)(hk2:∀b o,σ2.s.heap.get? b=some o→¬D b→h2.get? b=some o):eC B pu σ (σ2.to h2 tk2) where
 S:=G.S.unhide (fun d q x=>(S.fresh (f d q)).1 (.inl x)) hk2
 w:=⟨((Gw.ext hk).trans G.w.toGw).beside hk2 fun b o q e=>(f b q).none e,fun p hp v r=>(G.w.r p hp v (r.at fun o=>hk _ o)).at fun o g=>hk2 _ o g fun q=>(hd _ q).2 ⟨p,hp,rfl⟩⟩
 u:=Up.trans (show Up σ.s (σ.to h1 tk1).s from rfl) (G.u.trans (show Up σ2.s (σ2.to h2 tk2).s from rfl))
 p:=fun e=>G.p e
theorem Gw.hid {own own1:wN}{h h1:Heap}{ρ:Fm}(S:St B own ρ h)(w:Gw K B.pls own h own1 h1){d:Addr}(q:B.out d∧K.N≤d){o:Obj}(e:h.get? d=some o):h1.get? d=some o:=
 w.k d o e (fun t=>absurd (B.tbN d t).1 (Nat.not_lt.mpr q.2)) (fun ⟨p,hp,x⟩=>(B.pl p hp).2 (x▸q.1)) fun m=>(S.ownX m).2.2.2.elim (fun x=>x.2 q.1) fun x=>absurd (B.ioN d x).1 (Nat.not_lt.mpr q.2)
end
section
variable {K:Ct}{ns:fJ}{Γ:eO}
noncomputable def eA.hide (B:eA K ns Γ)(D:Addr→Prop)(hd:∀d,D d→K.N≤d∧¬dY B.pls d):eA K ns Γ where
 toBs:=B.toBs.hide D hd
 env:=B.env
 ok:=B.ok
 glb:=B.glb
 cel:=B.cel
theorem LU {a c p q pos}(ha:cM K ns Γ a p)(hc:bH K ns Γ c q):bH K ns Γ (.dct1 a c) (.Dict [some p] [q] pos):=fun B σ β k z Q E S hev hp=>by
 refine wpAny_Dict_any (by simp) rfl (by simp) (by simp) ?_
 let D:Addr→Prop:=fun b=>b=σ.s.heap.objs.size
 have f:∀d,D d→dM σ.s.heap d:=fun d e=>e▸aY
 have hl:(σ.s.heap.push (cW [] 0)).get? σ.s.heap.objs.size=some (cW [] 0):=Heap.get?_push_size _ rfl
 have hd:=S.hd f
 have SH:=S.hide bF f hd fun d e=>⟨_,(show d=σ.s.heap.objs.size from e)▸hl⟩
 refine pairTrees_cons_walk (ha.ev (B.hide D hd) (σ.to (σ.s.heap.push (cW [] 0)) σ.s.toks) β _ z _ E SH hev fun σ1 v1 x1 g1 r1 k1=>?_)
 refine hc (B.hide D hd) σ1 β _ z _ E g1.S k1 fun σ2 v2 x2 g2 r2 k2=>pairTrees_nil_walk ?_
 refine aG (aA k2) fun hkey k2=>?_
 have r1:=r1.mono g2.g
 refine aT (rV hkey r1) fun ka ajI=>?_;subst ajI
 have g:=g1.trans g2
 unfold storeAll
 rw [List.forIn_cons]
 refine wpAny_bind (wpAny_bind (wY (w':=[(x1,x2)]) (es:=[]) (l:=[]) (qK (B.hide D hd).toBs σ2) (LE K) (g.w.hid SH ⟨.inr rfl,(hd _ rfl).1⟩ hl) rfl List.nodup_nil r1 hkey r2 (Nat.zero_le _) rfl fun h3 tk3 es' n' hs hd3 hr3 hn3=>wpAny_pure (wpAny_pure ?_)))
 have hk2:∀b o,σ2.s.heap.get? b=some o→¬D b→h3.get? b=some o:=fun b o e n=>(hs.2 b n).trans e
 have G:=eC.show (hd:=hd) (tk2:=tk3) S bF f g hk2
 exact hp (σ2.to h3 tk3) _ (.dct [(x1,x2)]) G (jU _ es' n' ⟨rfl,⟨hd3,g.S.offX (hd:=hd) (fun d q x=>(S.fresh (f d q)).1 (.inl x)) (d:=σ.s.heap.objs.size) rfl⟩,kY.mono hr3 (sS (hd:=hd) hk2),hn3⟩) k2
end
def LV (pair:Bool)(t:Expr):Prop:=pair=true→∃ts k p,t=.Tuple ts k p
structure LW (K:Ct)(pair:Bool)(I:Addr)(ds:List Addr)(xs:List V)(Z:Nat→Heap→Gh→Prop):Prop where
 mono:∀i h h' g g',Z i h g→(∀a∈ds,∀o,h.get? a=some o→h'.get? a=some o)→(∀a o,g a o→g' a o)→Z i h' g'
 live:∀i h g,Z i h g→∀a∈ds,∃o,h.get? a=some o
 next:∀i x (s:Shared) g (Q:Value→Shared→Prop) E target,xs[i]? =some x→LV pair target→Z i s.heap g→pH g s→(∀a o,g a o→a∉ds)→
  (∀v h' tk,(∀b o,s.heap.get? b=some o→b∉ds→h'.get? b=some o)→Z (i+1) h' g→Rp K.w.params (fun a o=>g a o∨(s.heap.objs.size≤a∧h'.get? a=some o)) v x→Q v {s with heap:=h',toks:=tk})→
  wpAny K.M K.A (pyNext (.ref I)) (fun r s₁=>∃v,r=some v∧wpAny K.M K.A (letOwnedTupleGo target (.ref I) v) (fun _ s₂=>Q v s₂) E s₁) E s
 stop:∀(s:Shared) g (Q:Option Value→Shared→Prop) E,Z xs.length s.heap g→pH g s→(∀a o,g a o→a∉ds)→
  (∀h' tk,(∀b o,s.heap.get? b=some o→b∉ds→h'.get? b=some o)→Q none {s with heap:=h',toks:=tk})→wpAny K.M K.A (pyNext (.ref I)) Q E s
 self:∀i (s:Shared) g (Q:Value→Shared→Prop) E,Z i s.heap g→Q (.ref I) s→wpAny K.M K.A (pyIter (.ref I)) Q E s
section
variable {M:Model}{A:Around}{E:Value→Shared→Prop}{s:Shared}
theorem HO {target:Expr}{I:Addr}{v:Value}{o:Obj}{c:String}{fs:Array Value}{Q:Unit→Shared→Prop}(ho:s.heap.get? I=some o)(hc:o.cls=.type c)(hd:o.data=.fields fs)
  (hn:(["enumerate","zip","dict_itemiterator","dict_reverseitemiterator","odict_iterator","itertools.zip_longest","itertools.pairwise"]:List String).contains c=false) (h:Q () s):wpAny M A (letOwnedTupleGo target (.ref I) v) Q E s:=by
 have main:∀v:Value,wpAny M A (do
   let (.ref r,.ref a):=(Value.ref I,v)|return
   let o←load r
   match o.cls,o.data with
   |.type n,.fields vs=>
    if ["enumerate","zip","dict_itemiterator","dict_reverseitemiterator","odict_iterator","itertools.zip_longest","itertools.pairwise"].contains n && vs[0]? ==some (rawInt a) then
     rule "for.unpacks-the-owned-tuple"
     updateField r 0 .none
   |_,_=>pure ():Sem Unit) Q E s:=by
  intro v
  cases v<;>first
   |exact wpAny_pure h
   |(
    rename_i a
    refine wpAny_bind (wpAny_load ho ?_)
    refine (Eq.symm hc)▸?_;refine (Eq.symm hd)▸?_
    dsimp only
    rw [hn,Bool.false_and,if_neg Bool.false_ne_true]
    exact wpAny_pure h)
 cases target<;>first|exact wpAny_pure h|exact main v
end
section
variable {K:Ct}
theorem rW {pair:Bool}{I:Addr}{xs:List V}{It:Nat→Heap→Prop}{Dt:Gh→Prop}(m1:∀i h h',It i h→(∀o,h.get? I=some o→h'.get? I=some o)→It i h')(m2:∀g g',Dt g→(∀a o,g a o→g' a o)→Dt g')
  (lv:∀i h,It i h→∃o,h.get? I=some o∧∃c fs,o.cls=.type c∧o.data=.fields fs∧(["enumerate","zip","dict_itemiterator","dict_reverseitemiterator","odict_iterator","itertools.zip_longest","itertools.pairwise"]:List String).contains c=false)
  (nx:∀i x (s:Shared) g Q E,xs[i]? =some x→It i s.heap→Dt g→pH g s→(∀v h' tk,It (i+1) h'→Heap.SameBut I s.heap h'→Rp K.w.params g v x→Q (some v) {s with heap:=h',toks:=tk})→wpAny K.M K.A (pyNext (.ref I)) Q E s)
  (sp:∀(s:Shared) g Q E,It xs.length s.heap→Dt g→pH g s→(∀h',(∀b o,b≠I→s.heap.get? b=some o→h'.get? b=some o)→Q none {s with heap:=h'})→wpAny K.M K.A (pyNext (.ref I)) Q E s)
  (sf:∀i (s:Shared) Q E,It i s.heap→Q (.ref I) s→wpAny K.M K.A (pyIter (.ref I)) Q E s):LW K pair I [I] xs (fun i h g=>It i h∧Dt g) where
 mono:=fun i h h' g g' z hk hg=>⟨m1 i h h' z.1 (hk I (.head _)),m2 g g' z.2 hg⟩
 live:=fun i h g z a ha=>List.mem_singleton.mp ha▸(lv i h z.1).imp fun _ q=>q.1
 next:=fun i x s g Q E target hx _ z hg _ hQ=>nx i x s g _ E hx z.1 z.2 hg fun v h' tk hi hs hr=>⟨v,rfl,by
  refine aD (lv _ _ hi) fun o ho ajY=>?_;obtain ⟨c,fs,hc,hd,hn⟩:=ajY
  exact HO (s:={s with heap:=h',toks:=tk}) ho hc hd hn (hQ v h' tk (fun b o e n=>(hs.2 b fun q=>n (q▸.head _)).trans e) ⟨hi,z.2⟩ (hr.mono fun _ _ q=>.inl q))⟩
 stop:=fun s g Q E z hg _ hQ=>sp s g Q E z.1 z.2 hg fun h' hk=>hQ h' s.toks fun b o e n=>hk b o (fun q=>n (q▸.head _)) e
 self:=fun i s g Q E z hq=>sf i s Q E z.1 hq
theorem zI {pair:Bool}{I ax:Addr}{vs:List Value}{n:Nat}{xs:List V}:LW K pair I [I] xs (fun i h g=>h.IsListIter I ax i∧g ax (cH vs n)∧bP K.w.params g vs xs):=
 rW (It:=fun i h=>h.IsListIter I ax i) (Dt:=fun g=>g ax (cH vs n)∧bP K.w.params g vs xs) (fun i h h' z hk=>z.at hk) (fun g g' z hg=>⟨hg _ _ z.1,z.2.mono hg⟩) (fun i h z=>let ⟨o,ho,hc,hd⟩:=z;⟨o,ho,_,_,hc,hd,rfl⟩)
  (fun i x s g Q E hx z d hg hQ=>let ⟨v,hv,hr⟩:=bP.get d.2 hx;wpAny_pyNext_list_item z (eS (hg _ _ d.1)) (x:=v) ((List.getElem?_toArray ..).trans hv) fun h' z' hs=>hQ v h' s.toks z' hs hr)
  (fun s g Q E z d hg hQ=>wpAny_pyNext_list_end K.hh z (eS (hg _ _ d.1)) ((List.getElem?_toArray ..).trans (List.getElem?_eq_none (Nat.le_of_eq (bP.length d.2)))) fun h' he=>hQ h' he)
  fun i s Q E z hq=>wpAny_pyIter_listiter z hq
theorem HP {pair:Bool}{I ax:Addr}{vs:List Value}{xs:List V}:LW K pair I [I] xs (fun i h g=>h.IsTupleIter I ax i∧g ax (yV vs)∧bP K.w.params g vs xs):=
 rW (It:=fun i h=>h.IsTupleIter I ax i) (Dt:=fun g=>g ax (yV vs)∧bP K.w.params g vs xs) (fun i h h' z hk=>z.at hk) (fun g g' z hg=>⟨hg _ _ z.1,z.2.mono hg⟩) (fun i h z=>let ⟨o,ho,hc,hd⟩:=z;⟨o,ho,_,_,hc,hd,rfl⟩)
  (fun i x s g Q E hx z d hg hQ=>let ⟨v,hv,hr⟩:=bP.get d.2 hx;wpAny_pyNext_tuple_item z (⟨_,hg _ _ d.1,rfl,0,rfl⟩:s.heap.IsTuple ax vs.toArray) (x:=v) ((List.getElem?_toArray ..).trans hv) fun h' z' hs=>hQ v h' s.toks z' hs hr)
  (fun s g Q E z d hg hQ=>wpAny_pyNext_tuple_end K.hh z (⟨_,hg _ _ d.1,rfl,0,rfl⟩:s.heap.IsTuple ax vs.toArray) ((List.getElem?_toArray ..).trans (List.getElem?_eq_none (Nat.le_of_eq (bP.length d.2)))) fun h' he=>hQ h' he)
  fun i s Q E z hq=>wpAny_pyIter_tupleiter z hq
theorem kY.nth {P:Params}{g:Gh}{l:List (V×V)}:∀{es:List DictEntry} {i:Nat} {k x:V},kY P g es l→l[i]? =some (k,x)→∃e,es[i]? =some e∧Rp P g e.key k∧Rp P g e.val x:=by
 induction l with
 |nil=>intro es i k x _ h;cases h
 |cons p l ih=>
  intro es i k x r h
  obtain ⟨e,v,t,rfl,a,b,c,r⟩:=r
  cases i with
  |zero=>cases h;exact ⟨_,rfl,b,c⟩
  |succ i=>exact ih (es:=t) (i:=i) r h
theorem kY.length {P:Params}{g:Gh}{l:List (V×V)}:∀{es:List DictEntry},kY P g es l→es.length=l.length:=by
 induction l with
 |nil=>intro es r;cases r;rfl
 |cons p l ih=>intro es r;obtain ⟨e,v,t,rfl,_,_,_,r⟩:=r;exact congrArg (· +1) (ih r)
theorem LX {I d:Addr}{es:List DictEntry}{n:Nat}{l:List (V×V)}{pair:Bool}:LW K pair I [I] (l.map (·.1)) (fun i h g=>h.IsKeyIter I d i es.length n∧g d (cW es n)∧kY K.w.params g es l):=
 rW (It:=fun i h=>h.IsKeyIter I d i es.length n) (Dt:=fun g=>g d (cW es n)∧kY K.w.params g es l) (fun i h h' z hk=>z.at hk) (fun g g' z hg=>⟨hg _ _ z.1,kY.mono z.2 hg⟩) (fun i h z=>let ⟨o,ho,hc,hd⟩:=z;⟨o,ho,_,_,hc,hd,rfl⟩)
  (fun i x s g Q E hx z d hg hQ=>by
   rw [List.getElem?_map,Option.map_eq_some_iff] at hx
   refine iJ fun gG gH=>?_;obtain ⟨⟨k,y⟩,hx,rfl⟩:=hx
   obtain ⟨e,he,hk,_⟩:=kY.nth d.2 hx
   refine gH ?_;exact KX z (hg _ _ d.1) he fun h' z' hs=>hQ _ h' s.toks z' hs hk)
  (fun s g Q E z d hg hQ=>EV K.hh z (hg _ _ d.1) (by rw [kY.length d.2,List.length_map];exact Nat.le_refl _) fun h' he=>hQ h' he)
  fun i s Q E z hq=>wpAny_pyIter_keyiter z hq
theorem LY {x:V}:∀(n:Nat) (a:Int) (i:Nat),(Internal.upTo n a)[i]? =some x→x=.int (a+i)∧i<n:=fun n=>by
 induction n with
 |zero=>intro a i h;cases h
 |succ n ih=>
  intro a i h
  cases i with
  |zero=>cases h;exact ⟨by rw [Int.natCast_zero,Int.add_zero],Nat.succ_pos _⟩
  |succ i=>
   refine aG (ih (a+1) i h) fun h1 h2=>?_
   exact ⟨h1.trans (congrArg V.int (by rw [Int.natCast_succ,Int.add_assoc,Int.add_comm 1])),Nat.succ_lt_succ h2⟩
theorem tE:∀(n:Nat) (a:Int),(Internal.upTo n a).length=n:=fun n=>by
 induction n with
 |zero=>intro a;rfl
 |succ n ih=>intro a;exact congrArg (· +1) (ih (a+1))
theorem HQ {I:Addr}{a:Int}{n:Nat}{pair:Bool}:LW K pair I [I] (Internal.upTo n a) (fun i h _=>IsRangeIter h I (a+i) ((n:Int) - i) 1∧True):=
 rW (It:=fun i h=>IsRangeIter h I (a+i) ((n:Int) - i) 1) (Dt:=fun _=>True) (fun i h h' z hk=>hk _ z) (fun g g' z hg=>z) (fun i h z=>⟨_,z,_,_,rfl,rfl,rfl⟩)
  (fun i x s g Q E hx z d hg hQ=>by
   refine aG (LY n a i hx) fun ajZ hlt=>?_;subst ajZ
   refine wpAny_pyNext_range_item z (by lia) fun h' z' hs=>hQ _ h' _ ?_ hs ⟨_,rfl⟩
   rw [Int.natCast_succ, ←Int.add_assoc, ←Int.sub_sub];exact z')
  (fun s g Q E z d hg hQ=>by
   rw [tE] at z
   exact wpAny_pyNext_range_end K.hh z (by lia) fun h' he=>hQ h' he)
  fun i s Q E z hq=>wpAny_pyIter_rangeiter z hq
theorem HR {x:V}:∀(l:List V) (a:Int) (i:Nat),(lW a l)[i]? =some x→∃y,l[i]? =some y∧x=.tup [.int (a+i),y]:=fun l=>by
 induction l with
 |nil=>intro a i h;cases h
 |cons y l ih=>
  intro a i h
  cases i with
  |zero=>cases h;exact ⟨y,rfl,by rw [Int.natCast_zero,Int.add_zero]⟩
  |succ i=>
   refine aD (ih (a+1) i h) fun z h1 h2=>?_
   exact ⟨z,h1,h2.trans (by rw [Int.natCast_succ,Int.add_assoc,Int.add_comm 1])⟩
theorem HS:∀(l:List V) (a:Int),(lW a l).length=l.length:=fun l=>by
 induction l with
 |nil=>intro a;rfl
 |cons y l ih=>intro a;exact congrArg (· +1) (ih (a+1))
theorem BX {x:V}:∀(l:List (V×V)) (i:Nat),(nS l)[i]? =some x→∃k y,l[i]? =some (k,y)∧x=.tup [k,y]:=fun l=>by
 induction l with
 |nil=>intro i h;cases h
 |cons p l ih=>
  intro i h
  cases i with
  |zero=>cases h;exact (bW _ _ ⟨rfl,rfl⟩)
  |succ i=>exact ih i h
theorem BY:∀(l:List (V×V)),(nS l).length=l.length:=fun l=>by
 induction l with
 |nil=>rfl
 |cons p l ih=>exact congrArg (· +1) ih
theorem LZ {e it ax:Addr}{vs:List Value}{n:Nat}{xs:List V}(hei:e≠it):
  LW K true e [e,it] (lW 0 xs) (fun i h g=>(∃old,IsEnum h e it i old)∧h.IsListIter it ax i∧g ax (cH vs n)∧bP K.w.params g vs xs) where
 mono:=fun i h h' g g' st hk hg=>⟨st.1.imp fun old q=>hk e (.head _) _ q,st.2.1.at fun o q=>hk it (.tail _ (.head _)) o q,hg _ _ st.2.2.1,st.2.2.2.mono hg⟩
 live:=fun i h g st a ha=>by
  rcases List.mem_cons.mp ha with rfl|ha
  ·exact st.1.elim fun old q=>⟨_,q⟩
  ·exact List.mem_singleton.mp ha▸st.2.1.imp fun _ q=>q.1
 next:=fun i x s g Q E target hx ht st hg hd hQ=>by
  refine iJ fun gG gH=>?_;refine yU st fun akL hit ha hr=>?_;obtain ⟨old,he⟩:=akL
  refine aD (HR xs 0 i hx) fun y hy akM=>?_;subst akM
  refine aD (bP.get hr hy) fun v hv hrv=>?_
  refine nK (ht rfl) fun ts tk tp akN=>?_;subst akN
  refine gH ?_;refine wpAny_pyNext_enum_item he hit (eS (hg _ _ ha)) (x:=v) ((List.getElem?_toArray ..).trans hv) hei fun h' ho hit' hT hsz hk=>⟨_,rfl,?_⟩
  have hTe:s.heap.objs.size≠e:=Ne.symm (Nat.ne_of_lt (Heap.lt_size he))
  refine wpAny_letOwnedTupleGo_enum (s:={s with heap:=h',toks:=s.toks+1}) ho fun h'' he'' hs''=>?_
  refine hQ _ h'' _ (fun b o q hb=>(hs''.2 b fun e'=>hb (e'▸.head _)).trans (hk b o (fun e'=>hb (e'▸.head _)) (fun e'=>hb (e'▸.tail _ (.head _))) q)) ⟨⟨v,?_⟩,hit'.at fun o q=>(hs''.2 it (Ne.symm hei)).trans q,ha,hr⟩
   (bW _ [.int i s.toks,v] ⟨rfl,.inr ⟨Nat.le_refl _,(hs''.2 _ hTe).trans hT⟩,bP.cons ⟨_,by rw [Int.zero_add]⟩ (bP.cons (hrv.mono fun a o g=>.inl g) bP.nil)⟩)
  rw [Int.natCast_succ];exact he''
 stop:=fun s g Q E st hg hd hQ=>by
  rw [HS] at st
  refine yU st fun akO hit ha hr=>?_;obtain ⟨old,he⟩:=akO
  exact wpAny_pyNext_enum_end K.hh he hit (eS (hg _ _ ha)) ((List.getElem?_toArray ..).trans (List.getElem?_eq_none (Nat.le_of_eq (bP.length hr)))) fun h' hx=>hQ h' s.toks fun b o e hb=>hx b o (fun e'=>hb (e'▸.tail _ (.head _))) e
 self:=fun i s g Q E st hq=>let ⟨old,he⟩:=st.1;wpAny_pyIter_enum he hq
theorem nH:entryFor table "dict_itemiterator.__iter__"=some Builtin.«dict_keyiterator.__iter__»:=
 entryFor_alias (id':="dict_keyiterator.__iter__") (by kernel_rfl) rfl (by decide+kernel) (by kernel_rfl)
theorem HT {I d:Addr}{es:List DictEntry}{n:Nat}{l:List (V×V)}:
  LW K true I [I] (nS l) (fun i h g=>(∃ok ov,IsItemIter h I d i es.length n ok ov)∧g d (cW es n)∧kY K.w.params g es l) where
 mono:=fun i h h' g g' st hk hg=>⟨let ⟨ok,ov,q⟩:=st.1;⟨ok,ov,hk I (.head _) _ q⟩,hg _ _ st.2.1,kY.mono st.2.2 hg⟩
 live:=fun i h g st a ha=>List.mem_singleton.mp ha▸let ⟨ok,ov,q⟩:=st.1;⟨_,q⟩
 next:=fun i x s g Q E target hx ht st hg hd hQ=>by
  refine iJ fun gG gH=>?_;refine iK st fun akP ha hr=>?_;obtain ⟨ok,ov,hit⟩:=akP
  refine dI (BX l i hx) fun k y hy akQ=>?_;subst akQ
  refine iA (kY.nth hr hy) fun e he hk hv=>?_
  refine nK (ht rfl) fun ts tk tp akR=>?_;subst akR
  refine gH ?_;refine HE hit (hg _ _ ha) he fun h' ho hT hk'=>⟨_,rfl,?_⟩
  have hTe:s.heap.objs.size≠I:=Ne.symm (Nat.ne_of_lt (Heap.lt_size hit))
  refine wpAny_letOwnedTupleGo_items (s:={s with heap:=h'}) ho fun h'' he'' hs''=>?_
  exact hQ _ h'' _ (fun b o q hb=>(hs''.2 b fun e'=>hb (e'▸.head _)).trans (hk' b o (fun e'=>hb (e'▸.head _)) q)) ⟨(bW _ _ he''),ha,hr⟩
   (bW _ [e.key,e.val] ⟨rfl,.inr ⟨Nat.le_refl _,(hs''.2 _ hTe).trans hT⟩,bP.cons (hk.mono fun a o g=>.inl g) (bP.cons (hv.mono fun a o g=>.inl g) bP.nil)⟩)
 stop:=fun s g Q E st hg hd hQ=>by
  rw [BY] at st
  refine iK st fun akS ha hr=>?_;obtain ⟨ok,ov,hit⟩:=akS
  exact KY K.hh hit (hg _ _ ha) (by refine (Eq.symm (kY.length hr))▸?_;exact Nat.le_refl _) fun h' he=>hQ h' s.toks fun b o e hb=>he b o (fun e'=>hb (e'▸.head _)) e
 self:=fun i s g Q E st hq=>by
  refine iK st fun akT _ _=>?_;obtain ⟨ok,ov,hit⟩:=akT
  have hT:s.TypeIs (.ref I) "dict_itemiterator":=⟨_,hit,rfl⟩
  refine wpAny_pyIter_slot hT F.slot_dict_itemiterator_iter (wpAny_call_entry F.slot_dict_itemiterator_iter hT nH ?_ (F.args_dict_itemiterator_iter_1 _))
  show wpAny _ _ (ret (.ref I)) _ _ s
  exact wpAny_pure ⟨_,rfl,"dict_itemiterator",_,hT,F.slot_dict_itemiterator_next.lookup,hq⟩
end
section
variable {K:Ct}{ns:fJ}{Γ:eO}
structure iU (K:Ct)(ns:fJ)(Γ:eO)(pair:Bool)(sr:Sr)(pe:Expr):Prop where
 ev:∀(B:eA K ns Γ) (σ:Pt) (β:Type) (k:List V→Fm→Option β) (z:β) (Q:Value→Shared→Prop) (E:Value→Shared→Prop),gZ B.toBs σ→jW K.C Internal.glb sr β σ.ρ k=some z→
  (∀σ1 h' tk I ds Z xs,eC B.toBs false σ σ1→lJ σ1.s.heap h'→(∀d∈ds,dM σ1.s.heap d)→LW K pair I ds xs Z→Z 0 h' (gS B.toBs σ1)→k xs σ1.ρ=some z→Q (.ref I) (σ1.to h' tk).s)→
  wpAny K.M K.A (eval pe B.env) (fun xv s₁=>wpAny K.M K.A (pyIter xv) Q E s₁) E σ.s
 px:sr=.val .bad∨PX pe
theorem iU.plain {pair:Bool}{sr:Sr}{pe:Expr}(h:iU K ns Γ pair sr pe){C:CF}{β:Type}{ρ:Fm}{k:List V→Fm→Option β}{z:β}(hev:jW C Internal.glb sr β ρ k=some z):PX pe:=h.px.elim (fun q=>by subst q;exact no hev) id
theorem BZ {B:eA K ns Γ}{σ:Pt}{a:Addr}{o:Obj}(g:gS B.toBs σ a o):(a==sysModules)=false:=beq_eq_false_iff_ne.mpr fun e=>g.2 (.inl (e▸B.sys.1))
theorem oS {h:Heap}{a:Addr}(f:dM h a)(d:Addr)(m:d∈[a]):dM h d:=List.mem_singleton.mp m▸f
theorem HU {pair a p}(ha:cM K ns Γ a p):iU K ns Γ pair (.val a) p:=⟨fun B σ β k z Q E S hev hp=>ha.ev B σ β _ z _ E S hev fun σ1 v1 x1 g1 r1 k1=>by
  cases x1 with
  |lst l=>
   refine eP r1 fun a vs n ajJ hl hr=>?_;subst ajJ
   exact wpAny_pyIter_list (eS hl.1) (hp σ1 _ _ _ _ _ _ g1.any bF (oS aY) zI ⟨⟨_,Heap.get?_push_size _ rfl,rfl,rfl⟩,hl,hr⟩ k1)
  |tup l=>
   refine bY r1 fun a vs ajK hl hr=>?_;subst ajK
   exact wpAny_pyIter_tuple (⟨_,hl.1,rfl,0,rfl⟩:σ1.s.heap.IsTuple a vs.toArray) (hp σ1 _ _ _ _ _ _ g1.any bF (oS aY) HP ⟨⟨_,Heap.get?_push_size _ rfl,rfl,rfl⟩,hl,hr⟩ k1)
  |dct l=>
   refine sK r1 fun a es n ajL hl hr _=>?_;subst ajL
   exact vF (BZ hl) hl.1 (hp σ1 _ _ _ _ _ _ g1.any bF (oS aY) LX ⟨⟨_,Heap.get?_push_size _ rfl,rfl,rfl⟩,hl,hr⟩ k1)
  |_=>exact no k1,ha.px.imp (congrArg Sr.val) id⟩
theorem zJ {pair:Bool}{B:eA K ns Γ}{σ σ1:Pt}{β:Type}{k:List V→Fm→Option β}{z:β}{Q:Value→Shared→Prop}{E:Value→Shared→Prop}{m n:Int}{t u w':Tok}{h2:Heap}{tk2:Tok}{r:Addr}(g1:eC B.toBs false σ σ1)
  (hp:∀σ1 h' tk I ds Z xs,eC B.toBs false σ σ1→lJ σ1.s.heap h'→(∀d∈ds,dM σ1.s.heap d)→LW K pair I ds xs Z→Z 0 h' (gS B.toBs σ1)→k xs σ1.ρ=some z→Q (.ref I) (σ1.to h' tk).s)
  (hz:BI m n (fun l=>k l σ1.ρ)=some z) (hk:lJ σ1.s.heap h2) (hr:IsRange h2 r m n 1 t u w'):wpAny K.M K.A (pyIter (.ref r)) Q E (σ1.to h2 tk2).s:=by
 refine iJ fun gG gH=>?_;refine aG (aA hz) fun b1 hz=>?_
 refine aG (aA hz) fun b2 hz=>?_
 refine aG (aA hz) fun b3 hz=>?_
 refine aG (aA hz) fun b4 hz=>?_
 refine gH ?_;have b1:=of_decide_eq_true ((kN _ _).symm.trans b1)
 have b2:=of_decide_eq_true ((kN _ _).symm.trans b2)
 have b3:=of_decide_eq_true ((kN _ _).symm.trans b3)
 have b4:=of_decide_eq_true ((kN _ _).symm.trans b4)
 have l1: -1000000≤m:=Int.le_trans (by decide) (Int.le_of_lt b4)
 have l2:m≤1000000:=Int.le_trans (Int.le_of_lt b2) (by decide)
 have l3: -1000000≤n:=Int.le_trans (by decide) (Int.le_of_lt b3)
 have l4:n≤1000000:=Int.le_trans (Int.le_of_lt b1) (by decide)
 refine wpAny_pyIter_range (s:=(σ1.to h2 tk2).s) hr (small_one (Int.le_trans (by decide) l1) (Int.lt_of_le_of_lt l2 (by decide)) (Int.le_trans (by decide) l3) (Int.lt_of_le_of_lt l4 (by decide))) ?_
 have hsz:Builtin.Range.rangeSize m n 1=(((n - m).toNat:Nat):Int) - ((0:Nat):Int):=by
  rw [rangeSize_one]
  by_cases q:m<n
  ·rw [if_pos q];exact ((Int.sub_zero _).trans (Int.toNat_of_nonneg (Int.sub_nonneg_of_le (Int.le_of_lt q)))).symm
  ·rw [if_neg q,Int.toNat_of_nonpos (Int.sub_nonpos_of_le (Int.not_lt.mp q))];rfl
 refine hp σ1 _ _ _ [h2.objs.size] _ _ g1 (fun a o e=>Heap.get?_push_of_some _ (hk a o e)) (oS ⟨h2,hk,Nat.le_refl _⟩) HQ ⟨?_,trivial⟩ hz
 rw [show ((Int.sub n m).toNat:Int) - ((0:Nat):Int)=Builtin.Range.rangeSize m n 1 from hsz.symm,Int.natCast_zero,Int.add_zero]
 exact Heap.get?_push_size _ rfl
theorem CB {pair a p y gp pos}(hy:y=("range":Str)) (hg:jX ns y=true) (ha:cM K ns Γ a p):iU K ns Γ pair (.rng1 a) (.Call (.Name y gp) [p] [] pos):=⟨fun B σ β k z Q E S hev hp=>by
  subst hy
  obtain ⟨hg1,hg2⟩:=eT hg
  refine Call_Name rfl (dN K.cx B.ok (B.glb _ hg1) (B.nsg S) (B.nsb S) (v:=.type "range") (List.mem_of_getElem? (l:=eK) (i:=7) rfl) ?_ hg2)
  refine (Eq.symm (bN (ha.plain hev) [] B.env))▸?_
  refine PyProof.Rows.callWith_type rfl (Calls.evalArgs_plain (Calls.spliced_cons (ha.ev B σ β _ z _ E S hev fun σ1 v1 x1 g1 r1 k1=>Calls.spliced_nil ?_)))
  refine iJ fun gG gH=>?_;obtain ⟨n,rfl,k1⟩:=kO k1
  obtain ⟨_,rfl⟩:=r1
  refine gH ?_;exact call_range_1 (zJ g1.any hp k1 bF (Heap.get?_push_size _ rfl)),.inr nA⟩
theorem CC {pair a b p q y gp pos}(hy:y=("range":Str)) (hg:jX ns y=true) (ha:cM K ns Γ a p) (hb:cM K ns Γ b q):iU K ns Γ pair (.rng2 a b) (.Call (.Name y gp) [p,q] [] pos):=⟨fun B σ β k z Q E S hev hp=>by
  subst hy
  refine aG (eT hg) fun hg1 hg2=>?_
  refine bD (bA a hev) fun _ _ hs=>?_
  refine Call_Name rfl (dN K.cx B.ok (B.glb _ hg1) (B.nsg S) (B.nsb S) (v:=.type "range") (List.mem_of_getElem? (l:=eK) (i:=7) rfl) ?_ hg2)
  refine (Eq.symm (bN (ha.plain hev) [q] B.env))▸?_;refine (Eq.symm (bN (hb.plain hs) [] B.env))▸?_
  refine PyProof.Rows.callWith_type rfl (Calls.evalArgs_plain (Calls.spliced_cons (ha.ev B σ β _ z _ E S hev fun σ1 v1 x1 g1 r1 k1=>Calls.spliced_cons (hb.ev B σ1 β _ z _ E g1.S k1 fun σ2 v2 x2 g2 r2 k2=>Calls.spliced_nil ?_))))
  refine aD (kO k2) fun m ajM k2=>?_;subst ajM
  refine aD (kO k2) fun n ajN k2=>?_;subst ajN
  refine aT r1 fun _ ajO=>?_;subst ajO
  refine aT r2 fun _ ajP=>?_;subst ajP
  exact call_range_2 (zJ (g1.trans g2).any hp k2 bF (Heap.get?_push_size _ rfl)),.inr nA⟩
theorem HV {a p y gp pos}(hy:y=("enumerate":Str)) (hg:jX ns y=true) (ha:cM K ns Γ a p):iU K ns Γ true (.enm a) (.Call (.Name y gp) [p] [] pos):=⟨fun B σ β k z Q E S hev hp=>by
  subst hy
  refine aG (eT hg) fun hg1 hg2=>?_
  refine Call_Name rfl (dN K.cx B.ok (B.glb _ hg1) (B.nsg S) (B.nsb S) (v:=.type "enumerate") (List.mem_of_getElem? (l:=eK) (i:=8) rfl) ?_ hg2)
  refine (Eq.symm (bN (ha.plain hev) [] B.env))▸?_
  refine PyProof.Rows.callWith_type rfl (Calls.evalArgs_plain (Calls.spliced_cons (ha.ev B σ β _ z _ E S hev fun σ1 v1 x1 g1 r1 k1=>Calls.spliced_nil ?_)))
  refine aD (BU k1) fun l ajQ k1=>?_;subst ajQ
  refine eP r1 fun a vs n ajR hl hr=>?_;subst ajR
  refine call_enumerate_list (eS hl.1) fun h' he hit hsz hk=>wpAny_pyIter_enum (s:=(σ1.to h' σ1.s.toks).s) he ?_
  exact hp σ1 h' σ1.s.toks _ [σ1.s.heap.objs.size+1,σ1.s.heap.objs.size] _ _ g1.any hk (fun d hd=>(List.mem_cons.mp hd).elim (fun e=>e▸.le (Nat.le_succ _)) (oS aY d)) (LZ (Nat.succ_ne_self _)) ⟨⟨_,by simpa using he⟩,hit,hl,hr⟩ k1,.inr nA⟩
theorem HW {n y yp a ap pos}(hl:(ap.endLine==pos.line)=true)(ha:a=("items":Str)) (hy:Γ[n]? =some (some y)) (hio:K.io=none∨n≠0):iU K ns Γ true (.itm n) (.Call (.Attribute (.Name y yp) a ap) [] [] pos):=⟨fun B σ β k z Q E S hev hp=>by
  subst ha
  refine aD (zC (s:=σ.ρ.at n) hev) fun kvs e hev=>?_
  refine mF (S.freeze (Fm.at_some e nofun) hio (.inr ⟨kvs,rfl,rfl⟩)) fun a p e1 r S' hg hr=>?_
  refine sK hr fun _ es m q hd hrd _=>?_
  cases q
  let σ1:Pt:=⟨σ.own.set n none,σ.ρ.set n (.v (.dct kvs)),σ.s⟩
  have hsys:(a==sysModules)=false:=BZ (B:=B) (σ:=σ1) hd
  refine wpAny_Call_method0_late lE hl (B.ok.evalName hy e1 r (bW ("dict") ("dict.items") ⟨PySem.F.plainAttrs_dict,PySem.F.slot_dict_items,PySem.F.type_dict_items,⟨_,hd.1,rfl⟩,fun a q=>by cases q;exact ⟨_,hd.1,rfl⟩,?_⟩))
  refine Calls.callWith_builtin (args:=[]) rfl (PyProof.Rows.evalArgs_none ?_)
  show wpAny _ _ (call (.builtin "dict.items") [.ref a] []) _ _ _
  refine BQ hsys hd.1 (BR (s:=(σ.to (σ.s.heap.push {cls:=.type "dict_items",data:=.fields #[.ref a]}) σ.s.toks).s) ⟨_,Heap.get?_push_size _ rfl,rfl,rfl⟩ (Heap.get?_push_of_some _ hd.1) ?_)
  exact hp σ1 _ σ.s.toks _ [(σ.s.heap.push {cls:=.type "dict_items",data:=.fields #[.ref a]}).objs.size] _ _ ⟨S',hg,rfl,fun e=>nomatch e⟩ (fun b o q=>Heap.get?_push_of_some _ (Heap.get?_push_of_some _ q)) (oS ⟨_,bF,Nat.le_refl _⟩) HT
   ⟨(bW _ _ (Heap.get?_push_size _ rfl)),hd,hrd⟩ hev,.inr nA⟩
theorem CD {pair n g gp y yp pos}(hn:g=("sorted":Str)) (hg:jX ns g=true) (hy:Γ[n]? =some (some y)):iU K ns Γ pair (.srtE n) (.Call (.Name g gp) [.Name y yp] [] pos):=⟨fun B σ β k z Q E S hev hp=>by
  subst hn
  refine aG (eT hg) fun hg1 hg2=>?_
  refine aD (zC (s:=σ.ρ.at n) hev) fun kvs e hev=>?_
  refine KA (tC S e) fun p a es m q1 q2 q3 q4 q5 q6 q7=>?_
  cases kvs with
  |cons _ _=>exact no hev
  |nil=>
   cases q5
   refine Call_Name rfl (dN K.cx B.ok (B.glb _ hg1) (B.nsg S) (B.nsb S) (v:=.builtin "sorted") (List.mem_of_getElem? (l:=eK) (i:=9) rfl) ?_ hg2)
   refine xC (.inl ⟨_,rfl⟩) rfl (Calls.evalArgs_plain (Calls.spliced_cons (B.ok.evalName hy q1 q3 (Calls.spliced_nil ?_))))
   refine wZ K.hh q7 q4 fun h' hm l hk hkm hlm ⟨c,hl⟩=>wpAny_pyIter_list (s:=(σ.to h' σ.s.toks).s) (eS hl) ?_
   have g1:eC B.toBs true σ (σ.to h' σ.s.toks):=.new S _ hk
   exact hp (σ.to h' σ.s.toks) _ _ _ _ _ _ g1.any bF (oS aY) zI ⟨⟨_,Heap.get?_push_size _ rfl,rfl,rfl⟩,(show gS B.toBs (σ.to h' σ.s.toks) l (cH [] c) from ⟨hl,(S.fresh ⟨hm,hkm,hlm⟩).1⟩),bP.nil⟩ hev,.inr nA⟩
end
structure jA {K:Kx}(B:Bs K)(qs:List Pl)(σ σ':Pt):Prop where
 S:gZ B σ'
 w:Gw K B.pls σ.own σ.s.heap σ'.own σ'.s.heap
 u:Up σ.s σ'.s
 r:∀q∈qs,∀v,rd σ.s.heap q v→rd σ'.s.heap q v
section
variable {K:Kx}{B:Bs K}{qs:List Pl}{σ σ1 σ2:Pt}
theorem jA.trans (h:jA B qs σ σ1)(k:jA B qs σ1 σ2):jA B qs σ σ2:=⟨k.S,h.w.trans k.w,h.u.trans k.u,fun q m v r=>k.r q m v (h.r q m v r)⟩
theorem jA.here (S:gZ B σ):jA B qs σ σ:=⟨S,.refl,rfl,fun _ _ _ r=>r⟩
theorem eC.gos {pu:Bool}(h:eC B pu σ σ1)(hq:∀q∈qs,q∈B.pls):jA B qs σ σ1:=⟨h.S,h.w.toGw,h.u,fun q m=>h.w.r q (hq q m)⟩
theorem eC.pure' {pu b:Bool}(g:eC B pu σ σ1)(h:b=true→pu=true):eC B b σ σ1:=⟨g.S,g.w,g.u,fun e=>g.p (h e)⟩
theorem jA.g (h:jA B qs σ σ1):∀x o,gS B σ x o→gS B σ1 x o:=h.w.g
end
section
variable {K:Ct}{ns:fJ}{Γ:eO}
def Tg (K:Ct)(Γ:eO)(i:Nat)(n:Str):Prop:=Γ[i]? =some (some n)∧(K.io=none∨i≠0)
inductive EX (K:Ct)(Γ:eO):List Nat→List Expr→Prop
 |nil:EX K Γ [] []
 |cons {i n p xs ts}:Tg K Γ i n→EX K Γ xs ts→EX K Γ (i::xs) (.Name n p::ts)
theorem EX.ok {xs ts}(h:EX K Γ xs ts){env:Env}:ts.length=xs.length∧(assignEach ts env).length=xs.length∧(assignEach ts env).findIdx? (·.1)=none:=by
 induction h with
 |nil=>exact ⟨rfl,rfl,rfl⟩
 | @cons i n p xs ts _ _ ih=>
  have e:assignEach (.Name n p::ts) env=(false,assign (.Name n p) env)::assignEach ts env:=rfl
  rw [e]
  refine ⟨congrArg (· +1) ih.1,congrArg (· +1) ih.2.1,?_⟩
  rw [List.findIdx?_cons,ih.2.2];rfl
variable {B:eA K ns Γ}{qs:List Pl}{E:Value→Shared→Prop}
theorem iG {σ:Pt}{i:Nat}{n:Str}{v:Value}{x:V}{Q:Unit→Shared→Prop}(hΓ:Tg K Γ i n)(S:gZ B.toBs σ)(hr:Vl B.toBs σ v x)(hq:∀q∈qs,B.pls[i]? ≠some q)(hp:∀σ',jA B.toBs qs σ σ'→σ'.ρ=σ.ρ.set i (.v x)→Q () σ'.s):
  wpAny K.M K.A (bindName B.env n v) Q E σ.s:=by
 refine aT (kF hΓ.1 B.ok.len) fun p h1=>?_
 refine aT (kF h1 S.lenP) fun sl h2=>?_
 refine aT (kF h2 S.lenO.symm) fun oa h3=>?_
 refine B.ok.bind hΓ.1 h1 (S.slot i p sl oa h1 h2 h3).there fun h' tk U=>?_
 refine aG (S.store_v hΓ.2 h1 U hr) fun S' w=>?_
 exact hp ⟨σ.own.set i none,σ.ρ.set i (.v x),{σ.s with heap:=h',toks:=tk}⟩ ⟨S',w,rfl,fun q m=>(U.oth q fun e=>hq q m (e▸h1)).1⟩ rfl
theorem CE {xs ts}(ht:EX K Γ xs ts):∀{σ:Pt} {vs:List Value} {vals:List V} {Q:Unit→Shared→Prop},gZ B.toBs σ→Vls B.toBs σ vs vals→xs.length=vals.length→(∀i∈xs,∀q∈qs,B.pls[i]? ≠some q)→
  (∀σ',jA B.toBs qs σ σ'→σ'.ρ=aZ xs (vals.map .v) σ.ρ→Q () σ'.s)→wpAny K.M K.A (assignInOrder ((assignEach ts B.env).map (·.2)) vs) Q E σ.s:=by
 induction ht with
 |nil=>
  intro σ vs vals Q S hr hl _ hp
  cases vals with
  |nil=>cases hr;exact wpAny_pure (hp σ (.here S) rfl)
  |cons _ _=>cases hl
 | @cons i n p xs ts h _ ih=>
  intro σ vs vals Q S hr hl hq hp
  cases vals with
  |nil=>cases hl
  |cons x r=>
   refine bY hr fun v t ajU h1 h2=>?_;subst ajU
   show wpAny _ _ (do holding _ (assign (.Name n p) B.env _);assignInOrder ((assignEach ts B.env).map (·.2)) _) Q E σ.s
   refine wpAny_bind (wpAny_holding (show wpAny _ _ (do standAt p;bindName B.env n _) _ E σ.s from wpAny_bind (wpAny_standAt (iG h S h1 (hq i (.head _)) fun σ1 g1 e1=>?_))))
   exact ih g1.S (bP.mono h2 g1.g) (Nat.succ.inj hl) (fun j hj=>hq j (.tail _ hj)) fun σ2 g2 e2=>hp σ2 (g1.trans g2) (by refine (Eq.symm e2)▸?_;refine (Eq.symm e1)▸?_;rfl)
theorem tF {σ:Pt}{xs ts}{k:Nat}{tp:Pos}{v:Value}{vals:List V}{Q:Unit→Shared→Prop}(ht:EX K Γ xs ts)(S:gZ B.toBs σ)(hr:Vl B.toBs σ v (.tup vals))(hl:xs.length=vals.length)(hq:∀i∈xs,∀q∈qs,B.pls[i]? ≠some q)
  (hp:∀σ',jA B.toBs qs σ σ'→σ'.ρ=aZ xs (vals.map .v) σ.ρ→Q () σ'.s):wpAny K.M K.A (assign (.Tuple ts k tp) B.env v) Q E σ.s:=by
 refine iJ fun gG gH=>?_;obtain ⟨a,vs,rfl,ha,hr⟩:=hr
 obtain ⟨_,e1,e2⟩:=ht.ok (env:=B.env)
 refine gH ?_;refine wpAny_assign_Tuple K.hh (⟨_,ha.1,rfl,0,rfl⟩:σ.s.heap.IsTuple a vs.toArray) (by refine (Eq.symm e1)▸?_;refine (Eq.symm hl)▸?_;refine (bP.length hr)▸?_;exact (Eq.symm List.size_toArray)▸rfl) e2 fun h' he=>?_
 have hk:lJ σ.s.heap h':=fun b o e=>he b o (Nat.ne_of_lt (Heap.lt_size e)) e
 have g0:eC B.toBs true σ (σ.to h' σ.s.toks):=.new S _ hk
 exact CE ht g0.S (bP.mono hr g0.g) hl hq fun σ2 g2 e2=>hp σ2 ⟨g2.S,(Gw.ext hk).trans g2.w,Up.trans g0.u g2.u,fun q m v r=>g2.r q m v (r.at fun o=>hk _ o)⟩ e2
inductive mQ (K:Ct)(Γ:eO):Bool→List Nat→Expr→Prop
 |one {i n p}:Tg K Γ i n→mQ K Γ false [i] (.Name n p)
 |two {i j ts k p}:EX K Γ [i,j] ts→mQ K Γ true [i,j] (.Tuple ts k p)
theorem mQ.p {pair idx target}(h:mQ K Γ pair idx target):LV pair target:=fun e=>by
 subst e;cases h;exact (jU _ _ _ rfl)
theorem aeF {β:Type}{z:β}{l:List V}{f:List V→Option β}(h:iW 2 l f=some z):l.length=2∧f l=some z:=by
 cases l with
 |nil=>exact no h
 |cons a l=>cases l with
  |nil=>exact no h
  |cons b l=>cases l with
   |nil=>exact ⟨rfl,h⟩
   |cons c l=>exact no h
theorem rF {σ:Pt}{pair idx target}{v:Value}{x:V}{β:Type}{k:Fm→Option β}{z:β}{Q:Unit→Shared→Prop}(ht:mQ K Γ pair idx target)(S:gZ B.toBs σ)(hr:Vl B.toBs σ v x)(hq:∀i∈idx,∀q∈qs,B.pls[i]? ≠some q)(hb:bL idx x σ.ρ k=some z)
  (hp:∀σ',jA B.toBs qs σ σ'→k σ'.ρ=some z→Q () σ'.s):wpAny K.M K.A (assign target B.env v) Q E σ.s:=by
 cases ht with
 | @one i n p h=>exact (show wpAny _ _ (do standAt p;bindName B.env n v) Q E σ.s from wpAny_bind (wpAny_standAt (iG h S hr (hq i (.head _)) fun σ1 g e=>hp σ1 g (e▸hb))))
 | @two i j ts kk pp h=>cases x with
  |tup l=>
   obtain ⟨e1,e2⟩:=aeF (show iW 2 l (fun l=>k (aZ [i,j] (l.map .v) σ.ρ))=some z from hb)
   exact tF h S hr e1.symm hq fun σ1 g e=>hp σ1 g (e▸e2)
  |_=>exact no hb
theorem zK {M:Model}{A:Around}{s:Shared}{env:Env}{Q:Bool→Shared→Prop}(h:Q false s)(pes:List Expr):
  wpAny M A (forIn pes false fun c r=>if r=true then do let ok←isTrue c env (eval c env);pure (ForInStep.yield ok) else pure (ForInStep.yield r)) Q E s:=by
 induction pes with
 |nil=>exact wpAny_pure h
 |cons p r ih=>
  rw [List.forIn_cons]
  exact wpAny_bind (wpAny_pure ih)
inductive mR (K:Ct)(ns:fJ)(Γ:eO):List Internal.E→List Expr→Prop
 |nil:mR K ns Γ [] []
 |cons {e r p t}:kM K ns Γ e p→mR K ns Γ r t→mR K ns Γ (e::r) (p::t)
theorem MA {ifs pes}(h:mR K ns Γ ifs pes):∀{σ:Pt} {β:Type} {k:V→Fm→Option β} {z:β} {Q:Bool→Shared→Prop},(∀x ρ,k x ρ=some z→∃t,x=.bool t)→gZ B.toBs σ→dR K.C Internal.glb ifs β σ.ρ k=some z→
  (∀σ' t,eC B.toBs (aM ifs) σ σ'→k (.bool t) σ'.ρ=some z→Q t σ'.s)→
  wpAny K.M K.A (forIn pes true fun c r=>if r=true then do let ok←isTrue c B.env (eval c B.env);pure (ForInStep.yield ok) else pure (ForInStep.yield r)) Q E σ.s:=by
 induction h with
 |nil=>intro σ β k z Q hk S hev hp;exact wpAny_pure (hp σ true (.here S _) hev)
 | @cons e r p t he hr ih=>
  intro σ β k z Q hk S hev hp
  rw [List.forIn_cons,if_pos rfl]
  cases hr with
  |nil=>
   refine wpAny_bind (wpAny_bind (he B σ β k z _ E hk S hev fun σ1 c g1 k1=>wpAny_pure ?_))
   cases c with
   |true=>exact wpAny_pure (hp σ1 true (g1.pure' (by rw [show aM [e]=(aL e && true) from rfl,Bool.and_true];exact id)) k1)
   |false=>exact wpAny_pure (hp σ1 false (g1.pure' (by rw [show aM [e]=(aL e && true) from rfl,Bool.and_true];exact id)) k1)
  | @cons e2 r2 p2 t2 h2 h3=>
   refine wpAny_bind (wpAny_bind (he B σ β _ z _ E (pP (f:=fun c ρ₁=>cond c (dR K.C Internal.glb (e2::r2) β ρ₁ k) (k (.bool false) ρ₁))) S hev fun σ1 c g1 k1=>wpAny_pure ?_))
   cases c with
   |true=>exact ih hk g1.S k1 fun σ2 t g2=>hp σ2 t (g1.trans g2)
   |false=>exact zK (hp σ1 false (g1.pure' fun q=>(iQ q).1) k1) _
end
noncomputable def dV (Γ:eO)(scope:Scope)(vars:List Str):eO:=(Γ.map fun o=>o.bind fun x=>if scope.names.lookup x==some .free then some x else none)++vars.map some
noncomputable abbrev rl (env:Env) (p:Str×NameKind):Str×NameKind:=if (p.2==NameKind.free && env.scope.kind==.function && env.kindOf p.1==some .cell) then (p.1,NameKind.cell) else (p.1,p.2)
theorem EY {α:Type}{x n:Str}{k:α}{r:List (Str×α)}:(((n,k)::r).lookup x=some k∧x=n)∨(((n,k)::r).lookup x=r.lookup x∧x≠n):=by
 rw [List.lookup_cons]
 cases hx:x==n with
 |true=>exact .inl ⟨rfl,eq_of_beq hx⟩
 |false=>exact .inr ⟨rfl,fun e=>by rw [e,beq_self_eq_true] at hx;cases hx⟩
theorem zL (env:Env)(p:Str×NameKind):rl env p=p∨(p.2=.free∧rl env p=(p.1,.cell)):=by
 by_cases h:(p.2==NameKind.free && env.scope.kind==.function && env.kindOf p.1==some .cell)=true
 ·exact .inr ⟨eq_of_beq (Bool.and_eq_true_iff.mp (Bool.and_eq_true_iff.mp h).1).1,if_pos h⟩
 ·exact .inl (if_neg h)
theorem hJ {env:Env}{x:Str}{k:NameKind}:∀{names:List (Str×NameKind)},names.lookup x=some k→(names.map (rl env)).lookup x=some k∨(k=.free∧(names.map (rl env)).lookup x=some .cell):=fun {names}=>by
 induction names with
 |nil=>intro h;cases h
 |cons p r ih=>
  obtain ⟨n,j⟩:=p
  intro h
  rcases EY (x:=x) (n:=n) (k:=j) (r:=r) with ⟨e,q⟩|⟨e,q⟩
  ·rw [e] at h;cases h;subst q
   refine (Eq.symm List.map_cons)▸?_
   rcases zL env (x,k) with c|⟨c1,c2⟩
   ·rw [c,List.lookup_cons,beq_self_eq_true];exact .inl rfl
   ·rw [c2,List.lookup_cons,beq_self_eq_true];exact .inr ⟨c1,rfl⟩
  ·rw [e] at h
   have e2:((rl env (n,j))::r.map (rl env)).lookup x=(r.map (rl env)).lookup x:=by
    have:(rl env (n,j)).1=n:=by rcases zL env (n,j) with c|⟨_,c⟩<;>rw [c]
    rw [show rl env (n,j)=(n,(rl env (n,j)).2) from Prod.ext this rfl,List.lookup_cons,beq_eq_false_iff_ne.mpr q]
   refine (Eq.symm List.map_cons)▸?_;refine (Eq.symm e2)▸?_;exact ih h
theorem mem_of_lookup {names:List (Str×NameKind)}{x:Str}{k:NameKind}(h:names.lookup x=some k):(x,k)∈names:=by
 induction names with
 |nil=>cases h
 |cons p r ih=>
  obtain ⟨n,j⟩:=p
  rcases EY (x:=x) (n:=n) (k:=j) (r:=r) with ⟨e,q⟩|⟨e,q⟩
  ·rw [e] at h;cases h;subst q;exact .head _
  ·exact .tail _ (ih (e▸h))
structure cN (ns:fJ)(Γ:eO)(scope:Scope)(vars:List Str):Prop where
 kind:scope.kind=.function
 ncell:∀p∈scope.names,p.2≠.cell
 loc:∀p∈scope.names,p.2=.local→scope.names.lookup p.1=some .local
 free:∀x,(x,NameKind.free)∈scope.names→ns.lookup x=some .cell∧some x∈Γ
 vr:∀x∈vars,scope.names.lookup x=some .local∧(x==("__debug__":Str))=false∧(x==("__classdict__":Str))=false
 nd:vars.Nodup
section
variable {K:Ct}{ns:fJ}{Γ:eO}{scope:Scope}{vars:List Str}{cl:List (Str×Addr)}{C:Addr}
theorem eA.cellAt (B:eA K ns Γ){x:Str}(hx:ns.lookup x=some .cell)(hm:some x∈Γ):∃c,B.env.cells.lookup x=some c:=by
 refine aT (ix hm) fun i hi=>?_
 rcases B.ok.names i x hi with ⟨hk,_⟩|⟨_,c,hc,_⟩
 ·rw [B.cel x hx] at hk;cases hk
 ·exact ⟨c,hc⟩
theorem lR {i:Nat}{x:Str}(h:(dV Γ scope vars)[i]? =some (some x)):(i<Γ.length∧Γ[i]? =some (some x)∧scope.names.lookup x=some .free)∨(Γ.length≤i∧vars[i - Γ.length]? =some x):=by
 unfold dV at h
 by_cases hi:i<Γ.length
 ·rw [List.getElem?_append_left (by rw [List.length_map];exact hi),List.getElem?_map,Option.map_eq_some_iff] at h
  refine aD h fun o h1 h2=>?_
  refine aD (Option.bind_eq_some_iff.mp h2) fun y aj0 h3=>?_;subst aj0
  by_cases hf:(scope.names.lookup y==some .free)=true
  ·rw [if_pos hf] at h3;cases h3;exact .inl ⟨hi,h1,eq_of_beq hf⟩
  ·rw [if_neg hf] at h3;cases h3
 ·have hi:=Nat.le_of_not_lt hi
  rw [List.getElem?_append_right (by rw [List.length_map];exact hi),List.length_map,List.getElem?_map,Option.map_eq_some_iff] at h
  refine aD h fun y h1 h2=>?_
  cases h2;exact .inr ⟨hi,h1⟩
theorem HX {B:eA K ns Γ}(F:cN ns Γ scope vars)(hcl:∀x,(x,NameKind.free)∈scope.names→cl.lookup x=B.env.cells.lookup x):iS (compEnvC scope cl C B.env) (dV Γ scope vars) (B.pls++vars.map (.loc C)) where
 kind:=F.kind
 gl:=B.ok.gl
 bl:=B.ok.bl
 names:=fun i x h=>by
  rcases lR h with ⟨hi,h1,hf⟩|⟨hi,h1⟩
  ·have hm:=mem_of_lookup hf
   rcases B.ok.names i _ h1 with ⟨hk,_⟩|⟨_,c,hc,hp⟩
   ·rw [B.cel _ (F.free _ hm).1] at hk;cases hk
   ·exact .inr ⟨(hJ hf).elim .inr fun q=>.inl q.2,c,(hcl _ hm).trans hc,(List.getElem?_append_left (B.ok.len▸hi)).trans hp⟩
  ·refine .inl ⟨(hJ (F.vr _ (List.mem_of_getElem? h1)).1).elim id fun q=>(nomatch q.1),?_⟩
   refine (Eq.symm (List.getElem?_append_right (B.ok.len▸hi)))▸?_;refine (Eq.symm List.getElem?_map)▸?_;refine B.ok.len▸?_;refine (Eq.symm h1)▸?_;rfl
 dbg:=fun i x h=>(lR h).elim (fun q=>B.ok.dbg i _ q.2.1) fun q=>(F.vr _ (List.mem_of_getElem? q.2)).2
 len:=by unfold dV;rw [List.length_append,List.length_append,List.length_map,List.length_map,List.length_map,B.ok.len]
noncomputable def eA.comp (B:eA K ns Γ)(C:Addr)(F:cN ns Γ scope vars)(hC:K.N≤C∧¬B.out C∧¬dY B.pls C)(hcl:∀x,(x,NameKind.free)∈scope.names→cl.lookup x=B.env.cells.lookup x):eA K scope.names (dV Γ scope vars) where
 toBs:=B.toBs.wide C vars hC F.nd
 env:=compEnvC scope cl C B.env
 ok:=HX F hcl
 glb:=fun x h=>(hJ h).elim id fun q=>(nomatch q.1)
 cel:=fun x h=>(hJ h).elim id fun q=>(nomatch q.1)
theorem CG {env:Env}:∀(l:List (Str×NameKind)) (cs:List (Str×Addr)),(∀x,(x,NameKind.free)∈l→∃c,env.cells.lookup x=some c)→
  ∃cl,(forIn l cs fun p r=>match p with|(name,k)=>if (k==NameKind.free)=true then do let c←cellOf env name;pure (ForInStep.yield ((name,c)::r)) else pure (ForInStep.yield r):Sem (List (Str×Addr)))=pure cl∧∀x,((x,NameKind.free)∈l→cl.lookup x=env.cells.lookup x)∧((x,NameKind.free)∉l→cl.lookup x=cs.lookup x):=fun l=>by
 induction l with
 |nil=>exact fun cs _=>⟨cs,rfl,fun x=>⟨fun h=>(nomatch h),fun _=>rfl⟩⟩
 |cons p r ih=>
  obtain ⟨n,k⟩:=p
  intro cs h
  cases hk:k==NameKind.free with
  |true=>
   have hk:=eq_of_beq hk
   subst hk
   refine aT (h n (.head _)) fun c hc=>?_
   refine aD (ih ((n,c)::cs) fun x hx=>h x (.tail _ hx)) fun cl h1 h2=>?_
   refine ⟨cl,?_,fun x=>⟨fun hx=>?_,fun hx=>?_⟩⟩
   ·rw [List.forIn_cons]
    have e:cellOf env n=pure c:=by unfold cellOf;rw [hc]
    simp only [beq_self_eq_true,if_true,e]
    exact h1
   ·by_cases hr:(x,NameKind.free)∈r
    ·exact (h2 x).1 hr
    ·have e:x=n:=(List.mem_cons.mp hx).elim (fun q=>(Prod.mk.inj q).1) fun q=>absurd q hr
     subst e
     rw [(h2 x).2 hr,hc,List.lookup_cons,beq_self_eq_true]
   ·rw [(h2 x).2 fun q=>hx (.tail _ q),List.lookup_cons,beq_eq_false_iff_ne.mpr fun (e:x=n)=>hx (e▸.head _)]
  |false=>
   refine aD (ih cs fun x hx=>h x (.tail _ hx)) fun cl h1 h2=>?_
   refine ⟨cl,?_,fun x=>⟨fun hx=>?_,fun hx=>(h2 x).2 fun q=>hx (.tail _ q)⟩⟩
   ·rw [List.forIn_cons]
    simp only [hk,Bool.false_eq_true,if_false]
    exact h1
   ·rcases List.mem_cons.mp hx with q|q
    ·rw [←(Prod.mk.inj q).2,beq_self_eq_true] at hk;cases hk
    ·exact (h2 x).1 q
theorem nN {env:Env}(h:∀x,(x,NameKind.free)∈scope.names→∃c,env.cells.lookup x=some c):∃cl,closureFor scope env=pure cl∧∀x,(x,NameKind.free)∈scope.names→cl.lookup x=env.cells.lookup x:=by
 refine aD (CG scope.names [] h) fun cl h1 h2=>?_
 refine ⟨cl,?_,fun x hx=>(h2 x).1 hx⟩
 show (_>>=fun r=>pure r:Sem (List (Str×Addr)))=_
 exact (congrArg (fun m:Sem (List (Str×Addr))=>m>>=fun r=>pure r) h1).trans rfl
end
def EZ (M:Model)(A:Around)(env:Env)(target pelt:Expr)(pifs:List Expr)(v:Value)(Q1:Value→Shared→Prop)(Q2:Shared→Prop)(E:Value→Shared→Prop)(s:Shared):Prop:=
 wpAny M A (assign target env v) (fun _ s₂=>wpAny M A (forIn pifs true fun c r=>if r=true then do let ok←isTrue c env (eval c env);pure (ForInStep.yield ok) else pure (ForInStep.yield r))
  (fun ok s₃=>if ok=true then wpAny M A (eval pelt env) Q1 E s₃ else Q2 s₃) E s₂) E s
def aeG (M:Model)(A:Around)(env:Env)(target pelt:Expr)(pifs:List Expr)(it acc:Value)(R:Result→Shared→Prop)(P:Shared→Prop)(E:Value→Shared→Prop)(r:Option Value)(s₁:Shared):Prop:=match r with
 |none=>R (.ok .next) s₁
 |some v=>wpAny M A (letOwnedTupleGo target it v) (fun _ s₂=>EZ M A env target pelt pifs v (fun x s₄=>wpAny M A (call (.builtin "list.append") [acc,x]) (fun _ s₅=>P s₅) E s₄) P E s₂) E s₁
theorem CI {prog:Program}{w:World}{A:Around}{s:Shared}{elt target iter:Expr}{ifs:List Expr}{scope:Scope}{pos:Pos}{it acc:Value}{env:Env}{R:Result→Shared→Prop}(I:Nat→Shared→Prop)
  (turn:∀n s E,I n s→wpAny (model prog w) A (pyNext it) (aeG (model prog w) A env target elt ifs it acc R (fun s₅=>∃m,m<n∧I m s₅) E) E s)
  (n:Nat) (h:I n s):codeAny (model prog w) A (.compLoop (.ListComp elt [⟨target,iter,ifs,0⟩] scope pos) 0 it acc env) R s:=by
 refine codeAny_loop rfl I (fun n s hI=>?_) n h
 show wpAny _ A ((compTurn (.ListComp elt [⟨target,iter,ifs,0⟩] scope pos) 0 it acc env).onRaise (fun x=>do noteFrame x env;theTreesLotGoes x)) _ _ s
 refine wpAny_noted ?_
 rw [compTurn_list]
 refine wpAny_bind (wpAny_standAt (wpAny_bind (wpAny_mono (turn n s _ hI) (fun r s₁ h₁=>?_) fun _ _ h'=>h')))
 cases r with
 |none=>exact wpAny_pure h₁
 |some v=>
  refine wpAny_bind (wpAny_mono h₁ (fun _ s₀ h₀'=>wpAny_bind (wpAny_mono h₀' (fun _ s₂ h₂=>wpAny_bind (wpAny_mono h₂ (fun okb s₃ h₃=>?_) fun _ _ h'=>h')) fun _ _ h'=>h')) fun _ _ h'=>h')
  cases okb with
  |false=>exact wpAny_pure ⟨rfl,h₃⟩
  |true=>exact wpAny_bind (wpAny_bind (wpAny_mono h₃ (fun x s₄ h₄=>wpAny_bind (wpAny_mono h₄ (fun _ s₅ h₅=>wpAny_pure (wpAny_pure ⟨rfl,h₅⟩)) fun _ _ h'=>h')) fun _ _ h'=>h'))
section
variable {K:Kx}{B:Bs K}{qs:List Pl}{σ0 σ:Pt}{D:Addr→Prop}{h2:Heap}
theorem jA.poke (G:jA B qs σ0 σ)(hd:∀d,D d→B.out d∧K.N≤d)(hX:∀b o,D b→σ0.s.heap.get? b≠some o)(hqp:∀q∈qs,q∈B.pls)(hk:∀b o,σ.s.heap.get? b=some o→¬D b→h2.get? b=some o)(hl:∀d,D d→∃o,h2.get? d=some o){tk2:Tok}:jA B qs σ0 (σ.to h2 tk2) where
 S:=G.S.poke hd hk hl
 w:=G.w.beside hk hX
 u:=G.u.trans (show Up σ.s (σ.to h2 tk2).s from rfl)
 r:=fun q m v r=>(G.r q m v r).at fun o g=>hk _ o g fun d=>(B.pl q (hqp q m)).2 (hd _ d).1
theorem MB (hd:∀d,D d→B.out d∧K.N≤d){own:wN}{h:Heap}(hk:∀b o,h.get? b=some o→¬D b→h2.get? b=some o)(a:Addr)(o:Obj)(g:gv B own h a o):gv B own h2 a o:=⟨hk a o g.1 fun d=>g.2 (.inl (hd a d).1),g.2⟩
theorem jA.hid (S:gZ B σ0)(G:jA B qs σ0 σ){d:Addr}(q:B.out d∧K.N≤d){o:Obj}(e:σ0.s.heap.get? d=some o):σ.s.heap.get? d=some o:=G.w.hid S q e
end
section
variable {K:Ct}{ns:fJ}{Γ:eO}
structure kG (B:eA K ns Γ)(pair:Bool)(I:Addr)(ds:List Addr)(xs:List V)(Z:Nat→Heap→Gh→Prop)(X:Addr→Prop)(σ0:Pt)(qs:List Pl):Prop where
 src:LW K pair I ds xs Z
 hd:∀d,X d→B.out d∧K.N≤d
 hX:∀b o,X b→σ0.s.heap.get? b≠some o
 sub:∀d∈ds,X d
 qp:∀q∈qs,q∈B.pls
variable {B:eA K ns Γ}{pair:Bool}{I:Addr}{ds:List Addr}{xs:List V}{Z:Nat→Heap→Gh→Prop}{X:Addr→Prop}{σ0 σ:Pt}{qs:List Pl}{i:Nat}{E:Value→Shared→Prop}
theorem kG.next (L:kG B pair I ds xs Z X σ0 qs)(G:jA B.toBs qs σ0 σ)(z:Z i σ.s.heap (gS B.toBs σ)){x:V}(hx:xs[i]? =some x){target:Expr}(ht:LV pair target){Q:Value→Shared→Prop}
  (hp:∀v (h2:Heap) tk2,jA B.toBs qs σ0 (σ.to h2 tk2)→Vl B.toBs (σ.to h2 tk2) v x→(∀σ',jA B.toBs qs (σ.to h2 tk2) σ'→Z (i+1) σ'.s.heap (gS B.toBs σ'))→(∀b o,σ.s.heap.get? b=some o→b∉ds→h2.get? b=some o)→(∀a o,gS B.toBs σ a o→gS B.toBs (σ.to h2 tk2) a o)→Q v (σ.to h2 tk2).s):
  wpAny K.M K.A (pyNext (.ref I)) (fun r s₁=>∃v,r=some v∧wpAny K.M K.A (letOwnedTupleGo target (.ref I) v) (fun _ s₂=>Q v s₂) E s₁) E σ.s:=by
 refine L.src.next i x σ.s (gS B.toBs σ) Q E target hx ht z (qK B.toBs σ) (fun a o g m=>g.2 (.inl (L.hd a (L.sub a m)).1)) fun v h2 tk2 hk z2 hr=>?_
 have hd:∀d,d∈ds→B.out d∧K.N≤d:=fun d m=>L.hd d (L.sub d m)
 have hg:=MB (own:=σ.own) hd hk
 have G2:jA B.toBs qs σ0 (σ.to h2 tk2):=G.poke hd (fun b o m=>L.hX b o (L.sub b m)) L.qp hk (L.src.live _ _ _ z2)
 exact hp v h2 tk2 G2 (hr.mono fun a o g=>g.elim (hg a o) fun g=>⟨g.2,(G.S.fresh (.le g.1)).1⟩) (fun σ' g'=>L.src.mono _ _ _ _ _ z2 (fun a m o e=>g'.hid G2.S (hd a m) e) fun a o g=>g'.g a o (hg a o g)) hk hg
theorem kG.stop (L:kG B pair I ds xs Z X σ0 qs)(S:gZ B.toBs σ)(z:Z xs.length σ.s.heap (gS B.toBs σ)){Q:Option Value→Shared→Prop}
  (hp:∀(h2:Heap) tk2,(∀b o,σ.s.heap.get? b=some o→b∉ds→h2.get? b=some o)→Q none (σ.to h2 tk2).s):wpAny K.M K.A (pyNext (.ref I)) Q E σ.s:=
 L.src.stop σ.s (gS B.toBs σ) Q E z (qK B.toBs σ) (fun a o g m=>g.2 (.inl (L.hd a (L.sub a m)).1)) hp
end
section
variable {K:Ct}{ns:fJ}{Γ:eO}
abbrev vK (K:Ct) (B:eA K ns Γ) (qs:List Pl) (target pelt:Expr) (pifs:List Expr) (RR:List V→Fm→List V→Prop):Prop:=
 ∀(x:V) (r:List V) (σ:Pt) (v:Value) (z:List V) (Q1:Value→Shared→Prop) (Q2:Shared→Prop) (E:Value→Shared→Prop),RR (x::r) σ.ρ z→gZ B.toBs σ→Vl B.toBs σ v x→(∀σ',jA B.toBs qs σ σ'→RR r σ'.ρ z→Q2 σ'.s)→
  (∀σ' u y z',jA B.toBs qs σ σ'→Vl B.toBs σ' u y→z=y::z'→RR r σ'.ρ z'→Q1 u σ'.s)→EZ K.M K.A B.env target pelt pifs v Q1 Q2 E σ.s
structure CJ (B:eA K ns Γ)(qs:List Pl)(σ0:Pt)(D:Addr)(xs:List V)(Z:Nat→Heap→Gh→Prop)(RR:List V→Fm→List V→Prop)(zs:List V)(i:Nat)(σ:Pt)(vs:List Value)(n:Nat)(ys r:List V):Prop where
 G:jA B.toBs qs σ0 σ
 z:Z i σ.s.heap (gS B.toBs σ)
 lst:σ.s.heap.get? D=some (cH vs n)
 rp:Vls B.toBs σ vs ys
 len:ys.length≤i
 ev:RR (xs.drop i) σ.ρ r
 zs:ys++r=zs
variable {B:eA K ns Γ}{pair:Bool}{I D:Addr}{ds:List Addr}{xs zs:List V}{Z:Nat→Heap→Gh→Prop}{RR:List V→Fm→List V→Prop}{σ0:Pt}{qs:List Pl}{target pelt iter:Expr}{pifs:List Expr}{scope:Scope}{pos:Pos}{R:Result→Shared→Prop}
theorem HY (L:kG B pair I ds xs Z (fun d=>d=D∨d∈ds) σ0 qs)(hDds:D∉ds)(ht:LV pair target)(turn:vK K B qs target pelt pifs RR)(hsz:xs.length≤mH){i:Nat}{σ:Pt}{vs:List Value}{n:Nat}{ys r:List V}(c:CJ B qs σ0 D xs Z RR zs i σ vs n ys r)(hlt:i<xs.length)
  {P:Shared→Prop} (hP:∀σ' vs' n' ys' r',CJ B qs σ0 D xs Z RR zs (i+1) σ' vs' n' ys' r'→P σ'.s) {E:Value→Shared→Prop}:
  wpAny K.M K.A (pyNext (.ref I)) (aeG K.M K.A B.env target pelt pifs (.ref I) (.ref D) R P E) E σ.s:=by
 refine wpAny_mono (L.next (Q:=fun v s₂=>EZ K.M K.A B.env target pelt pifs v (fun x s₄=>wpAny K.M K.A (call (.builtin "list.append") [.ref D,x]) (fun _ s₅=>P s₅) E s₄) P E s₂) c.G c.z (List.getElem?_eq_getElem hlt) ht fun v h2 tk2 G2 hv hz hk hg=>?_) (fun r s₁ h₁=>h₁.elim fun v q=>q.1▸q.2) fun _ _ e=>e
 have hDo:=L.hd D (.inl rfl)
 have ev:=c.ev
 rw [List.drop_eq_getElem_cons hlt] at ev
 refine turn _ _ (σ.to h2 tk2) v r _ _ _ ev G2.S hv (fun σ' g e=>hP σ' vs n ys r ⟨G2.trans g,hz σ' g,g.hid G2.S hDo (hk D _ c.lst hDds),bP.mono c.rp fun a o q=>g.g a o (hg a o q),Nat.le_succ_of_le c.len,e,c.zs⟩)
  fun σ' u y z' g hu e1 e2=>?_
 subst e1
 refine append_at (s:=σ'.s) (g.hid G2.S hDo (hk D _ c.lst hDds)) (fun h3 hs hD3=>?_) ?_
 ·have hk3:∀b o,σ'.s.heap.get? b=some o→¬b=D→h3.get? b=some o:=fun b o e n=>(hs.2 b n).trans e
  have hd3:∀d,d=D→B.out d∧K.N≤d:=fun d e=>e▸hDo
  have g3:=MB (own:=σ'.own) hd3 hk3
  have G3:=(G2.trans g).poke (tk2:=σ'.s.toks) hd3 (fun b o e=>L.hX b o (.inl e)) L.qp hk3 fun d e=>⟨_,(show d=D from e)▸hD3⟩
  refine hP (σ'.to h3 σ'.s.toks) (vs++[u]) (n+1) (ys++[y]) z' ⟨G3,?_,?_,?_,?_,e2,?_⟩
  ·exact L.src.mono _ _ _ _ _ (hz σ' g) (fun a m o e=>hk3 a o e fun q=>hDds (q▸m)) g3
  ·refine (Eq.symm (show cH (vs++[u]) (n+1)={cls:=.type "list",data:=.seq (vs.toArray.push u) (n+1)} from by unfold cH;rw [List.push_toArray]))▸?_;exact hD3
  ·exact bP.append (bP.cons (hu.mono g3) bP.nil) (bP.mono c.rp fun a o q=>g3 a o (g.g a o (hg a o q)))
  ·refine (Eq.symm List.length_append)▸?_;exact Nat.succ_le_succ c.len
  ·rw [List.append_assoc];exact c.zs
 ·refine (Eq.symm List.size_toArray)▸?_;refine (Eq.symm (bP.length c.rp))▸?_
  exact iP (Nat.ble_eq.mpr (Nat.le_trans c.len (Nat.le_trans (Nat.le_of_lt hlt) hsz)))
def aeH (B:eA K ns Γ)(qs:List Pl)(σ0:Pt)(D:Addr)(xs:List V)(Z:Nat→Heap→Gh→Prop)(RR:List V→Fm→List V→Prop)(zs:List V)(k:Nat)(s:Shared):Prop:=
 ∃i σ vs n ys r,s=Pt.s σ∧i≤xs.length∧k=xs.length - i∧CJ B qs σ0 D xs Z RR zs i σ vs n ys r
theorem HZ (L:kG B pair I ds xs Z (fun d=>d=D∨d∈ds) σ0 qs)(hDds:D∉ds)(ht:LV pair target)(turn:vK K B qs target pelt pifs RR)(hnil:∀ρ r,RR [] ρ r→r=[])(hsz:xs.length≤mH){σ:Pt}{n0:Nat}(G:jA B.toBs qs σ0 σ)(z:Z 0 σ.s.heap (gS B.toBs σ))
  (hD:σ.s.heap.get? D=some (cH [] n0)) (hev:RR xs σ.ρ zs)
  (hR:∀σ' (h2:Heap) tk2 vs n,jA B.toBs qs σ0 σ'→(∀b o,σ'.s.heap.get? b=some o→b∉ds→h2.get? b=some o)→h2.get? D=some (cH vs n)→Vls B.toBs σ' vs zs→RR [] σ'.ρ []→R (.ok .next) (σ'.to h2 tk2).s):
  codeAny K.M K.A (.compLoop (.ListComp pelt [⟨target,iter,pifs,0⟩] scope pos) 0 (.ref I) (.ref D) B.env) R σ.s:=by
 refine CI (aeH B qs σ0 D xs Z RR zs) (fun k s' E hI=>?_) xs.length (ei6 0 σ [] n0 [] zs ⟨rfl,Nat.zero_le _,rfl,⟨G,z,hD,bP.nil,Nat.le_refl _,hev,rfl⟩⟩)
 refine ad0 hI fun i σ' vs n ys r aj7 hi aj8 c=>?_;subst aj7;subst aj8
 rcases Nat.lt_or_ge i xs.length with hlt|hge
 ·exact HY L hDds ht turn hsz c hlt fun σ2 vs2 n2 ys2 r2 c2=>⟨xs.length - (i+1),Nat.sub_succ_lt_self _ _ hlt,i+1,σ2,vs2,n2,ys2,r2,rfl,hlt,rfl,c2⟩
 ·have e:i=xs.length:=Nat.le_antisymm hi hge
  subst e
  have ev:=c.ev
  rw [List.drop_length] at ev
  cases hnil _ _ ev
  refine L.stop c.G.S c.z fun h2 tk2 hk2=>hR σ' h2 tk2 vs n c.G hk2 (hk2 D _ c.lst hDds) ?_ ev
  rw [←c.zs,List.append_nil];exact c.rp
theorem vL {idx:List Nat}{ifs:List Internal.E}(ht:mQ K Γ pair idx target)(hts:mR K ns Γ ifs pifs)(hq:∀i∈idx,∀q∈qs,B.pls[i]? ≠some q)(hqp:∀q∈qs,q∈B.pls){σ:Pt}{v:Value}{x:V}{β:Type}{kt:V→Fm→Option β}{z:β}{ρb:Fm}(S:gZ B.toBs σ)(hv:Vl B.toBs σ v x)(e1:bL idx x σ.ρ some=some ρb)
  (hb:∀x ρ,kt x ρ=some z→∃t,x=.bool t) (e2:dR K.C Internal.glb ifs β ρb kt=some z) {Q1:Value→Shared→Prop} {Q2:Shared→Prop} {E:Value→Shared→Prop}
  (h0:∀σ',jA B.toBs qs σ σ'→(aM ifs=true→σ'.ρ=ρb)→kt (.bool false) σ'.ρ=some z→Q2 σ'.s) (h1:∀σ',jA B.toBs qs σ σ'→(aM ifs=true→σ'.ρ=ρb)→kt (.bool true) σ'.ρ=some z→wpAny K.M K.A (eval pelt B.env) Q1 E σ'.s):
  EZ K.M K.A B.env target pelt pifs v Q1 Q2 E σ.s:=
 rF ht S hv hq e1 fun σ1 g1 k1=>by
  cases k1
  refine MA hts hb g1.S e2 fun σ2 c g2 k2=>?_
  cases c with
  |true=>exact h1 σ2 (g1.trans (g2.gos hqp)) g2.p k2
  |false=>exact h0 σ2 (g1.trans (g2.gos hqp)) g2.p k2
end
section
variable {K:Ct}{ns:fJ}{Γ:eO}
inductive qM:Bool→Expr→List Str→Prop
 |one {x p}:qM false (.Name x p) [x]
 |two {x y p q k r}:qM true (.Tuple [.Name x p,.Name y q] k r) [x,y]
theorem qM.ne {pair target vars}(h:qM pair target vars):vars≠[]:=by cases h<;>nofun
theorem IA {scope:Scope}{vars:List Str}{i:Nat}{x:Str}(h:vars[i]? =some x):(dV Γ scope vars)[Γ.length+i]? =some (some x):=by
 unfold dV
 rw [List.getElem?_append_right (by rw [List.length_map];exact Nat.le_add_right _ _),List.length_map,Nat.add_sub_cancel_left,List.getElem?_map,h];rfl
theorem qM.is {pair target vars}(h:qM pair target vars){scope:Scope}(h0:0<Γ.length):mQ K (dV Γ scope vars) pair ((List.range vars.length).map (Γ.length+ ·)) target:=by
 have tg:∀(i:Nat) (x:Str),vars[i]? =some x→Tg K (dV Γ scope vars) (Γ.length+i) x:=fun i x e=>⟨IA e,.inr fun q=>absurd h0 (Nat.not_lt.mpr (q▸Nat.le_add_right _ _))⟩
 cases h with
 |one=>exact .one (tg 0 _ rfl)
 |two=>exact .two (.cons (tg 0 _ rfl) (.cons (tg 1 _ rfl) .nil))
theorem xD {α:Type}{l m:List α}{i:Nat}{x:α}:(l++m).set (l.length+i) x=l++m.set i x:=by
 rw [List.set_append_right _ _ (Nat.le_add_right _ _),Nat.add_sub_cancel_left]
theorem UC {α:Type}{l:List α}(h:l.length=2):∃a b,l=[a,b]:=by
 cases l with
 |nil=>cases h
 |cons a l=>cases l with
  |nil=>cases h
  |cons b l=>cases l with
   |nil=>exact bW a b rfl
   |cons _ _=>exact absurd (Nat.succ.inj (Nat.succ.inj h)) (Nat.succ_ne_zero _)
theorem UD {β:Type}{nv:Nat}{x:V}{k:List aF→Option β}{z:β}{ρ bs0:Fm}(h:jH nv x k=some z)(hl:bs0.length=nv):∃bs,bs.length=nv∧k bs=some z∧bL ((List.range nv).map (ρ.length+ ·)) x (ρ++bs0) some=some (ρ++bs):=by
 cases nv with
 |zero=>exact no h
 |succ nv=>cases nv with
  |zero=>
   refine aT (List.length_eq_one_iff.mp hl) fun s aj1=>?_;subst aj1
   exact ⟨[.v x],rfl,h,congrArg some (xD (i:=0))⟩
  |succ nv=>cases nv with
   |succ _=>exact no h
   |zero=>
    refine bD (UC hl) fun s t aj2=>?_;subst aj2
    cases x with
    |tup l=>
     refine aG (aeF (show iW 2 l (fun l=>k (l.map .v))=some z from h)) fun e1 e2=>?_
     refine bD (UC e1) fun a b aj3=>?_;subst aj3
     refine ⟨_,rfl,e2,congrArg some ?_⟩
     show ((ρ++[s,t]).set (ρ.length+0) (.v a)).set (ρ.length+1) (.v b)=_
     refine (Eq.symm xD)▸?_;refine (Eq.symm xD)▸?_;rfl
    |_=>exact no h
noncomputable def ktK (C:CF)(elt:Internal.E)(q:Option V→Fm→Option (List V×Fm))(t:V)(τ:Fm):Option (List V×Fm):=fD t fun c=>cond c (kE C Internal.glb elt _ τ fun y σ=>q (some y) σ) (q none τ)
noncomputable def ktP (C:CF)(elt:Internal.E)(ρb:Fm)(t:V)(_:Fm):Option (Option V):=fD t fun c=>cond c (kE C Internal.glb elt _ ρb fun y _=>some (some y)) (some none)
theorem aeI {C:CF}{elt:Internal.E}{q:Option V→Fm→Option (List V×Fm)}{z:List V×Fm}(x:V)(ρ:Fm)(h:ktK C elt q x ρ=some z):∃t,x=.bool t:=gU (M:=fun x=>∃t,x=.bool t) h fun t _=>⟨t,rfl⟩
theorem aeJ {C:CF}{elt:Internal.E}{ρb:Fm}{z:Option V}(x:V)(ρ:Fm)(h:ktP C elt ρb x ρ=some z):∃t,x=.bool t:=gU (M:=fun x=>∃t,x=.bool t) h fun t _=>⟨t,rfl⟩
noncomputable def YB (C:CF)(idx:List Nat)(ifs:List Internal.E)(elt:Internal.E)(l:List V)(ρ:Fm):Option (List V×Fm):=uV (fun x σ=>bL idx x σ some) (fun σ q=>dR C Internal.glb ifs _ σ (ktK C elt q)) l ρ
noncomputable def aeK (C:CF)(nv:Nat)(ifs:List Internal.E)(elt:Internal.E)(ρ1:Fm)(l:List V):Option (List V):=BH (fun x=>jH nv x fun bs=>dR C Internal.glb ifs _ (ρ1++bs) (ktP C elt (ρ1++bs))) l
def RRk (C:CF)(idx:List Nat)(ifs:List Internal.E)(elt:Internal.E)(ρe:Fm)(l:List V)(ρ:Fm)(z:List V):Prop:=YB C idx ifs elt l ρ=some (z,ρe)
def RRp (C:CF)(nv:Nat)(ifs:List Internal.E)(elt:Internal.E)(ρ1:Fm)(l:List V)(ρ:Fm)(z:List V):Prop:=(∃bs,ρ=ρ1++bs∧bs.length=nv)∧aeK C nv ifs elt ρ1 l=some z
noncomputable def aeL (o:Option V)(z:List V):List V:=match o with
 |some y=>y::z
 |none=>z
noncomputable def MC (C:CF)(idx:List Nat)(ifs:List Internal.E)(elt:Internal.E)(l:List V)(o:Option V)(ρ:Fm):Option (List V×Fm):=(YB C idx ifs elt l ρ).bind fun z=>some (aeL o z.1,z.2)
theorem MD {C:CF}{idx:List Nat}{ifs:List Internal.E}{elt:Internal.E}{ρe ρ:Fm}{x:V}{l z:List V}(h:RRk C idx ifs elt ρe (x::l) ρ z):∃ρb,bL idx x ρ some=some ρb∧dR C Internal.glb ifs _ ρb (ktK C elt (MC C idx ifs elt l))=some (z,ρe):=aQ h
theorem tG {C:CF}{idx:List Nat}{ifs:List Internal.E}{elt:Internal.E}{ρe ρ:Fm}{o:Option V}{l z:List V}(h:MC C idx ifs elt l o ρ=some (z,ρe)):∃z',RRk C idx ifs elt ρe l ρ z'∧z=aeL o z':=by
 refine aD (aQ h) fun aj4 e3 e4=>?_;obtain ⟨z',ρ'⟩:=aj4
 cases e4
 exact ⟨z',e3,rfl⟩
section
variable {B:eA K ns Γ}{qs:List Pl}{pair:Bool}{target pelt:Expr}{pifs:List Expr}{ifs:List Internal.E}{elt:Internal.E}(hts:mR K ns Γ ifs pifs)(hqp:∀q∈qs,q∈B.pls)(helt:bH K ns Γ elt pelt)
include hts hqp helt
theorem aaC {idx:List Nat}{ρe:Fm}(ht:mQ K Γ pair idx target)(hq:∀i∈idx,∀q∈qs,B.pls[i]? ≠some q):vK K B qs target pelt pifs (RRk K.C idx ifs elt ρe):=
 fun x r σ v z Q1 Q2 E hev S hv h0 h1=>by
  refine aD (MD hev) fun ρb e1 e2=>?_
  refine vL ht hts hq hqp S hv e1 aeI e2 (fun σ1 g1 _ k1=>?_) fun σ1 g1 _ k1=>?_
  ·refine aD (tG (o:=none) k1) fun z' e3 aj5=>?_;subst aj5
   exact h0 σ1 g1 e3
  ·refine helt B σ1 _ (fun y σ=>MC K.C idx ifs elt r (some y) σ) _ Q1 E g1.S k1 fun σ2 u y g2 r2 k2=>?_
   refine aD (tG k2) fun z' e3 e4=>?_
   exact h1 σ2 u y z' (g1.trans (g2.gos hqp)) r2 e4 e3
theorem aaD {ρ1:Fm}{nv:Nat}(ht:mQ K Γ pair ((List.range nv).map (ρ1.length+ ·)) target)(hq:∀i∈(List.range nv).map (ρ1.length+ ·),∀q∈qs,B.pls[i]? ≠some q)(hp1:aM ifs=true)(hp2:aL elt=true):vK K B qs target pelt pifs (RRp K.C nv ifs elt ρ1):=
 fun x r σ v z Q1 Q2 E hev S hv h0 h1=>by
  refine iJ fun gG gH=>?_;refine aG hev fun aj6 hev=>?_;obtain ⟨bs0,e0,l0⟩:=aj6
  refine aD (aQ hev) fun o e1 e2=>?_
  refine iA (UD (ρ:=ρ1) e1 l0) fun bs l1 e3 e4=>?_
  refine gH ?_;refine vL ht hts hq hqp S hv (e0▸e4) aeJ e3 (fun σ1 g1 p1 k1=>?_) fun σ1 g1 p1 k1=>?_
  ·cases k1
   exact h0 σ1 g1 ⟨⟨bs,p1 hp1,l1⟩,e2⟩
  ·refine helt B σ1 _ (fun y _=>some (some y)) _ Q1 E g1.S (by rw [p1 hp1];exact k1) fun σ2 u y g2 r2 k2=>?_
   cases k2
   refine aD (aQ e2) fun z' e5 e6=>?_
   cases e6
   exact h1 σ2 u y z' (g1.trans (g2.gos hqp)) r2 rfl ⟨⟨bs,(g2.p hp2).trans (p1 hp1),l1⟩,e5⟩
end
end
section
variable {K:Ct}{ns:fJ}{Γ:eO}
structure pR (B:eA K ns Γ)(σ:Pt)(zs:List V)(C:Addr)(hd:∀d,d=C→K.N≤d∧¬dY B.pls d)(σe:Pt)(v:Value):Prop where
 S:gZ (B.toBs.hide (fun d=>d=C) hd) σe
 w:Gw K.kx B.pls σ.own σ.s.heap σe.own σe.s.heap
 r:∀q∈B.pls,∀v,rd σ.s.heap q v→rd σe.s.heap q v
 u:Up σ.s σe.s
 v:Rp K.w.params (gS (B.toBs.hide (fun d=>d=C) hd) σe) v (.lst zs)
 n:∃m,σe.s.heap.Ns C m
 f:∀o,σ.s.heap.get? C≠some o
 oC:¬B.out C
variable {scope:Scope}{vars:List Str}{pair:Bool}{target pelt iter:Expr}{pifs:List Expr}{pos:Pos}{cl:List (Str×Addr)}
theorem UE (htv:qM pair target vars)(F:cN ns Γ scope vars){B:eA K ns Γ}(hcx:∀x,(x,NameKind.free)∈scope.names→cl.lookup x=B.env.cells.lookup x){σ1:Pt}(S:gZ B.toBs σ1){h2 H h3:Heap}{tk3:Tok}{C D I:Addr}{ds:List Addr}{xs zs:List V}{Z:Nat→Heap→Gh→Prop}{m:Str→Option Value}
  {n0:Nat} {RR:List V→Fm→List V→Prop} (hk:lJ σ1.s.heap h2) (hkH:lJ h2 H) (hds:∀d∈ds,dM σ1.s.heap d) (hD2:h2.objs.size≤D) (hC:H.objs.size≤C) (hkC:lJ H h3) (hns:h3.Ns C m) (hD:H.get? D=some (cH [] n0)) (hsrc:LW K pair I ds xs Z) (z0:Z 0 h2 (gS B.toBs σ1))
  (turn:∀B':eA K scope.names (dV Γ scope vars),(∀i∈(List.range vars.length).map (Γ.length+ ·),∀q∈B.pls,B'.pls[i]? ≠some q)→(∀q∈B.pls,q∈B'.pls)→vK K B' B.pls target pelt pifs RR) (hnil:∀ρ r,RR [] ρ r→r=[]) (hsz:xs.length≤mH) (hev:RR xs (σ1.ρ++List.replicate vars.length .un) zs) {R:Result→Shared→Prop}
  (fin:∀hd σe ρe,pR B σ1 zs C hd σe (.ref D)→RR [] ρe []→σe.ρ=ρe.take B.pls.length→R (.ok .next) σe.s):
  codeAny K.M K.A (.compLoop (.ListComp pelt [⟨target,iter,pifs,0⟩] scope pos) 0 (.ref I) (.ref D) (compEnvC scope cl C B.env)) R {σ1.s with heap:=h3,toks:=tk3}:=by
 have f:∀d,(d=D∨d∈ds)→dM σ1.s.heap d:=fun d e=>e.elim (fun e=>e▸⟨h2,hk,hD2⟩) (hds d)
 have hd1:=S.hd f
 have off:∀d,(d=D∨d∈ds)→¬B.out d:=fun d e x=>(S.fresh (f d e)).1 (.inl x)
 have k1H:lJ σ1.s.heap H:=fun a o e=>hkH a o (hk a o e)
 have k13:lJ σ1.s.heap h3:=fun a o e=>hkC a o (k1H a o e)
 have hl2:=hsrc.live _ _ _ z0
 have hDds:D∉ds:=fun q=>aT (hl2 D q) fun _ e=>absurd (Heap.lt_size e) (Nat.not_lt.mpr hD2)
 have S1:=S.hide k1H f hd1 fun d e=>e.elim (fun e=>⟨_,e▸hD⟩) fun e=>(hl2 d e).imp fun o q=>hkH _ _ q
 have fC:dM H C:=.le hC
 have hCx:=S1.fresh fC
 have nC:K.N≤C∧¬(B.toBs.hide _ hd1).out C∧¬dY (B.toBs.hide _ hd1).pls C:=⟨hCx.2.1,fun x=>hCx.1 (.inl x),fun x=>hCx.1 (.inr (.inl x))⟩
 have nC0:K.N≤C∧¬B.out C∧¬dY B.pls C:=⟨nC.1,fun x=>nC.2.1 (.inl x),nC.2.2⟩
 refine aG (S1.wide (hC:=nC) (hv:=F.nd) hkC fC hns) fun S2 g2=>?_
 have hCnot:∀o,σ1.s.heap.get? C≠some o:=fun o e=>fC.none (k1H _ _ e)
 let B2:=(B.hide _ hd1).comp C F nC hcx
 let own0:wN:=σ1.own++List.replicate vars.length none
 let ρ0:Fm:=σ1.ρ++List.replicate vars.length .un
 have L:kG B2 pair I ds xs Z (fun d=>d=D∨d∈ds) ⟨own0,ρ0,σ1.s⟩ B.pls:=⟨hsrc,fun d q=>⟨.inr q,(hd1 d q).1⟩,fun b o q e=>(f b q).none e,fun d=>.inr,fun q=>List.mem_append_left _⟩
 have h0:0<Γ.length:=B.ok.len▸List.length_pos_iff.mpr B.ne
 refine HZ (B:=B2) (σ:=⟨own0,ρ0,{σ1.s with heap:=h3,toks:=tk3}⟩) L hDds (htv.is (K:=K) (scope:=scope) h0).p (turn B2 (fun i hi q hq e=>?_) L.qp) hnil hsz ⟨S2,.ext k13,rfl,fun q _ v r=>r.at fun o=>k13 _ o⟩
  (hsrc.mono _ _ _ _ _ z0 (fun a _ o e=>hkC a o (hkH a o e)) fun a o g=>g2 a o (wO k1H f hd1 a o g)) (hkC _ _ hD) hev fun σ' h4 tk4 vs n G hk4 hD4 hv hrr=>?_
 ·refine aD (List.mem_map.mp hi) fun j _ aj9=>?_;subst aj9
  replace e:(B.pls++vars.map (.loc C))[Γ.length+j]? =some q:=e
  rw [List.getElem?_append_right (B.ok.len▸Nat.le_add_right _ _)] at e
  refine aD (List.mem_map.mp (List.mem_of_getElem? e)) fun y _ akA=>?_;subst akA
  exact nC0.2.2 ⟨_,hq,rfl⟩
 ·have hdd:∀d,d∈ds→B2.out d∧K.N≤d:=fun d q=>L.hd d (.inr q)
  have S4:St (B.toBs.wide C vars nC0 F.nd) σ'.own σ'.ρ h4:=G.S.less (B':=B.toBs.wide C vars nC0 F.nd) rfl (fun _=>.inl) hdd hk4 fun d q x=>absurd x (off d (.inr q))
  have hd5:∀d,d=C→K.N≤d∧¬dY B.pls d:=fun d e=>e▸⟨nC0.1,nC0.2.2⟩
  have S5:=S4.narrow htv.ne (hd:=hd5)
  have hg:∀a o,gS B2.toBs σ' a o→gv (B.toBs.hide (fun d=>d=C) hd5) (σ'.own.take B.pls.length) h4 a o:=fun a o g=>sU (hC:=nC0) (hv:=F.nd) htv.ne a o (wP (B:=B2.toBs) (B':=B.toBs.wide C vars nC0 F.nd) rfl (fun _=>.inl) hdd hk4 a o g)
  refine aT (List.exists_mem_of_ne_nil vars htv.ne) fun y hy=>?_
  refine fin hd5 ⟨σ'.own.take B.pls.length,σ'.ρ.take B.pls.length,(σ'.to h4 tk4).s⟩ σ'.ρ ⟨S5,(G.w.beside hk4 fun b o q e=>(f b (.inr q)).none e).narrow (B:=B.toBs) hCnot,fun q hq v r=>(G.r q hq v r).at fun o e=>hk4 _ o e fun x=>(hd1 _ (.inr x)).2 ⟨q,hq,rfl⟩,?_,(jU D vs n ⟨rfl,⟨hD4,?_⟩,bP.mono hv hg⟩),
   S4.plLive (p:=.loc C y) (List.mem_append_right _ (List.mem_map_of_mem hy)),hCnot,nC0.2.1⟩ hrr rfl
  ·exact G.u.trans (show Up σ'.s (σ'.to h4 tk4).s from rfl)
  ·rintro (x|x|x)
   ·exact x.elim (off D (.inl rfl)) fun e=>fC.none (e▸hD)
   ·exact (hd1 D (.inl rfl)).2 x
   ·exact (G.S.ownX (List.mem_of_mem_take x)).2.2.2.elim (fun y=>y.2 (.inr (.inl rfl))) fun y=>absurd (B.ioN D y).1 (Nat.not_lt.mpr (hd1 D (.inl rfl)).1)
end
section
variable {K:Ct}{ns:fJ}{Γ:eO}{scope:Scope}{vars:List Str}{pair:Bool}{sr:Sr}{target pelt iter:Expr}{pifs:List Expr}{ifs:List Internal.E}{elt:Internal.E}{pos p':Pos}
abbrev UF (K:Ct) (B:eA K ns Γ) (scope:Scope) (vars:List Str) (target pelt:Expr) (pifs:List Expr) (RR:List V→Fm→List V→Prop):Prop:=
 ∀B':eA K scope.names (dV Γ scope vars),(∀i∈(List.range vars.length).map (Γ.length+ ·),∀q∈B.pls,B'.pls[i]? ≠some q)→(∀q∈B.pls,q∈B'.pls)→vK K B' B.pls target pelt pifs RR
structure aaE (B:eA K ns Γ)(σ1:Pt)(scope:Scope)(vars:List Str)(target pelt:Expr)(pifs:List Expr)(xs zs:List V)(RR:List V→Fm→List V→Prop):Prop where
 turn:UF K B scope vars target pelt pifs RR
 nil:∀ρ r,RR [] ρ r→r=[]
 sz:xs.length≤mH
 ev:RR xs (σ1.ρ++List.replicate vars.length .un) zs
theorem FC (hs:iU K ns Γ pair sr iter)(htv:qM pair target vars)(F:cN ns Γ scope vars){B:eA K ns Γ}{σ:Pt}{β:Type}{kk:List V→Fm→Option β}{z:β}(S:gZ B.toBs σ)(hev:jW K.C Internal.glb sr β σ.ρ kk=some z){use:Option (Value→Sem Unit)}{Q:Value→Shared→Prop}{E:Value→Shared→Prop}
  (go:∀xs σ1,eC B.toBs false σ σ1→kk xs σ1.ρ=some z→∃zs RR,aaE B σ1 scope vars target pelt pifs xs zs RR∧∀C hd σe v ρe,pR B σ1 zs C hd σe v→RR [] ρe []→σe.ρ=ρe.take B.pls.length→compPost K.M K.A E use Q v C (.ok .next) σe.s):
  wpAny K.M K.A (comprehension (.ListComp pelt [⟨target,iter,pifs,0⟩] scope pos) scope B.env p' (newList []) false (eval iter B.env) use) Q E σ.s:=by
 refine aD (nN (scope:=scope) (env:=B.env) fun x hx=>B.cellAt (F.free x hx).1 (F.free x hx).2) fun cl hcl hcx=>?_
 refine wpAny_comprehension_free (use:=use) rfl (vE (hs.plain hev) B.env) hcl F.kind F.loc (hs.ev B σ β kk z _ E S hev fun σ1 h2 tk2 I ds Z xs g1 hk hds hsrc z0 k1=>?_)
 refine dI (go xs σ1 g1 k1) fun zs RR c fin=>?_
 refine wpAny_newObj_type (wpAny_newFunctionEnv F.ncell (fun _ h=>absurd h List.not_mem_nil) (fun h3 hns hsb=>?_) F.kind)
 have hkH:lJ h2 (h2.push (cH [] 0)):=bF
 have hkC:lJ (h2.push (cH [] 0)) h3:=fun b o e=>(hsb.2 b fun q=>absurd (Heap.lt_size e) (by refine (Eq.symm q)▸?_;exact Nat.lt_irrefl _)).trans (Heap.get?_push_of_some _ e)
 have loop:=UE (cl:=cl) (pelt:=pelt) (pifs:=pifs) (pos:=pos) (iter:=iter) htv F hcx g1.S hk hkH hds (Nat.le_refl _) (Nat.le_refl _) hkC hns (Heap.get?_push_size _ rfl) hsrc z0 c.turn c.nil c.sz c.ev (R:=compPost K.M K.A E use Q (.ref h2.objs.size) (h2.push (cH [] 0)).objs.size) (tk3:=tk2) fun hd σe ρe f e1 e2=>fin _ hd σe _ ρe f e1 e2
 exact codeAny_compStart_list loop (hsrc.self 0 _ _ _ _ (hsrc.mono _ _ _ _ _ z0 (fun a _ o e=>hkC a o (hkH a o e)) fun _ _ g=>g) loop)
theorem zM (hs:iU K ns Γ pair sr iter)(hts:mR K scope.names (dV Γ scope vars) ifs pifs)(helt:bH K scope.names (dV Γ scope vars) elt pelt)(htv:qM pair target vars)(F:cN ns Γ scope vars){B:eA K ns Γ}{σ:Pt}{β:Type}{k:V→Fm→Option β}{z:β}(S:gZ B.toBs σ)
  (hev:kE K.C Internal.glb (.comp vars.length sr ifs elt) β σ.ρ k=some z) {use:Option (Value→Sem Unit)} {Q:Value→Shared→Prop} {E:Value→Shared→Prop}
  (fin:∀σ1 zs C hd σe v,eC B.toBs false σ σ1→pR B σ1 zs C hd σe v→k (.lst zs) σe.ρ=some z→compPost K.M K.A E use Q v C (.ok .next) σe.s):
  wpAny K.M K.A (comprehension (.ListComp pelt [⟨target,iter,pifs,0⟩] scope pos) scope B.env p' (newList []) false (eval iter B.env) use) Q E σ.s:=by
 have h0:0<Γ.length:=B.ok.len▸List.length_pos_iff.mpr B.ne
 have len:∀{σ1:Pt},gZ B.toBs σ1→σ1.ρ.length=B.pls.length:=fun S=>S.lenP.symm
 have htg:=htv.is (K:=K) (scope:=scope) h0
 cases hc:aM ifs && aL elt with
 |true=>
  refine aG (iQ hc) fun q1 q2=>?_
  replace hev:cond (aM ifs && aL elt) _ _=some z:=hev
  rw [hc] at hev
  refine FC hs htv F S hev fun xs σ1 g1 k1=>?_
  refine aD (aQ k1) fun zs e1 k1=>?_
  refine aG (aA k1) fun e2 k1=>?_
  have lG:Γ.length=σ1.ρ.length:=B.ok.len.trans g1.S.lenP
  refine (bW zs (RRp K.C vars.length ifs elt σ1.ρ) ⟨⟨fun B' hq hqp=>aaD (pair:=pair) hts hqp helt (lG▸htg) (lG▸hq) q1 q2,fun ρ r h=>(Option.some.inj h.2).symm,Nat.le_trans (Nat.le_of_ble_eq_true e2) (by decide),⟨⟨_,rfl,List.length_replicate⟩,e1⟩⟩,fun C hd σe v ρe f h e=>fin σ1 zs C hd σe v g1 f ?_⟩)
  refine aG h fun akB _=>?_;obtain ⟨bs,rfl,_⟩:=akB
  refine (Eq.symm e)▸?_;refine (len g1.S)▸?_;refine (Eq.symm List.take_left)▸?_
  exact (aA k1).2
 |false=>
  replace hev:cond (aM ifs && aL elt) _ _=some z:=hev
  rw [hc] at hev
  refine FC hs htv F S hev fun xs σ1 g1 k1=>?_
  refine aD (aQ k1) fun akC e1 k1=>?_;obtain ⟨zs,ρe⟩:=akC
  refine aG (aA k1) fun e2 k1=>?_
  have lG:Γ.length=σ.ρ.length:=B.ok.len.trans S.lenP
  refine (bW zs (RRk K.C ((List.range vars.length).map (σ.ρ.length+ ·)) ifs elt ρe) ⟨⟨fun B' hq hqp=>aaC hts hqp helt (lG▸htg) (lG▸hq),fun ρ r h=>(Prod.mk.inj (Option.some.inj h)).1.symm,Nat.le_trans (Nat.le_of_ble_eq_true e2) (by decide),e1⟩,fun C hd σe v ρ' f h e=>fin σ1 zs C hd σe v g1 f ?_⟩)
  have h:some ([],ρ')=some (([]:List V),ρe):=h
  cases h
  refine (Eq.symm e)▸?_;refine (len S)▸?_
  exact (lC k1).2
theorem pR.out {B:eA K ns Γ}{σ1 σe:Pt}{zs:List V}{C:Addr}{hd:∀d,d=C→K.N≤d∧¬dY B.pls d}{v:Value}(f:pR B σ1 zs C hd σe v){h':Heap}(hs:Heap.SameBut C σe.s.heap h'):eC B.toBs false σ1 (σe.to h' σe.s.toks)∧Vl B.toBs (σe.to h' σe.s.toks) v (.lst zs):=
 have hk:∀b o,σe.s.heap.get? b=some o→¬b=C→h'.get? b=some o:=fun b o e n=>(hs.2 b n).trans e
 ⟨⟨f.S.unhide (fun d e=>e▸f.oC) hk,⟨f.w.beside hk fun b o e=>e▸f.f o,fun p hp v r=>(f.r p hp v r).at fun o e=>hk _ o e fun q=>(hd _ q).2 ⟨p,hp,rfl⟩⟩,f.u.trans (show Up σe.s (σe.to h' σe.s.toks).s from rfl),fun e=>nomatch e⟩,f.v.mono (sS (hd:=hd) hk)⟩
theorem zN {nv:Nat}(hnv:nv=vars.length)(hs:iU K ns Γ pair sr iter)(hts:mR K scope.names (dV Γ scope vars) ifs pifs)(helt:bH K scope.names (dV Γ scope vars) elt pelt)(htv:qM pair target vars)(F:cN ns Γ scope vars):
  bH K ns Γ (.comp nv sr ifs elt) (.ListComp pelt [⟨target,iter,pifs,0⟩] scope pos):=fun B σ β k z Q E S hev hp=>by
 subst hnv
 rw [eval_ListComp]
 exact zM hs hts helt htv F S hev fun σ1 zs C hd σe v g1 f k1=>f.n.imp fun m hn=>⟨hn,fun h'' hs''=>let o:=f.out hs'';hp _ _ _ (g1.trans o.1) o.2 k1⟩
end
section
variable (K:Ct)(ns:fJ)(Γ:eO)
def jB (st:Internal.S)(pst:Stmt):Prop:=∀(B:eA K ns Γ) (σ:Pt) (β:Type) (k:Fm→Option β) (q:V→Fm→Option β) (z:β) (Q:Flow→Shared→Prop) (E:Value→Shared→Prop),gZ B.toBs σ→kS K.C Internal.glb st β σ.ρ k q=some z→
 (∀σ',jA B.toBs [] σ σ'→k σ'.ρ=some z→Q .next σ'.s)→(∀σ' v x,jA B.toBs [] σ σ'→Vl B.toBs σ' v x→q x σ'.ρ=some z→Q (.ret v) σ'.s)→wpAny K.M K.A (exec pst B.env) Q E σ.s
def lX (sts:List Internal.S)(psts:List Stmt):Prop:=∀(B:eA K ns Γ) (σ:Pt) (β:Type) (k:Fm→Option β) (q:V→Fm→Option β) (z:β) (Q:Flow→Shared→Prop) (E:Value→Shared→Prop),gZ B.toBs σ→aW K.C Internal.glb sts β σ.ρ k q=some z→
 (∀σ',jA B.toBs [] σ σ'→k σ'.ρ=some z→Q .next σ'.s)→(∀σ' v x,jA B.toBs [] σ σ'→Vl B.toBs σ' v x→q x σ'.ρ=some z→Q (.ret v) σ'.s)→wpAny K.M K.A (execs psts B.env) Q E σ.s
end
theorem eC.os {K:Kx}{B:Bs K}{pu:Bool}{σ σ1:Pt}(h:eC B pu σ σ1):jA B [] σ σ1:=h.gos (fun _ m=>absurd m List.not_mem_nil)
section
variable {K:Ct}{ns:fJ}{Γ:eO}
theorem ME:lX K ns Γ [] []:=fun B σ β k q z Q E S hev hn hr=>wpAny_execs_nil (hn σ (.here S) hev)
theorem IB {st r p t}(h1:jB K ns Γ st p)(h2:lX K ns Γ r t):lX K ns Γ (st::r) (p::t):=fun B σ β k q z Q E S hev hn hr=>
 wpAny_execs_cons (h1 B σ β _ q z _ E S hev (fun σ1 g1 k1=>h2 B σ1 β k q z Q E g1.S k1 (fun σ2 g2=>hn σ2 (g1.trans g2)) fun σ2 v x g2=>hr σ2 v x (g1.trans g2)) hr)
theorem MF {p}:jB K ns Γ .bad p:=fun B σ β k q z Q E S hev=>nomatch hev
theorem MG {e v pos}(he:bH K ns Γ e v):jB K ns Γ (.ret e) (.Return (some v) pos):=fun B σ β k q z Q E S hev _ hr=>
 wpAny_Return_some (he B σ β q z _ E S hev fun σ1 v1 x1 g1 r1 k1=>hr σ1 v1 x1 g1.os r1 k1)
theorem MH {t a b t' a' b' pos}(ht:kM K ns Γ t t')(ha:lX K ns Γ a a')(hb:lX K ns Γ b b'):jB K ns Γ (.ite t a b) (.If t' a' b' pos):=fun B σ β k q z Q E S hev hn hr=>
 wpAny_If (ht B σ β _ z _ E (pP (f:=fun c ρ₁=>cond c (aW K.C Internal.glb a β ρ₁ k q) (aW K.C Internal.glb b β ρ₁ k q))) S hev fun σ1 c g1 k1=>by
  cases c with
  |true=>exact ha B σ1 β k q z Q E g1.S k1 (fun σ2 g2=>hn σ2 (g1.os.trans g2)) fun σ2 v x g2=>hr σ2 v x (g1.os.trans g2)
  |false=>exact hb B σ1 β k q z Q E g1.S k1 (fun σ2 g2=>hn σ2 (g1.os.trans g2)) fun σ2 v x g2=>hr σ2 v x (g1.os.trans g2))
theorem MI {b b' h hs pos}(hb:lX K ns Γ b b'):jB K ns Γ (.tryS b) (.Try b' (h::hs) [] [] pos):=fun B σ β k q z Q E S hev hn hr=>
 wpAny_Try_except (hb B σ β k q z _ _ S hev (fun σ1 g1 k1=>wpAny_execs_nil (hn σ1 g1 k1)) hr)
noncomputable def aaF:Expr→Bool
 |.ListComp ..=>false
 |.SetComp ..=>false
 |.DictComp ..=>false
 |_=>true
theorem gW {value:Expr}{t:Option Expr}{l:Nat}{env:Env}(h:aaF value=true):swapsWith value t l env=pure false:=by
 cases value<;>first|rfl|cases h
theorem MJ {n e y yp v pos}(he:bH K ns Γ e v)(hΓ:Tg K Γ n y)(hs:∀l env,swapsWith v (some (.Name y yp)) l env=pure false):jB K ns Γ (.asg n e) (.Assign [.Name y yp] v pos):=fun B σ β k q z Q E S hev hn hr=>by
 rw [exec_Assign_Name _ _ _ _ _ (hs _ _)]
 exact wpAny_bind (wpAny_standAt (wpAny_bind (he B σ β _ z _ E S hev fun σ1 v1 x1 g1 r1 k1=>wpAny_bind (wpAny_standAt (wpAny_bind (iG hΓ g1.S r1 (fun _ m=>absurd m List.not_mem_nil) fun σ2 g2 e2=>wpAny_pure (hn σ2 (g1.os.trans g2) (e2▸k1))))))))
theorem IC {n nv y yp sr ifs elt vars pair target pelt iter pifs scope cpos pos}(hnv:nv=vars.length)(hs:iU K ns Γ pair sr iter)(hts:mR K scope.names (dV Γ scope vars) ifs pifs)(helt:bH K scope.names (dV Γ scope vars) elt pelt)(htv:qM pair target vars)(F:cN ns Γ scope vars)(hΓ:Tg K Γ n y):
  jB K ns Γ (.asg n (.comp nv sr ifs elt)) (.Assign [.Name y yp] (.ListComp pelt [⟨target,iter,pifs,0⟩] scope cpos) pos):=fun B σ β k q z Q E S hev hn hr=>by
 subst hnv
 replace hev:kE K.C Internal.glb (.comp vars.length sr ifs elt) β σ.ρ (fun v ρ₁=>k (ρ₁.set n (.v v)))=some z:=hev
 obtain ⟨b,hb⟩:∃b,swapsWith (.ListComp pelt [⟨target,iter,pifs,0⟩] scope cpos) (some (.Name y yp)) pos.line B.env=pure b:=⟨_,rfl⟩
 cases b with
 |false=>
  rw [exec_Assign_Name _ _ _ _ _ hb]
  exact wpAny_bind (wpAny_standAt (wpAny_bind (zN rfl hs hts helt htv F B σ β _ z _ E S hev fun σ1 v1 x1 g1 r1 k1=>wpAny_bind (wpAny_standAt (wpAny_bind (iG hΓ g1.S r1 (fun _ m=>absurd m List.not_mem_nil) fun σ2 g2 e2=>wpAny_pure (hn σ2 (g1.os.trans g2) (e2▸k1))))))))
 |true=>
  rw [exec_Assign_Name_used _ _ _ _ hb]
  refine wpAny_bind (wpAny_standAt (wpAny_bind ?_))
  show wpAny _ _ (do let _←comprehension (.ListComp pelt [⟨target,iter,pifs,0⟩] scope cpos) scope B.env _ (newList []) false (eval iter B.env) (some (assign (.Name y yp) B.env))) _ _ σ.s
  refine wpAny_bind (wpAny_mono (zM (Q:=fun _ s'=>Q .next s') (use:=some (assign (.Name y yp) B.env)) hs hts helt htv F S hev fun σ1 zs C hd σe v g1 f k1=>?_) (fun _ s' hq=>wpAny_pure (wpAny_pure hq)) fun _ _ e=>e)
  show wpAny _ _ (do standAt yp;bindName B.env y v) _ _ _
  refine wpAny_bind (wpAny_standAt (iG (B:=B.hide (fun d=>d=C) hd) hΓ f.S f.v (fun _ m=>absurd m List.not_mem_nil) fun σ2 g2 e2=>?_))
  obtain ⟨mm,hm⟩:=f.n
  refine ⟨mm,hm.at' fun o e=>g2.hid f.S ⟨.inr rfl,(hd C rfl).1⟩ e,fun h4 hs4=>?_⟩
  have hk:∀b o,σ2.s.heap.get? b=some o→¬b=C→h4.get? b=some o:=fun b o e n=>(hs4.2 b n).trans e
  exact hn (σ2.to h4 σ2.s.toks) (g1.os.trans ⟨g2.S.unhide (hd:=hd) (fun d e=>e▸f.oC) hk,(f.w.trans g2.w).beside hk fun b o e=>e▸f.f o,(f.u.trans g2.u).trans (show Up σ2.s (σ2.to h4 σ2.s.toks).s from rfl),fun _ m=>absurd m List.not_mem_nil⟩) (e2▸k1)
theorem ID {B:eA K ns Γ}{σ:Pt}{i:Nat}{n:Str}{a:Addr}{sl:aF}{h1:Heap}{tk1:Tok}{Q:Unit→Shared→Prop}{E:Value→Shared→Prop}(hΓ:Tg K Γ i n)(S:gZ B.toBs σ)(hk:lJ σ.s.heap h1)(ha:dM σ.s.heap a)(hr:eQ K.w.params (gS B.toBs σ) h1 a sl)
  (hp:∀σ',jA B.toBs [] σ σ'→σ'.ρ=σ.ρ.set i sl→Q () σ'.s):wpAny K.M K.A (bindName B.env n (.ref a)) Q E (σ.to h1 tk1).s:=by
 obtain ⟨p,h1',h2',h3'⟩:∃p,B.pls[i]? =some p∧there σ.s.heap p∧True:=by
  refine aT (kF hΓ.1 B.ok.len) fun p h1=>?_
  exact ⟨p,h1,S.plLive (List.mem_of_getElem? h1),trivial⟩
 refine B.ok.bind hΓ.1 h1' (h2'.at fun o=>hk _ o) fun h' tk U=>?_
 refine aG (S.store_o hΓ.2 h1' hk ha U hr) fun S' w=>?_
 exact hp ⟨σ.own.set i (some a),σ.ρ.set i sl,{σ.s with heap:=h',toks:=tk}⟩ ⟨S',w,rfl,fun _ m=>absurd m List.not_mem_nil⟩ rfl
theorem pS {B:eA K ns Γ}{σ:Pt}{i:Nat}{n:Str}{a:Addr}{sl:aF}{h1:Heap}{tk1:Tok}{yp:Pos}{Q:Flow→Shared→Prop}{E:Value→Shared→Prop}(hΓ:Tg K Γ i n)(S:gZ B.toBs σ)(hk:lJ σ.s.heap h1)(ha:dM σ.s.heap a)(hr:eQ K.w.params (gS B.toBs σ) h1 a sl)
  (hp:∀σ',jA B.toBs [] σ σ'→σ'.ρ=σ.ρ.set i sl→Q .next σ'.s):wpAny K.M K.A (do standAt yp;bindName B.env n (.ref a);pure .next) Q E (σ.to h1 tk1).s:=
 wpAny_bind (wpAny_standAt (wpAny_bind (ID hΓ S hk ha hr fun σ' g e=>wpAny_pure (hp σ' g e))))
theorem IE {n y yp lp pos}(hΓ:Tg K Γ n y):jB K ns Γ (.newL n) (.Assign [.Name y yp] (.List [] lp) pos):=fun B σ β k q z Q E S hev hn hr=>by
 rw [exec_Assign_Name _ _ _ _ _ (gW rfl)]
 exact wpAny_bind (wpAny_standAt (wpAny_bind (wpAny_List (Calls.spliced_nil ⟨Nat.zero_le _,pS hΓ S bF aY (sl:=.l []) (bW [] 0 ⟨Heap.get?_push_size _ rfl,bP.nil⟩) fun σ' g e=>hn σ' g (e▸hev)⟩))))
theorem IF {n y yp lp pos}(hΓ:Tg K Γ n y):jB K ns Γ (.newD n) (.Assign [.Name y yp] (.Dict [] [] lp) pos):=fun B σ β k q z Q E S hev hn hr=>by
 rw [exec_Assign_Name _ _ _ _ _ (gW rfl)]
 exact wpAny_bind (wpAny_standAt (wpAny_bind (wpAny_Dict_empty (pS hΓ S bF aY (sl:=.d []) (bW [] 0 ⟨Heap.get?_push_size _ rfl,rfl,List.nodup_nil⟩) fun σ' g e=>hn σ' g (e▸hev)))))
theorem CK {n y yp es vs lp pos}(hΓ:Tg K Γ n y)(he:nM K ns Γ es vs)(hl:Nat.ble es.length mH=true):jB K ns Γ (.newLi n es) (.Assign [.Name y yp] (.List vs lp) pos):=fun B σ β k q z Q E S hev hn hr=>by
 rw [exec_Assign_Name _ _ _ _ _ (gW rfl)]
 exact wpAny_bind (wpAny_standAt (wpAny_bind (wpAny_List (he B σ β _ z _ E _ S hev fun σ1 vs1 xs g1 r1 e1 k1=>⟨by rw [bP.length r1,e1];exact iP hl,pS hΓ g1.S bF aY (sl:=.l xs) (bW vs1 0 ⟨Heap.get?_push_size _ rfl,r1⟩) fun σ' g e=>hn σ' (g1.os.trans g) (e▸k1)⟩))))
theorem UG {e v pos}(he:bH K ns Γ e v)(hs:∀l env,swapsWith v none l env=pure false):jB K ns Γ (.ex e) (.Expr v pos):=fun B σ β k q z Q E S hev hn hr=>
 wpAny_Expr (he B σ β _ z _ E S hev fun σ1 v1 x1 g1 r1 k1=>by
  cases x1 with
  |none=>cases r1;exact hn σ1 g1.os k1
  |_=>exact no k1) B.ok.quiet (hs _ _)
end
mutual
theorem MK {P:Params}:∀{v:V} {h:Int},XY v=some h→uT P v=h
 |.int i=>Option.some.inj
 |.tup l=>fun e=>aD (Option.map_eq_some_iff.mp e) fun hs e1 e2=>(congrArg (fun x=>reduceHash (Builtin.Tuple.tupleHashOf x)) (qN e1)).trans e2
 |.none=>no
 |.bool _=>no
 |.str _=>no
 |.lst _=>no
 |.dct _=>no
theorem qN {P:Params}:∀{l:List V} {hs:List Int},sO l=some hs→nR P l=hs
 |[]=>Option.some.inj
 |x::r=>fun e=>aD (aQ e) fun h e1 e=>aD (Option.map_eq_some_iff.mp e) fun t e2 e=>by
  subst e;exact List.cons_eq_cons.mpr ⟨MK e1,qN e2⟩
end
theorem kY.hashes {P:Params}{g:Gh}{l:List (V×V)}:∀{es:List DictEntry},kY P g es l→es.map (·.hash)=nR P (l.map (·.1)):=by
 induction l with
 |nil=>intro es r;cases r;rfl
 |cons p l ih=>intro es r;obtain ⟨e,v,t,rfl,_,_,_,r⟩:=r;exact List.cons_eq_cons.mpr ⟨rfl,ih r⟩
theorem kY.tups {P:Params}{g:Gh}{h:Heap}(hg:∀a o,g a o→h.get? a=some o){l:List (V×V)}:∀{es:List DictEntry},kY P g es l→∀e∈es,BS h e:=by
 induction l with
 |nil=>intro es r;cases r;intro e h;cases h
 |cons p l ih=>
  intro es r e he
  obtain ⟨b,v,t,rfl,hk,rk,_,r⟩:=r
  rcases List.mem_cons.mp he with rfl|he
  ·obtain ⟨k,y⟩:=p
   obtain ⟨_,l,q⟩:=jF hk
   replace q:k=.tup l:=q
   subst q
   obtain ⟨a,vs,e,h,_⟩:=rk
   exact (bW a _ ⟨e,hg _ _ h⟩)
  ·exact ih r e he
theorem IG {P:Params}{g:Gh}{l:List (V×V)}{es:List DictEntry}(h:BG l=true)(r:kY P g es l):(es.map (·.hash)).Nodup:=by
 rw [kY.hashes r]
 unfold BG at h
 cases e:sO (l.map (·.1)) with
 |none=>rw [e] at h;cases h
 |some hs=>rw [e] at h;rw [qN e];exact of_decide_eq_true h
section
variable {K:Ct}{ns:fJ}{Γ:eO}
theorem ML {n y yp e v pos}(hΓ:Tg K Γ n y)(he:bH K ns Γ e v):jB K ns Γ (.aug n e) (.AugAssign (.Name y yp) .Add v pos):=fun B σ β k q z Q E S hev hn hr=>by
 refine aD (aeC (s:=σ.ρ.at n) hev) fun x e0 hev=>?_
 refine aD (kO hev) fun a akF hev=>?_;subst akF
 refine bY (S.get (Fm.at_some e0 nofun)) fun p oa q1 q2 w=>?_
 cases oa with
 |some _=>exact w.2.elim
 |none=>
  refine aD w fun pv r akG=>?_;obtain ⟨t,rfl⟩:=akG
  refine wpAny_AugAssign_Name (B.ok.load hΓ.1 q1 r (he B σ β _ z _ E S hev fun σ1 v1 x1 g1 r1 k1=>?_))
  refine aD (kO k1) fun b akH k1=>?_;subst akH
  refine aT r1 fun t1 akI=>?_;subst akI
  refine PySem.AutoIntOps.iadd_0 (show wpAny K.M K.A (storeName B.env y (.int (a+b) σ1.s.toks)) (fun _=>Q .next) E {σ1.s with toks:=σ1.s.toks+1} from ?_)
  refine aT (kF hΓ.1 B.ok.len) fun p' h1=>?_
  refine B.ok.store (s:={σ1.s with toks:=σ1.s.toks+1}) hΓ.1 h1 (g1.S.plLive (List.mem_of_getElem? h1)) fun h2 tk2 U=>?_
  refine aG (g1.S.store_v (x:=.int (Int.add a b)) hΓ.2 h1 U ⟨_,rfl⟩) fun S2 w2=>?_
  exact hn ⟨σ1.own.set n none,σ1.ρ.set n (.v (.int (Int.add a b))),{σ1.s with heap:=h2,toks:=tk2}⟩ (g1.os.trans ⟨S2,w2,rfl,fun _ m=>absurd m List.not_mem_nil⟩) k1
theorem MM {n y yp e g gp v cpos pos}(hg:g=("dict":Str)) (hgg:jX ns g=true) (hΓ:Tg K Γ n y) (he:cM K ns Γ e v):jB K ns Γ (.cpD n e) (.Assign [.Name y yp] (.Call (.Name g gp) [v] [] cpos) pos):=fun B σ β k q z Q E S hev hn hr=>by
 subst hg
 refine aG (eT hgg) fun hg1 hg2=>?_
 rw [exec_Assign_Name _ _ _ _ _ (gW rfl)]
 refine wpAny_bind (wpAny_standAt (wpAny_bind (Call_Name rfl (dN K.cx B.ok (B.glb _ hg1) (B.nsg S) (B.nsb S) (v:=.type "dict") (List.mem_of_getElem? (l:=eK) (i:=10) rfl) ?_ hg2))))
 rw [bN (he.plain (show kE K.C Internal.glb e β _ _=some z from hev)) [] B.env]
 refine PyProof.Rows.callWith_type rfl (Calls.evalArgs_plain (Calls.spliced_cons (he.ev B σ β _ z _ E S hev fun σ1 v1 x1 g1 r1 k1=>Calls.spliced_nil ?_)))
 cases x1 with
 |dct kvs=>
  refine aG (aA k1) fun hc k1=>?_
  refine aG (iQ hc) fun hc hz=>?_
  refine sK r1 fun d es m ak4 hd hr nd=>?_;subst ak4
  exact HF (s:=σ1.s) (BZ hd) hd.1 (kY.tups (fun _ _ g=>g.1) hr) (IG hc hr) (by rw [kY.length hr];exact iP hz) fun h2 n2 hk2 ho2=>pS (tk1:=σ1.s.toks) hΓ g1.S hk2 aY (sl:=.d kvs) (bW es n2 ⟨ho2,hr,nd⟩) fun σ' g e=>hn σ' (g1.os.trans g) (e▸k1)
 |_=>exact no k1
theorem MN {n y yp e g gp k' kp v lpos cpos pos}(hg:g=("dict":Str)) (hgg:jX ns g=true) (hk:k'=("list":Str)) (hkg:jX ns k'=true) (hΓ:Tg K Γ n y) (he:cM K ns Γ e v):
  jB K ns Γ (.mtD n e) (.Assign [.Name y yp] (.Call (.Name g gp) [.Call (.Name k' kp) [v] [] lpos] [] cpos) pos):=fun B σ β k q z Q E S hev hn hr=>by
 subst hg hk
 refine aG (eT hgg) fun hg1 hg2=>?_
 refine aG (eT hkg) fun hk1 hk2=>?_
 rw [exec_Assign_Name _ _ _ _ _ (gW rfl)]
 refine wpAny_bind (wpAny_standAt (wpAny_bind (Call_Name rfl (dN K.cx B.ok (B.glb _ hg1) (B.nsg S) (B.nsb S) (v:=.type "dict") (List.mem_of_getElem? (l:=eK) (i:=10) rfl) ?_ hg2))))
 refine PyProof.Rows.callWith_type rfl (Calls.evalArgs_plain (Calls.spliced_cons ?_))
 refine Call_Name rfl (dN K.cx B.ok (B.glb _ hk1) (B.nsg S) (B.nsb S) (v:=.type "list") (List.mem_of_getElem? (l:=eK) (i:=3) rfl) ?_ hk2)
 rw [bN (he.plain (show kE K.C Internal.glb e β _ _=some z from hev)) [] B.env]
 refine PyProof.Rows.callWith_type rfl (Calls.evalArgs_plain (Calls.spliced_cons (he.ev B σ β _ z _ E S hev fun σ1 v1 x1 g1 r1 k1=>Calls.spliced_nil ?_)))
 cases x1 with
 |tup l=>cases l with
  |cons _ _=>exact no k1
  |nil=>
   refine YA (b:=.list) (k:=fun x=>some x) (z:=.lst []) (qK B.toBs σ1) K.hh r1 rfl fun h2 tk2 v2 x2 hk2 e2 r2=>Calls.spliced_nil ?_
   cases e2
   refine eP r2 fun a vs m ak5 hl hr=>?_;subst ak5
   cases hr
   exact zB (s:=(σ1.to h2 tk2).s) K.hh (g1.S.gn hk2 _ _ hl).1 fun h3 tk3 n3 hk3 ho3=>pS (σ:=σ1.to h2 tk2) hΓ (g1.S.grow hk2) hk3 aY (sl:=.d []) (bW [] n3 ⟨ho3,rfl,List.nodup_nil⟩) fun σ' g e=>hn σ' ((g1.trans (eC.new g1.S tk2 hk2)).os.trans g) (e▸k1)
 |_=>exact no k1
theorem rX {B:eA K ns Γ}{σ:Pt}(S:gZ B.toBs σ){n:Nat}{a:Addr}(ho:σ.own[n]? =some (some a)){h1:Heap}{tk1:Tok}(hs:Heap.SameBut a σ.s.heap h1){sl:aF}(hr:(∀b o,gS B.toBs σ b o→gv B.toBs σ.own h1 b o)→eQ K.w.params (gv B.toBs σ.own h1) h1 a sl):
  jA B.toBs [] σ ⟨σ.own,σ.ρ.set n sl,{σ.s with heap:=h1,toks:=tk1}⟩:=by
 have hm:=List.mem_of_getElem? ho
 have hX:∀b o,gS B.toBs σ b o→gv B.toBs σ.own h1 b o:=fun b o g=>⟨(hs.2 b fun q=>g.2 (.inr (.inr (q▸hm)))).trans g.1,g.2⟩
 obtain ⟨S',g⟩:=S.upd ho (fun b ob g d=>(hs.2 b fun q=>d (.inr q)).trans g) (K.T.mono _ _ (uJ hX fun b o t g=>(hs.2 b fun q=>(S.ownX hm).1 (q▸t)).trans g) S.ti) (hr hX)
 exact ⟨S',g.toGw,rfl,fun _ m=>absurd m List.not_mem_nil⟩
section
variable {n:Nat}{y a:Str}{yp ap cpos pos:Pos}{e:Internal.E}{v:Expr}(hl:(ap.endLine==cpos.line)=true)(hΓ:Γ[n]? =some (some y))(he:cM K ns Γ e v)
include hl hΓ he
theorem MO (ha:a=("append":Str)):jB K ns Γ (.app n e) (.Expr (.Call (.Attribute (.Name y yp) a ap) [v] [] cpos) pos):=fun B σ β k q z Q E S hev hn hr=>by
 subst ha
 refine aG (aA hev) fun hpu hev=>?_
 have hpl:=he.plain hev
 refine bD (bA e hev) fun _ _ hs=>?_
 refine aD (TJ (s:=σ.ρ.at n) hs) fun xs e0 _=>?_
 rw [e0] at hev
 refine qZ (tB S e0) fun p a0 vs0 m0 q1 q2 q3 q4 _=>?_
 have ht:backTo cpos (starEach [v] B.env)=[(false,eval v B.env)]:=by rw [bN hpl];rfl
 refine wpAny_Expr_any (wpAny_Call_method_late (trees:=[(false,eval v B.env)]) lE (by refine (Eq.symm ht)▸?_;rfl) hl ht (B.ok.evalName hΓ q1 q3 (bW ("list") ("list.append") ⟨PySem.F.plainAttrs_list,PySem.F.slot_list_append,PySem.F.type_list_append,⟨_,q4,rfl⟩,fun a q=>by cases q;exact ⟨_,q4,rfl⟩,?_⟩))) B.ok.quiet rfl
 refine Calls.callWith_builtin rfl (Calls.evalArgs_plain (Calls.spliced_cons (he.ev B σ β _ z _ E S hev fun σ1 v1 x1 g1 r1 k1=>Calls.spliced_nil ?_)))
 refine aG (aA k1) fun hz k1=>?_
 refine bY (xB g1 q1 q3 (by rw [g1.p hpu];exact e0)) fun vs m w2 w4 w5=>?_
 refine append_at (s:=σ1.s) w4 (fun h2 hs hd=>?_) (by refine (Eq.symm List.size_toArray)▸?_;refine (Eq.symm (bP.length w5))▸?_;exact oP hz)
 exact hn _ (g1.os.trans (rX (tk1:=σ1.s.toks) (sl:=.l (List.append xs [x1])) g1.S w2 hs fun hX=>(bW (vs++[v1]) (m+1) ⟨by rw [hd,List.push_toArray],bP.append (bP.cons (r1.mono hX) bP.nil) (bP.mono w5 hX)⟩))) (by rw [g1.p hpu];exact k1)
theorem MP (ha:a=("extend":Str)):jB K ns Γ (.ext n e) (.Expr (.Call (.Attribute (.Name y yp) a ap) [v] [] cpos) pos):=fun B σ β k q z Q E S hev hn hr=>by
 subst ha
 refine aG (aA hev) fun hpu hev=>?_
 have hpl:=he.plain hev
 refine bD (bA e hev) fun _ _ hs=>?_
 refine aD (TJ (s:=σ.ρ.at n) hs) fun xs e0 _=>?_
 rw [e0] at hev
 refine qZ (tB S e0) fun p a0 vs0 m0 q1 q2 q3 q4 _=>?_
 have ht:backTo cpos (starEach [v] B.env)=[(false,eval v B.env)]:=by rw [bN hpl];rfl
 refine wpAny_Expr_any (wpAny_Call_method_late (trees:=[(false,eval v B.env)]) lE (by refine (Eq.symm ht)▸?_;rfl) hl ht (B.ok.evalName hΓ q1 q3 (bW ("list") ("list.extend") ⟨PySem.F.plainAttrs_list,PySem.F.slot_list_extend,PySem.F.type_list_extend,⟨_,q4,rfl⟩,fun a q=>by cases q;exact ⟨_,q4,rfl⟩,?_⟩))) B.ok.quiet rfl
 refine Calls.callWith_builtin rfl (Calls.evalArgs_plain (Calls.spliced_cons (he.ev B σ β _ z _ E S hev fun σ1 v1 x1 g1 r1 k1=>Calls.spliced_nil ?_)))
 refine aD (BU k1) fun ys ak6 k1=>?_;subst ak6
 refine aG (aA k1) fun hz k1=>?_
 refine bY (xB g1 q1 q3 (by rw [g1.p hpu];exact e0)) fun vs m w2 w4 w5=>?_
 refine eP r1 fun b ws m2 ak7 hb hrb=>?_;subst ak7
 have hsz':vs.toArray.size+ws.toArray.size≤sizeLine:=by refine (Eq.symm List.size_toArray)▸?_;refine (Eq.symm List.size_toArray)▸?_;refine (Eq.symm (bP.length w5))▸?_;refine (Eq.symm (bP.length hrb))▸?_;exact oP hz
 refine call_meets PySem.F.slot_list_extend ⟨_,w4,rfl⟩ PySem.F.entry_list_extend (PySem.F.args_list_extend_2 _ _) (AutoSeq1.list_extend_list_list_0 a0 vs.toArray m b ws.toArray m2 (extend_door hsz') (Nat.le_trans (Nat.le_add_right _ _) hsz')) ⟨w4,hb.1,?_⟩
 have hd:(σ1.s.heap.update a0 (Obj.mapSeq fun x=>x++ws.toArray)).get? a0=some (cH (vs++ws) (if (vs.toArray++ws.toArray).size==vs.toArray.size then m else m+1)):=by
  rw [Heap.get?_update_self _ w4 (by rw [cH,mapSeq_app];rfl),cH,mapSeq_app,List.append_toArray]
 exact hn _ (g1.os.trans (rX (tk1:=σ1.s.toks) (sl:=.l (List.append xs ys)) g1.S w2 (Heap.SameBut.update ..) fun hX=>(bW (vs++ws) _ ⟨hd,bP.append (bP.mono hrb hX) (bP.mono w5 hX)⟩))) (by refine (Eq.symm (g1.p hpu))▸?_;exact k1)
end
theorem IH {n y yp i e sl sp v pos}(hΓ:Γ[n]? =some (some y))(hi:bH K ns Γ i sl)(he:bH K ns Γ e v)(hsw:∀l env,swapsWith v (some (.Subscript (.Name y yp) sl sp)) l env=pure false):jB K ns Γ (.setI n i e) (.Assign [.Subscript (.Name y yp) sl sp] v pos):=fun B σ β k q z Q E S hev hn hr=>by
 refine wpAny_Assign_Subscript (he B σ β _ z _ E S hev fun σ1 v1 x1 g1 r1 k1=>?_) (hsw _ _)
 refine aG (aA k1) fun hpu k1=>?_
 refine bD (bA i k1) fun _ _ hs=>?_
 have own0:∃p a,B.pls[n]? =some p∧rd σ1.s.heap p (.ref a):=by
  cases e0:σ1.ρ.at n with
  |l xs=>refine uS (tB g1.S e0) fun p a _ _ q1 _ q3 _=>?_;exact (bW p a ⟨q1,q3⟩)
  |d xs=>refine uS (tC g1.S e0) fun p a _ _ q1 _ q3 _=>?_;exact (bW p a ⟨q1,q3⟩)
  |_=>rw [e0] at hs;exact no hs
 refine dI own0 fun p a q1 q3=>?_
 refine B.ok.evalName hΓ q1 q3 (hi B σ1 β _ z _ E g1.S k1 fun σ2 v2 x2 g2 r2 k2=>?_)
 have r1:=r1.mono g2.g
 have ep:=g2.p hpu
 cases e0:σ1.ρ.at n with
 |d kvs=>
  rw [e0] at k2
  refine aG (aA k2) fun hk k2=>?_
  refine aG (aA k2) fun hz k2=>?_
  refine aD (aQ k2) fun w' hw k2=>?_
  refine mF (BW g2 q1 q3 (by rw [ep];exact e0)) fun es m w2 w4 w5 w6 w7=>?_
  refine aT (rV hk r2) fun ka ak8=>?_;subst ak8
  exact wX (s:=σ2.s) (qK B.toBs σ2) (LE K) w4 w5 w6 r2 hk r1 (oP hz) hw fun h3 tk3 es' n' hs hd3 hr3 hn3=>hn _ ((g1.os.trans g2.os).trans (rX (tk1:=tk3) (sl:=.d w') g2.S w2 hs fun hX=>(bW es' n' ⟨hd3,kY.mono hr3 hX,hn3⟩))) (by rw [ep];exact k2)
 |l xs=>
  rw [e0] at k2
  cases x2 with
  |int i=>cases i with
   |negSucc _=>exact no k2
   |ofNat j=>
    refine aG (aA k2) fun h1 k2=>?_
    refine aG (aA k2) fun hz k2=>?_
    refine bY (xB g2 q1 q3 (by rw [ep];exact e0)) fun vs m w2 w4 w5=>?_
    refine aT r2 fun t ak9=>?_;subst ak9
    have hj:=Nat.blt_eq.mp h1
    have hz:=Nat.le_of_ble_eq_true hz
    refine ki_setAt w4 (Int.natCast_nonneg j) (by clear hn hr;show (j:Int)<_;omega) (by rw [List.size_toArray,bP.length w5];exact Int.ofNat_lt.mpr hj) ?_
    have hd:∃n',(σ2.s.heap.update a (Obj.mapSeq (·.setIfInBounds (Int.ofNat j).toNat v1))).get? a=some (cH (vs.set j v1) n'):=by
     rw [Heap.get?_update_self _ w4 rfl]
     simp only [cH,Obj.mapSeq,List.setIfInBounds_toArray]
     exact ⟨_,rfl⟩
    refine aT hd fun n' hd=>?_
    exact hn _ ((g1.os.trans g2.os).trans (rX (tk1:=σ2.s.toks) (sl:=.l (xs.set j x1)) g2.S w2 (Heap.SameBut.update ..) fun hX=>(bW (vs.set j v1) n' ⟨hd,bP.set (r1.mono hX) (bP.mono w5 hX) _⟩))) (by rw [ep];exact k2)
  |_=>exact no k2
 |_=>rw [e0] at k2;exact no k2
end
def aaG (P:Shared→Prop)(Q:Flow→Shared→Prop)(f:Flow)(s:Shared):Prop:=match f with
 |.next=>P s
 |.ret v=>Q (.ret v) s
 |_=>False
def anO (M:Model)(A:Around)(env:Env)(target:Expr)(body:List Stmt)(it:Value)(Q:Flow→Shared→Prop)(P:Shared→Prop)(E:Value→Shared→Prop)(r:Option Value)(s₁:Shared):Prop:=match r with
 |none=>Q .next s₁
 |some v=>wpAny M A (letOwnedTupleGo target it v) (fun _ s₂=>wpAny M A (assign target env v) (fun _ s₃=>wpAny M A (execs body env) (aaG P Q) E s₃) E s₂) E s₁
theorem II {prog:Program}{w:World}{A:Around}{s:Shared}{target iter:Expr}{body:List Stmt}{pos:Pos}{env:Env}{Q:Flow→Shared→Prop}{E:Value→Shared→Prop}(hs:∀x,foldedSetIterable iter env x=pure x)
  (h:wpAny (model prog w) A (eval iter env) (fun x s₁=>wpAny (model prog w) A (pyIter x) (fun it s₂=>∃(I:Nat→Shared→Prop) (n:Nat),I n s₂∧∀n s E,I n s→wpAny (model prog w) A (pyNext it) (anO (model prog w) A env target body it Q (fun s₅=>∃m,m<n∧I m s₅) E) E s) E s₁) E s):
  wpAny (model prog w) A (exec (.For target iter body [] pos) env) Q E s:=by
 refine wpAny_For (wpAny_mono h (fun x s₁ h₁=>wpAny_mono h₁ (fun it s₂ h₂=>?_) fun _ _ e=>e) fun _ _ e=>e) hs
 refine dI h₂ fun I n h0 turn=>?_
 refine codeAny_forLoop_any I (fun n s hI=>wpAny_mono (turn n s _ hI) (fun r s₁ h₁=>?_) fun _ _ e=>e) n h0
 cases r with
 |none=>exact wpAny_execs_nil h₁
 |some v=>exact wpAny_mono h₁ (fun _ s₂ h₂=>wpAny_mono h₂ (fun _ s₃ h₃=>wpAny_mono h₃ (fun f s₄ h₄=>by cases f<;>first|exact h₄|exact h₄.elim) fun _ _ e=>e) fun _ _ e=>e) fun _ _ e=>e
theorem IJ {prog:Program}{w:World}{A:Around}{s:Shared}{test:Expr}{body:List Stmt}{pos:Pos}{env:Env}{Q:Flow→Shared→Prop}{E:Value→Shared→Prop}(I:Nat→Shared→Prop)
  (turn:∀n s E,I n s→wpAny (model prog w) A (isTrue test env (eval test env)) (fun b s₂=>cond b (wpAny (model prog w) A (execs body env) (aaG (fun s₅=>∃m,m<n∧I m s₅) Q) E s₂) (Q .next s₂)) E s) (n:Nat) (h:I n s):wpAny (model prog w) A (exec (.While test body [] pos) env) Q E s:=by
 refine wpAny_While (codeAny_whileLoop I (fun n s hI=>wpAny_mono (turn n s _ hI) (fun b s₁ h₁=>?_) fun _ _ e=>e) n h)
 cases b with
 |true=>exact wpAny_mono h₁ (fun f s₄ h₄=>by cases f<;>first|exact h₄|exact h₄.elim) fun _ _ e=>e
 |false=>exact wpAny_execs_nil h₁
section
variable {β:Type}{C:CF}{b:List Internal.S}{L:Nat}{k:Fm→Option β}{q:V→Fm→Option β}{z:β}
noncomputable def UH (C:CF)(t:Internal.E)(b:List Internal.S)(L:Nat)(k:Fm→Option β)(q:V→Fm→Option β)(n:Nat)(σ:Fm):Option β:=
 wM (fun σ again stop=>iV L σ fun τ=>kE C Internal.glb t β τ fun v τ₁=>fD v fun c=>cond c (aW C Internal.glb b β τ₁ again q) (stop τ₁)) (fun σ=>iV L σ k) n σ
noncomputable def aeM (C:CF)(t:Internal.E)(b:List Internal.S)(L:Nat)(k:Fm→Option β)(q:V→Fm→Option β)(n:Nat)(c:Bool)(τ:Fm):Option β:=cond c (aW C Internal.glb b β τ (UH C t b L k q n) q) (iV L τ k)
theorem aaH {t:Internal.E}{n:Nat}{σ:Fm}(h:UH C t b L k q (n+1) σ=some z):kE C Internal.glb t β σ (fun v τ=>fD v fun c=>aeM C t b L k q n c τ)=some z:=(lC h).2
noncomputable def aaI (C:CF)(xs:List Nat)(b:List Internal.S)(L:Nat)(k:Fm→Option β)(q:V→Fm→Option β)(l:List V)(σ:Fm):Option β:=
 ZR (fun x σ again=>iV L σ fun τ=>bL xs x τ fun τ₁=>aW C Internal.glb b β τ₁ again q) (fun σ=>iV L σ k) l σ
theorem aaJ {xs:List Nat}{x:V}{l:List V}{σ:Fm}(h:aaI C xs b L k q (x::l) σ=some z):bL xs x σ (fun τ=>aW C Internal.glb b β τ (aaI C xs b L k q l) q)=some z:=(lC h).2
end
section
variable {K:Ct}{ns:fJ}{Γ:eO}
theorem MQ {t b t' b' pos}(ht:kM K ns Γ t t')(hb:lX K ns Γ b b'):jB K ns Γ (.whl t b) (.While t' b' [] pos):=fun B σ β k q z Q E S hev hn hr=>by
 refine IJ (fun n s=>∃σ',s=Pt.s σ'∧jA B.toBs [] σ σ'∧UH K.C t b σ.ρ.length k q n σ'.ρ=some z) (fun n s E hI=>?_) 100 ⟨σ,rfl,.here S,hev⟩
 obtain ⟨σ1,rfl,G,h⟩:=hI
 cases n with
 |zero=>exact no h
 |succ n=>
  refine ht B σ1 β _ z _ E (pP (f:=aeM K.C t b σ.ρ.length k q n)) G.S (aaH h) fun σ2 c g2 k2=>?_
  cases c with
  |true=>exact hb B σ2 β (UH K.C t b σ.ρ.length k q n) q z _ E g2.S k2 (fun σ3 g3 k3=>⟨n,Nat.lt_succ_self _,σ3,rfl,(G.trans g2.os).trans g3,k3⟩) fun σ3 v x g3=>hr σ3 v x ((G.trans g2.os).trans g3)
  |false=>exact hn σ2 (G.trans g2.os) (lC k2).2
theorem MR {xs pair sr b target iter b' pos}(ht:mQ K Γ pair xs target)(hs:iU K ns Γ pair sr iter)(hb:lX K ns Γ b b'):jB K ns Γ (.for xs sr b) (.For target iter b' [] pos):=fun B σ β k q z Q E S hev hn hr=>by
 refine II (vE (hs.plain (show jW K.C Internal.glb sr β σ.ρ _=some z from hev)) B.env) (hs.ev B σ β _ z _ E S hev fun σ1 h2 tk2 I ds Z vals g1 hk hds hsrc z0 k1=>?_)
 have hd:=g1.S.hd hds
 have off:∀d,d∈ds→¬B.out d:=fun d e x=>(g1.S.fresh (hds d e)).1 (.inl x)
 have S2:=g1.S.hide hk hds hd (hsrc.live _ _ _ z0)
 have L:kG (B.hide (· ∈ds) hd) pair I ds vals Z (· ∈ds) σ1 []:=⟨hsrc,fun d m=>⟨.inr m,(hd d m).1⟩,fun b o m e=>(hds b m).none e,fun _ m=>m,fun _ m=>absurd m List.not_mem_nil⟩
 have out:∀{σ':Pt} {h3:Heap} {tk3:Tok},jA (B.hide (· ∈ds) hd).toBs [] σ1 σ'→(∀b o,σ'.s.heap.get? b=some o→b∉ds→h3.get? b=some o)→jA B.toBs [] σ (σ'.to h3 tk3):=fun {σ' h3 tk3} G hk3=>
  g1.os.trans ⟨G.S.unhide (hd:=hd) off hk3,G.w.beside hk3 fun b o m e=>(hds b m).none e,G.u.trans (show Up σ'.s (σ'.to h3 tk3).s from rfl),fun _ m=>absurd m List.not_mem_nil⟩
 refine ⟨fun n s=>∃i σ',s=Pt.s σ'∧i≤vals.length∧n=vals.length - i∧jA (B.hide (· ∈ds) hd).toBs [] σ1 σ'∧Z i σ'.s.heap (gS (B.hide (· ∈ds) hd).toBs σ')∧aaI K.C xs b σ.ρ.length k q (vals.drop i) σ'.ρ=some z,vals.length,
  (bW 0 (σ1.to h2 tk2) ⟨rfl,Nat.zero_le _,rfl,⟨S2,.ext hk,rfl,fun _ m=>absurd m List.not_mem_nil⟩,hsrc.mono _ _ _ _ _ z0 (fun _ _ _ e=>e) (wO hk hds hd),k1⟩),fun n s E hI=>?_⟩
 refine JX hI fun i σ' akJ hi akK G zi hf=>?_;subst akJ;subst akK
 rcases Nat.lt_or_ge i vals.length with hlt|hge
 ·rw [List.drop_eq_getElem_cons hlt] at hf
  refine wpAny_mono (L.next (Q:=fun v s₂=>wpAny K.M K.A (assign target B.env v) (fun _ s₃=>wpAny K.M K.A (execs b' B.env) (aaG _ Q) E s₃) E s₂) G zi (List.getElem?_eq_getElem hlt) ht.p fun v h4 tk4 G2 hv hz hk4 hg=>?_) (fun r s₁ h₁=>h₁.elim fun v q=>q.1▸q.2) fun _ _ e=>e
  refine rF (B:=B.hide (· ∈ds) hd) (qs:=[]) ht G2.S hv (fun _ _ _ m=>absurd m List.not_mem_nil) (aaJ hf) fun σ3 g3 k3=>?_
  exact hb (B.hide (· ∈ds) hd) σ3 β _ q z _ E g3.S k3 (fun σ4 g4 k4=>⟨vals.length - (i+1),Nat.sub_succ_lt_self _ _ hlt,i+1,σ4,rfl,hlt,rfl,G2.trans (g3.trans g4),hz σ4 (g3.trans g4),k4⟩)
   fun σ4 v x g4 r4 k4=>hr (σ4.to σ4.s.heap σ4.s.toks) v x (out (G2.trans (g3.trans g4)) fun _ _ e _=>e) (r4.mono (sS (hd:=hd) fun _ _ e _=>e)) k4
 ·have e:i=vals.length:=Nat.le_antisymm hi hge
  subst e
  rw [List.drop_length] at hf
  exact L.stop G.S zi fun h4 tk4 hk4=>hn _ (out G hk4) (lC hf).2
end
section
variable {K:Ct}{ns:fJ}{Γ:eO}
theorem MS {β:Type}{z:β}:∀{n:Nat} {l:List V} {f:List V→Option β},iW n l f=some z→l.length=n∧f l=some z:=fun {n}=>by
 induction n with
 |zero=>intro l f h;cases l with
  |nil=>exact ⟨rfl,h⟩
  |cons _ _=>exact no h
 |succ n ih=>intro l f h;cases l with
  |nil=>exact no h
  |cons x r=>refine aG (ih (f:=fun t=>f (x::t)) h) fun e q=>?_;exact ⟨congrArg (· +1) e,q⟩
theorem MT {xs e ts k tp v pos}(ht:EX K Γ xs ts)(he:bH K ns Γ e v)(h1:∀l env,swapsWithSole [.Tuple ts k tp] v l env=pure false)(h2:∀env,swappedStores [.Tuple ts k tp] v env=pure none):jB K ns Γ (.unp xs e) (.Assign [.Tuple ts k tp] v pos):=fun B σ β k q z Q E S hev hn hr=>
 Assign_Tuple (he B σ β _ z _ E S hev fun σ1 v1 x1 g1 r1 k1=>by
  cases x1 with
  |tup l=>
   refine aG (MS k1) fun e1 k1=>?_
   exact tF ht g1.S r1 e1.symm (fun _ _ _ m=>absurd m List.not_mem_nil) fun σ2 g2 e2=>hn σ2 (g1.os.trans g2) (e2▸k1)
  |_=>exact no k1) (h1 _ _) (h2 _)
theorem Gw.fresh {K:Kx}{pls:List Pl}{own own1:wN}{h h1:Heap}(w:Gw K pls own h own1 h1){d:Addr}(f:dM h1 d):some d∈own∨K.T.tb d∨dY pls d∨∀o,h.get? d≠some o:=
 Classical.byCases .inl fun m=>Classical.byCases (fun t=>.inr (.inl t)) fun t=>Classical.byCases (fun p=>.inr (.inr (.inl p))) fun p=>.inr (.inr (.inr fun o e=>f.none (w.k d o e t p m)))
structure Wt (B:eA K ns Γ)(σ0:Pt)(D:Addr→Prop)(hd:∀d,D d→K.N≤d∧¬dY B.pls d)(σ:Pt):Prop where
 S:gZ (B.toBs.hide D hd) σ
 w:Gw K.kx B.pls σ0.own σ0.s.heap σ.own σ.s.heap
 u:Up σ0.s σ.s
 f:∀d,D d→some d∈σ0.own∨K.T.tb d∨dY B.pls d∨∀o,σ0.s.heap.get? d≠some o
 o:∀d,D d→¬B.out d
def Rv1 (P:Params)(g:Gh)(h:Heap)(D:Addr→Prop)(v:Value)(sl:aF):Prop:=(∃x,sl=.v x∧Rp P g v x)∨∃d,v=.ref d∧D d∧eQ P g h d sl
theorem FD {P:Params}{g:Gh}{h:Heap}{d:Addr}{sl:aF}(k:eQ P g h d sl):aR sl=true:=by cases sl<;>first|rfl|exact k.elim
theorem Rv1.move {P:Params}{g g':Gh}{h h':Heap}{D D':Addr→Prop}{v:Value}{sl:aF}(r:Rv1 P g h D v sl)(hg:∀a o,g a o→g' a o)(hk:∀d,aR sl=true→v=.ref d→D d→D' d∧∀o,h.get? d=some o→h'.get? d=some o):Rv1 P g' h' D' v sl:=
 r.imp (fun ⟨x,e,r⟩=>⟨x,e,r.mono hg⟩) fun ⟨d,e,m,r⟩=>let q:=hk d (FD r) e m;⟨d,e,q.1,r.move hg q.2⟩
abbrev xE (B:eA K ns Γ) (D:Addr→Prop) (hd:∀d,D d→K.N≤d∧¬dY B.pls d) (σ:Pt) (v:Value) (sl:aF):Prop:=Rv1 K.w.params (gS (B.toBs.hide D hd) σ) σ.s.heap D v sl
variable {B:eA K ns Γ}{σ0 σ:Pt}{D:Addr→Prop}{hd:∀d,D d→K.N≤d∧¬dY B.pls d}{E:Value→Shared→Prop}
theorem MU {i:Nat}{n:Str}{v:Value}{sl:aF}{Q:Unit→Shared→Prop}(hΓ:Tg K Γ i n)(W:Wt B σ0 D hd σ)(r:xE B D hd σ v sl)
  (hp:∀D' hd' σ',Wt B σ0 D' hd' σ'→σ'.ρ=σ.ρ.set i sl→(∀v' sl',xE B D hd σ v' sl'→(aR sl=true→aR sl'=true→v≠v')→xE B D' hd' σ' v' sl')→Q () σ'.s):wpAny K.M K.A (bindName B.env n v) Q E σ.s:=by
 rcases r with ⟨x,rfl,r⟩|⟨d,rfl,hD,ho⟩
 ·refine iG (B:=B.hide D hd) (qs:=[]) hΓ W.S r (fun _ m=>absurd m List.not_mem_nil) fun σ' g e=>hp D hd σ' ⟨g.S,W.w.trans g.w,W.u.trans g.u,W.f,W.o⟩ e fun v' sl' r' _=>r'.move g.g fun d _ _ m=>⟨m,fun o e=>g.hid W.S ⟨.inr m,(hd d m).1⟩ e⟩
 ·refine aT (kF hΓ.1 B.ok.len) fun p h1=>?_
  have hpm:p∈(B.toBs.hide D hd).pls:=List.mem_of_getElem? h1
  refine B.ok.bind hΓ.1 h1 (W.S.plLive hpm) fun h2 tk2 U=>?_
  refine aG (W.S.adopt hΓ.2 h1 hD (W.o d hD) U ho (hd':=fun a m=>hd a m.1)) fun S' g'=>?_
  refine hp (fun a=>D a∧a≠d) (fun a m=>hd a m.1) ⟨σ.own.set i (some d),σ.ρ.set i sl,{σ.s with heap:=h2,toks:=tk2}⟩ ⟨S',⟨fun a o g t p m=>U.same a o (W.w.k a o g t p m) fun e=>p ⟨_,hpm,e.symm⟩,fun a m=>?_⟩,W.u.trans rfl,fun b m=>W.f b m.1,fun b m=>W.o b m.1⟩ rfl
   fun v' sl' r' ne=>r'.move g' fun b ow e m=>⟨⟨m,fun q=>ne (FD ho) ow (by refine (Eq.symm e)▸?_;exact (Eq.symm q)▸rfl)⟩,fun o e=>U.same b o e fun q=>(hd b m).2 ⟨p,hpm,q.symm⟩⟩
  exact (List.mem_or_eq_of_mem_set m).elim (W.w.n a) fun e=>Option.some.inj e▸W.f d hD
abbrev It:=Nat×Str×Value×aF
abbrev itR (a b:It):Prop:=aR a.2.2.2=true→aR b.2.2.2=true→a.2.2.1≠b.2.2.1
noncomputable def MV (l:List It)(ρ:Fm):Fm:=l.foldl (fun ρ it=>ρ.set it.1 it.2.2.2) ρ
inductive Fs (env:Env):List (Value→Sem Unit)→List It→Prop
 |nil:Fs env [] []
 |cons {f it fs its}:(∀v M A (Q:Unit→Shared→Prop) E s,wpAny M A (bindName env it.2.1 v) Q E s→wpAny M A (f v) Q E s)→Fs env fs its→Fs env (f::fs) (it::its)
theorem CL {fs its}(hF:Fs B.env fs its):∀{D hd σ} {Q:Unit→Shared→Prop},Wt B σ0 D hd σ→(∀it∈its,Tg K Γ it.1 it.2.1∧xE B D hd σ it.2.2.1 it.2.2.2)→its.Pairwise itR→(∀σ',jA B.toBs [] σ0 σ'→σ'.ρ=MV its σ.ρ→Q () σ'.s)→
  wpAny K.M K.A (assignInOrder fs (its.map (·.2.2.1))) Q E σ.s:=by
 induction hF with
 |nil=>
  intro D hd σ Q W _ _ hp
  exact wpAny_pure (hp (σ.to σ.s.heap σ.s.toks) ⟨W.S.unhide W.o fun _ _ e _=>e,W.w,W.u,fun _ m=>absurd m List.not_mem_nil⟩ rfl)
 | @cons f it fs its h1 _ ih=>
  intro D hd σ Q W hi hpw hp
  refine aG (hi it (.head _)) fun q1 q2=>?_
  rw [List.pairwise_cons] at hpw
  refine PyProof.Rows.assignInOrder_cons (h1 _ _ _ _ _ _ (MU q1 W q2 fun D' hd' σ' W' e hm=>?_))
  exact ih W' (fun it' m=>⟨(hi it' (.tail _ m)).1,hm _ _ (hi it' (.tail _ m)).2 (hpw.1 it' m)⟩) hpw.2 fun σ2 g2 e2=>hp σ2 g2 (by refine (Eq.symm e2)▸?_;refine (Eq.symm e)▸?_;rfl)
structure FE (B:eA K ns Γ)(D0 D:Addr→Prop)(hd:∀d,D d→K.N≤d∧¬dY B.pls d)(σ:Pt)(l:List (Value×aF)):Prop where
 ok:∀p∈l,xE B D hd σ p.1 p.2
 pw:l.Pairwise fun a b=>aR a.2=true→aR b.2=true→a.1≠b.1
 new:∀p∈l,aR p.2=true→∀d,p.1=.ref d→¬D0 d
def nO (K:Ct)(ns:fJ)(Γ:eO)(es:List Rv)(pes:List Expr):Prop:=∀(B:eA K ns Γ) (σ0:Pt) D hd σ (β:Type) (k:List aF→Fm→Option β) (z:β) (Q:List Value→Shared→Prop) E pos,Wt B σ0 D hd σ→uW K.C Internal.glb es β σ.ρ k=some z→
 (∀D' hd' σ' (l:List (Value×aF)),Wt B σ0 D' hd' σ'→(∀v sl,xE B D hd σ v sl→xE B D' hd' σ' v sl)→FE B D D' hd' σ' l→l.length=es.length→k (l.map (·.2)) σ'.ρ=some z→Q (l.map (·.1)) σ'.s)→wpAny K.M K.A (spliced (backTo pos (starEach pes B.env))) Q E σ.s
theorem IK:nO K ns Γ [] []:=fun B σ0 D hd σ β k z Q E pos W hev hp=>Calls.spliced_nil (hp D hd σ [] W (fun _ _ r=>r) ⟨fun _ m=>absurd m List.not_mem_nil,.nil,fun _ m=>absurd m List.not_mem_nil⟩ rfl hev)
theorem UI {e r p t}(he:cM K ns Γ e p)(hr:nO K ns Γ r t):nO K ns Γ (.e e::r) (p::t):=fun B σ0 D hd σ β k z Q E pos W hev hp=>
 args_cons (he.ev (B.hide D hd) σ β _ z _ E W.S hev fun σ1 v1 x1 g1 r1 k1=>hr B σ0 D hd σ1 β _ z _ E pos ⟨g1.S,W.w.trans g1.w.toGw,W.u.trans g1.u,W.f,W.o⟩ k1 fun D2 hd2 σ2 l W2 m2 ok e2 k2=>
  hp D2 hd2 σ2 ((v1,.v x1)::l) W2 (fun v sl rv=>m2 v sl (rv.move g1.g fun d _ _ m=>⟨m,fun o e=>g1.w.toGw.hid W.S ⟨.inr m,(hd d m).1⟩ e⟩))
   ⟨fun q m=>(List.mem_cons.mp m).elim (fun e=>e▸m2 _ _ (.inl ⟨x1,rfl,r1⟩)) (ok.ok q),List.pairwise_cons.mpr ⟨fun _ _ h=>(nomatch h),ok.pw⟩,fun q m=>(List.mem_cons.mp m).elim (fun e=>e▸fun h=>(nomatch h)) (ok.new q)⟩ (congrArg (· +1) e2) k2)
  (bN (he.plain (show kE K.C Internal.glb e β σ.ρ _=some z from hev)) _ _)
theorem MW {r:List Rv}{t:List Expr}(hr:nO K ns Γ r t){o:Obj}{sl:aF}{p:Expr}(hp1:PX p)(hof:∀{h:Heap},(h.push o).get? h.objs.size=some o)(hob:∀{P g h d},h.get? d=some o→eQ P g h d sl)(hev1:∀{env:Env} {E:Value→Shared→Prop} {s:Shared} {Q:Value→Shared→Prop},Q (.ref s.heap.objs.size) {s with heap:=s.heap.push o}→wpAny K.M K.A (eval p env) Q E s)
  {B:eA K ns Γ} {σ0:Pt} {D hd σ} {β:Type} {k:List aF→Fm→Option β} {z:β} {Q:List Value→Shared→Prop} {E pos} (W:Wt B σ0 D hd σ) (hev:uW K.C Internal.glb r β σ.ρ (fun l ρ₁=>k (sl::l) ρ₁)=some z)
  (hp:∀D' hd' σ' (l:List (Value×aF)),Wt B σ0 D' hd' σ'→(∀v sl,xE B D hd σ v sl→xE B D' hd' σ' v sl)→FE B D D' hd' σ' l→l.length=r.length+1→k (l.map (·.2)) σ'.ρ=some z→Q (l.map (·.1)) σ'.s):wpAny K.M K.A (spliced (backTo pos (starEach (p::t) B.env))) Q E σ.s:=by
 refine args_cons (hev1 ?_) (bN hp1 _ _)
 let d:=σ.s.heap.objs.size
 have hl:(σ.s.heap.push o).get? d=some o:=hof
 have f:∀a,a=d→dM σ.s.heap a:=fun a e=>e▸aY
 have h1:=W.S.hd f
 have S1:=W.S.hide bF f h1 fun a e=>⟨_,(show a=d from e)▸hl⟩
 have hdn:¬D d:=fun m=>(W.S.fresh aY).1 (.inl (.inr m))
 have hd1:∀a,D a∨a=d→K.N≤a∧¬dY B.pls a:=fun a m=>m.elim (hd a) (h1 a)
 have W1:Wt B σ0 (fun a=>D a∨a=d) hd1 (σ.to (σ.s.heap.push o) σ.s.toks):=⟨S1.less (D:=fun _=>False) (B':=B.toBs.hide (fun a=>D a∨a=d) hd1) rfl (fun a x=>x.elim (fun x=>.inl (.inl x)) fun x=>x.elim (fun x=>.inl (.inr x)) .inr) (fun _=>False.elim) (fun _ _ e _=>e) (fun _=>False.elim),
  W.w.trans (.ext bF),W.u.trans rfl,fun a m=>m.elim (W.f a) fun e=>e▸W.w.fresh aY,fun a m=>m.elim (W.o a) fun e x=>(W.S.fresh (f a e)).1 (.inl (.inl x))⟩
 refine hr B σ0 _ hd1 _ β _ z _ E pos W1 hev fun D2 hd2 σ2 l W2 m2 ok e2 k2=>?_
 refine hp D2 hd2 σ2 ((.ref d,sl)::l) W2 (fun v sl rv=>m2 v sl (rv.move (fun a o g=>?_) fun a _ _ m=>⟨.inl m,fun o=>bF a o⟩)) ⟨fun q m=>(List.mem_cons.mp m).elim (fun e=>e▸m2 _ _ (.inr ⟨d,rfl,.inr rfl,hob hl⟩)) (ok.ok q),List.pairwise_cons.mpr ⟨fun q m _ h e=>ok.new q m h d e.symm (.inr rfl),ok.pw⟩,
  fun q m=>(List.mem_cons.mp m).elim (fun e=>e▸fun _ a h=>by cases h;exact hdn) fun m h a e x=>ok.new q m h a e (.inl x)⟩ (congrArg (· +1) e2) k2
 exact ⟨bF a o g.1,fun x=>g.2 (x.elim (fun x=>.inl (x.elim .inl fun x=>x.elim .inr fun e=>absurd g.1 (fun g=>(f a e).none g))) .inr)⟩
theorem CM {r lp t}(hr:nO K ns Γ r t):nO K ns Γ (.newL::r) (.List [] lp::t):=fun B σ0 D hd σ β k z Q E pos W hev hp=>
 MW (o:=cH [] 0) (sl:=.l []) hr EQ (Heap.get?_push_size _ rfl) (fun e=>(bW [] 0 ⟨e,rfl⟩)) (fun h=>wpAny_List (Calls.spliced_nil ⟨Nat.zero_le _,h⟩)) W hev hp
theorem CN {r lp t}(hr:nO K ns Γ r t):nO K ns Γ (.newD::r) (.Dict [] [] lp::t):=fun B σ0 D hd σ β k z Q E pos W hev hp=>
 MW (o:=cW [] 0) (sl:=.d []) hr ⟨fun _ _=>rfl,fun _ _=>rfl,fun _ _=>rfl⟩ (Heap.get?_push_size _ rfl) (fun e=>(bW [] 0 ⟨e,rfl,List.nodup_nil⟩)) (fun h=>wpAny_Dict_empty h) W hev hp
end
section
variable {K:Ct}{ns:fJ}{Γ:eO}
noncomputable def tgN:List Expr→List Str
 |.Name n _::t=>n::tgN t
 |_=>[]
theorem xF {env:Env}{l:Nat}{xs:List Nat}{ts:List Expr}(h:EX K Γ xs ts):(ts.filterMap fun
  |.Name id pos=>if env.kindOf id==some .local && pos.line==l then some id else none
  |_=>none).length≤ts.length∧((ts.filterMap fun
  |.Name id pos=>if env.kindOf id==some .local && pos.line==l then some id else none
  |_=>none).length=ts.length→(ts.filterMap fun
  |.Name id pos=>if env.kindOf id==some .local && pos.line==l then some id else none
  |_=>none)=tgN ts):=by
 induction h with
 |nil=>exact ⟨Nat.le_refl _,fun _=>rfl⟩
 | @cons i n p xs ts _ _ ih=>
  refine (Eq.symm List.filterMap_cons)▸?_
  dsimp only
  by_cases e:(env.kindOf n==some .local && p.line==l)=true
  ·refine (Eq.symm (if_pos e))▸?_;exact ⟨Nat.succ_le_succ ih.1,fun q=>List.cons_eq_cons.mpr ⟨rfl,ih.2 (Nat.succ.inj q)⟩⟩
  ·refine (Eq.symm (if_neg e))▸?_;exact ⟨Nat.le_succ_of_le ih.1,fun q=>absurd ih.1 (q▸Nat.not_succ_le_self _)⟩
theorem uO {xs:List Nat}{ts vs:List Expr}{k k':Nat}{p p':Pos}{env:Env}(ht:EX K Γ xs ts)(hc:(vs.all (foldedForSure 8)|| !(vs.all (constantsAlone 8)))=true):
  swappedStores [.Tuple ts k p] (.Tuple vs k' p') env=pure none∨swappedStores [.Tuple ts k p] (.Tuple vs k' p') env=pure (some (tgN ts)):=by
 unfold swappedStores
 dsimp only
 split
 ·exact .inl rfl
 ·split
  ·exact .inl rfl
  ·split
   ·exact .inl rfl
   ·split
    ·exact .inl rfl
    ·rename_i h1 h2 h3 h4
     rw [Bool.or_eq_true,Bool.not_eq_true'] at hc
     have hc:=hc.resolve_left h4
     split
     ·rename_i h5
      rw [hc] at h5;cases h5
     ·rw [Bool.or_eq_true] at h3
      have h3:=fun q=>h3 (.inl q)
      have e:=Classical.byContradiction fun q=>h3 (bne_iff_ne.mpr q)
      exact .inr (congrArg (fun z=>(pure (some z):Sem (Option (List Str)))) ((xF ht).2 e))
structure MX (K:Ct)(Γ:eO)(env:Env)(xs:List Nat)(ts:List Expr)(l:List (Value×aF))(its:List It):Prop where
 v:its.map (·.2.2.1)=l.map (·.1)
 s:∀ρ,MV its ρ=aZ xs (l.map (·.2)) ρ
 n:its.map (·.2.1)=tgN ts
 ix:its.map (·.1)=xs
 m:∀it∈its,Tg K Γ it.1 it.2.1∧(it.2.2.1,it.2.2.2)∈l
 pw:∀{R:(Value×aF)→(Value×aF)→Prop},l.Pairwise R→its.Pairwise fun a b=>R (a.2.2.1,a.2.2.2) (b.2.2.1,b.2.2.2)
 f:Fs env ((assignEach ts env).map (·.2)) its
theorem aaK {env:Env}{xs:List Nat}{ts:List Expr}(h:EX K Γ xs ts):∀{l:List (Value×aF)},l.length=xs.length→∃its,MX K Γ env xs ts l its:=by
 induction h with
 |nil=>intro l e;cases l with
  |nil=>exact ⟨[],rfl,fun _=>rfl,rfl,rfl,fun _ m=>absurd m List.not_mem_nil,fun _=>.nil,.nil⟩
  |cons _ _=>cases e
 | @cons i n p xs ts hg _ ih=>intro l e;cases l with
  |nil=>cases e
  |cons a l=>
   obtain ⟨its,o⟩:=ih (Nat.succ.inj e)
   refine ⟨(i,n,a.1,a.2)::its,List.cons_eq_cons.mpr ⟨rfl,o.v⟩,fun ρ=>o.s (ρ.set i a.2),List.cons_eq_cons.mpr ⟨rfl,o.n⟩,List.cons_eq_cons.mpr ⟨rfl,o.ix⟩,fun it m=>?_,fun r=>?_,.cons (fun v M A Q E s hq=>?_) o.f⟩
   ·rcases List.mem_cons.mp m with rfl|m
    ·exact ⟨hg,.head _⟩
    ·exact ⟨(o.m it m).1,.tail _ (o.m it m).2⟩
   ·rw [List.pairwise_cons] at r ⊢
    exact ⟨fun it m=>r.1 _ (o.m it m).2,o.pw r.2⟩
   ·show wpAny M A (do standAt p;bindName env n v) Q E s
    exact wpAny_bind (wpAny_standAt hq)
theorem MY {l:List It}{ρ:Fm}(h:(l.map (·.1)).Nodup):MV l.reverse ρ=MV l ρ:=by
 unfold MV
 refine List.Perm.foldl_eq' (List.reverse_perm l) (fun x hx y hy z=>?_) ρ
 rw [List.mem_reverse] at hx hy
 by_cases e:x.1=y.1
 ·refine aT (ix hx) fun i hi=>?_
  refine aT (ix hy) fun j hj=>?_
  have hi':(l.map (·.1))[i]? =some x.1:=by refine (Eq.symm List.getElem?_map)▸?_;refine (Eq.symm hi)▸?_;rfl
  have hj':(l.map (·.1))[j]? =some x.1:=by refine (Eq.symm List.getElem?_map)▸?_;refine (Eq.symm hj)▸?_;refine (Eq.symm e)▸?_;rfl
  have q:i=j:=(List.getElem?_inj (List.getElem?_eq_some_iff.mp hi').1 h).mp (hi'.trans hj'.symm)
  subst q
  cases hi.symm.trans hj;rfl
 ·exact List.set_comm _ _ e
theorem MZ {env:Env}:∀l:List It,Fs env (l.map fun it=>bindName env it.2.1) l:=fun l=>by
 induction l with
 |nil=>exact .nil
 |cons _ _ ih=>exact .cons (fun _ _ _ _ _ _ h=>h) ih
theorem IL {xs es ts k' tp vs k'' vp pos}(ht:EX K Γ xs ts)(he:nO K ns Γ es vs)(hnd:xs.Nodup)(hsz:Nat.ble es.length mH=true)(hc:(vs.all (foldedForSure 8)|| !(vs.all (constantsAlone 8)))=true):
  jB K ns Γ (.unpE xs es) (.Assign [.Tuple ts k' tp] (.Tuple vs k'' vp) pos):=fun B σ β k q z Q E S hev hn hr=>by
 have W0:Wt B σ (fun _=>False) (fun _=>False.elim) σ:=⟨S.hide (fun _ _ e=>e) (fun _=>False.elim) (fun _=>False.elim) fun _=>False.elim,.refl,rfl,fun _=>False.elim,fun _=>False.elim⟩
 have main:∀(Q':Value→Shared→Prop),(∀T D hd σ1 (l:List (Value×aF)) its,Wt B σ D hd σ1→FE B (fun _=>False) D hd σ1 l→MX K Γ B.env xs ts l its→σ1.s.heap.IsTuple T (l.map (·.1)).toArray→k (aZ xs (l.map (·.2)) σ1.ρ)=some z→Q' (.ref T) σ1.s)→wpAny K.M K.A (eval (.Tuple vs k'' vp) B.env) Q' E σ.s:=fun Q' hq=>by
  refine wpAny_Tuple (he B σ _ _ σ β _ z _ E _ W0 hev fun D hd σ1 l W1 _ ok e1 k1=>⟨by rw [List.length_map,e1];exact iP hsz,?_⟩)
  refine aG (aA k1) fun e2 k1=>?_
  have e2:=Nat.eq_of_beq_eq_true e2
  rw [List.length_map] at e2
  refine aT (aaK (env:=B.env) ht e2.symm) fun its o=>?_
  have hk:lJ σ1.s.heap (σ1.s.heap.push (yV (l.map (·.1)))):=bF
  exact hq _ D hd (σ1.to _ σ1.s.toks) l its ⟨W1.S.grow hk,W1.w.trans (.ext hk),W1.u.trans rfl,W1.f,W1.o⟩ ⟨fun p m=>(ok.ok p m).move (fun a o g=>⟨hk a o g.1,g.2⟩) fun d _ _ m=>⟨m,fun o=>hk d o⟩,ok.pw,ok.new⟩ o ⟨_,Heap.get?_push_size _ rfl,rfl,0,rfl⟩ k1
 have fin:∀{D hd σ1 h2 its fs its' l} {Q':Unit→Shared→Prop},Wt B σ D hd σ1→FE B (fun _=>False) D hd σ1 l→MX K Γ B.env xs ts l its→lJ σ1.s.heap h2→Fs B.env fs its'→(its'=its∨its'=its.reverse)→(∀σ',jA B.toBs [] σ σ'→σ'.ρ=aZ xs (l.map (·.2)) σ1.ρ→Q' () σ'.s)→
   wpAny K.M K.A (assignInOrder fs (its'.map (·.2.2.1))) Q' E (σ1.to h2 σ1.s.toks).s:=fun {D hd σ1 h2 its fs its' l Q'} W1 ok o hk hf hi hq=>by
  have hpw:its.Pairwise itR:=o.pw ok.pw
  refine CL (σ0:=σ) (D:=D) (hd:=hd) (σ:=σ1.to h2 σ1.s.toks) hf ⟨W1.S.grow hk,W1.w.trans (.ext hk),W1.u.trans rfl,W1.f,W1.o⟩ (fun it m=>?_) ?_ fun σ' g e=>hq σ' g ?_
  ·have m:it∈its:=hi.elim (fun e=>e▸m) fun e=>List.mem_reverse.mp (e▸m)
   exact ⟨(o.m it m).1,(ok.ok _ (o.m it m).2).move (fun a o g=>⟨hk a o g.1,g.2⟩) fun d _ _ m=>⟨m,fun o=>hk d o⟩⟩
  ·rcases hi with rfl|rfl
   ·exact hpw
   ·rw [List.pairwise_reverse];exact hpw.imp fun h o1 o2 e=>h o2 o1 e.symm
  ·rw [e, ←o.s]
   rcases hi with rfl|rfl
   ·rfl
   ·exact MY (o.ix▸hnd)
 refine iK (ht.ok (env:=B.env)) fun _ t1 t2=>?_
 rcases uO (k:=k') (k':=k'') (p:=tp) (p':=vp) (env:=B.env) ht hc with hw|hw
 ·refine Assign_Tuple (main _ fun T D hd σ1 l its W1 ok o hT k1=>?_) rfl hw
  have e1:l.length=xs.length:=by rw [←o.ix, ←List.length_map (f:=(·.1)) (as:=l), ←o.v,List.length_map,List.length_map]
  refine wpAny_assign_Tuple K.hh hT (by rw [t1, ←e1,List.size_toArray,List.length_map]) t2 fun h2 he=>?_
  rw [←o.v]
  exact fin (Q':=fun _ s'=>Q .next s') W1 ok o (fun b o e=>he b o (Nat.ne_of_lt (Heap.lt_size e)) e) o.f (.inl rfl) fun σ' g e=>hn σ' g (e▸k1)
 ·refine Assign_Tuple_swapped (main _ fun T D hd σ1 l its W1 ok o hT k1=>?_) rfl hw
  rw [show (tgN ts).length=(l.map (·.1)).toArray.size from by rw [←o.n,List.size_toArray, ←o.v,List.length_map,List.length_map]]
  refine wpAny_unpackItems_tuple K.hh hT fun h2 he=>?_
  rw [←o.v, ←o.n, ←List.map_reverse, ←List.map_reverse,List.map_map]
  exact fin (Q':=fun _ s'=>Q .next s') W1 ok o (fun b o e=>he b o (Nat.ne_of_lt (Heap.lt_size e)) e) (MZ its.reverse) (.inr rfl) fun σ' g e=>hn σ' g (e▸k1)
end
section
noncomputable def p0:Pos:=⟨0,0,0,0⟩
noncomputable def dx:Expr:=.Name "" p0
noncomputable def l1 (l:List Expr):Expr:=l.headD dx
noncomputable def l2 (l:List Expr):Expr:=l.tail.headD dx
structure Vw where
 a:List Expr
 l:List Expr
 p:Pos
 k:Nat
 s:Str
 g:List Comprehension
 sc:Option Scope
noncomputable def vw (pe:Expr):Vw:=match pe with
 |.BoolOp _ l p=>⟨[],l,p,0,"",[],none⟩
 |.BinOp a _ b p=>⟨[a,b],[],p,0,"",[],none⟩
 |.UnaryOp _ a p=>⟨[a],[],p,0,"",[],none⟩
 |.IfExp a b c p=>⟨[a,b,c],[],p,0,"",[],none⟩
 |.Dict ks l p=>⟨[(ks.headD none).getD dx],l,p,0,"",[],none⟩
 |.ListComp a g s p=>⟨[a],[],p,0,"",g,some s⟩
 |.Compare a _ l p=>⟨[a],l,p,0,"",[],none⟩
 |.Call a l _ p=>⟨[a],l,p,0,"",[],none⟩
 |.Constant c k p=>⟨[],[],p,k,(match c with
  |.str x=>x
  |_=>""),[],none⟩
 |.Lambda _ b s p=>⟨[b],[],p,0,"",[],some s⟩
 |.Attribute a _ p=>⟨[a],[],p,0,"",[],none⟩
 |.Subscript a b p=>⟨[a,b],[],p,0,"",[],none⟩
 |.Name x p=>⟨[],[],p,0,x,[],none⟩
 |.List l p=>⟨[],l,p,0,"",[],none⟩
 |.Tuple l k p=>⟨[],l,p,k,"",[],none⟩
 |.Slice a b _ p=>⟨[a.getD (b.getD dx)],[],p,0,"",[],none⟩
 |_=>⟨[],[],p0,0,"",[],none⟩
noncomputable def x1 (pe:Expr):Expr:=l1 (vw pe).a
noncomputable def x2 (pe:Expr):Expr:=l2 (vw pe).a
noncomputable def x3 (pe:Expr):Expr:=l2 (vw pe).a.tail
noncomputable def xl (pe:Expr):List Expr:=(vw pe).l
noncomputable def xp (pe:Expr):Pos:=(vw pe).p
noncomputable def xk (pe:Expr):Nat:=(vw pe).k
noncomputable def xs (pe:Expr):Str:=(vw pe).s
end
section
variable {K:Ct}{ns:fJ}{Γ:eO}
theorem IM {e:Expr}(he:∀env whole,PySem.isTrue e env whole=(do let v←whole;standAt e.pos;holding [v] (truthy v))):PlT e:=fun h=>isTrue_plain h (he _ _)
theorem UJ {c p}:cM K ns Γ .none (.Constant .none c p):=.pl KI (IM fun _ _=>rfl) mP (.inr fun _ _ _=>rfl) (.inr fun _ _ _ _ _=>⟨rfl,rfl⟩)
theorem UK {b c p}:cM K ns Γ (.bool b) (.Constant (.bool b) c p):=.pl KJ (IM fun _ _=>rfl) mP (.inr fun _ _ _=>rfl) (.inr fun _ _ _ _ _=>⟨rfl,rfl⟩)
theorem aaL {i c p}:cM K ns Γ (.int i) (.Constant (.int i) c p):=.pl ST (IM fun _ _=>rfl) mP (.inr fun _ _ _=>rfl) (.inr fun _ _ _ _ _=>⟨rfl,rfl⟩)
theorem aaM {n c p}(hn:n<27):cM K ns Γ (.str n) (.Constant (.str (nm n)) c p):=.pl (SU hn) (IM fun _ _=>rfl) mP (.inr fun _ _ _=>rfl) (.inr fun _ _ _ _ _=>⟨rfl,rfl⟩)
theorem xG {e x p}(h:bH K ns Γ e (.Name x p)):cM K ns Γ e (.Name x p):=.pl h (IM fun _ _=>rfl) ⟨fun _ _=>rfl,fun _ _=>rfl,fun _ _=>rfl⟩ (.inr fun _ _ _=>rfl) (.inr fun _ _ _ _ _=>⟨rfl,rfl⟩)
theorem aaN {e l o r p}(h:bH K ns Γ e (.BinOp l o r p)):cM K ns Γ e (.BinOp l o r p):=.pl h (IM fun _ _=>rfl) ⟨fun _ _=>rfl,fun _ _=>rfl,fun _ _=>rfl⟩ (.inr fun _ _ _=>rfl) (.inr fun _ _ _ _ _=>⟨rfl,rfl⟩)
theorem aaO {e a p}(h:bH K ns Γ e (.UnaryOp .USub a p)):cM K ns Γ e (.UnaryOp .USub a p):=.pl h (IM fun _ _=>rfl) ⟨fun _ _=>rfl,fun _ _=>rfl,fun _ _=>rfl⟩ (.inr fun _ _ _=>rfl) (.inr fun _ _ _ _ _=>⟨rfl,rfl⟩)
theorem aeO {e o a p}(h:bH K ns Γ e (.UnaryOp o a p))(t:kM K ns Γ e (.UnaryOp o a p)):cM K ns Γ e (.UnaryOp o a p):=⟨h,t,.inr ⟨fun _ _=>rfl,fun _ _=>rfl,fun _ _=>rfl⟩,.inr fun _ _ _=>rfl,.inr fun _ _ _ _ _=>⟨rfl,rfl⟩⟩
theorem CP {e l o r p}(h:bH K ns Γ e (.Compare l o r p))(t:kM K ns Γ e (.Compare l o r p)):cM K ns Γ e (.Compare l o r p):=⟨h,t,.inr ⟨fun _ _=>rfl,fun _ _=>rfl,fun _ _=>rfl⟩,.inr fun _ _ _=>rfl,.inr fun _ _ _ _ _=>⟨rfl,rfl⟩⟩
theorem YC {e o l p}(h:bH K ns Γ e (.BoolOp o l p))(t:kM K ns Γ e (.BoolOp o l p)):cM K ns Γ e (.BoolOp o l p):=⟨h,t,.inr ⟨fun _ _=>rfl,fun _ _=>rfl,fun _ _=>rfl⟩,.inr fun _ _ _=>rfl,.inr fun _ _ _ _ _=>⟨rfl,rfl⟩⟩
theorem aaP {e a b c p}(h:bH K ns Γ e (.IfExp a b c p))(t:kM K ns Γ e (.IfExp a b c p)):cM K ns Γ e (.IfExp a b c p):=⟨h,t,.inr ⟨fun _ _=>rfl,fun _ _=>rfl,fun _ _=>rfl⟩,.inr fun _ _ _=>rfl,.inr fun _ _ _ _ _=>⟨rfl,rfl⟩⟩
theorem aaQ {es l k p}(h:bH K ns Γ (.tup es) (.Tuple l k p)):cM K ns Γ (.tup es) (.Tuple l k p):=.pl h (IM fun _ _=>rfl) ⟨fun _ _=>rfl,fun _ _=>rfl,fun _ _=>rfl⟩ (.inr fun _ _ _=>rfl) (.inl rfl)
theorem aaR {e l p}(h:bH K ns Γ e (.List l p)):cM K ns Γ e (.List l p):=.pl h (IM fun _ _=>rfl) EQ (.inr fun _ _ _=>rfl) (.inr fun _ _ _ _ _=>⟨rfl,rfl⟩)
theorem NB {e k v p}(h:bH K ns Γ e (.Dict k v p)):cM K ns Γ e (.Dict k v p):=.pl h (IM fun _ _=>rfl) ⟨fun _ _=>rfl,fun _ _=>rfl,fun _ _=>rfl⟩ (.inr fun _ _ _=>rfl) (.inr fun _ _ _ _ _=>⟨rfl,rfl⟩)
theorem qO {e a i p}(h:bH K ns Γ e (.Subscript a i p)):cM K ns Γ e (.Subscript a i p):=.pl h (IM fun _ _=>rfl) ⟨fun _ _=>rfl,fun _ _=>rfl,fun _ _=>rfl⟩ (.inr fun _ _ _=>rfl) (.inr fun _ _ _ _ _=>⟨rfl,rfl⟩)
theorem nB {e f a k p}(h:bH K ns Γ e (.Call f a k p)):cM K ns Γ e (.Call f a k p):=.pl h (IM fun _ _=>rfl) nA (.inr fun _ _ _=>rfl) (.inr fun _ _ _ _ _=>⟨rfl,rfl⟩)
theorem UL {nv s ifs elt a g sc p}(h:bH K ns Γ (.comp nv s ifs elt) (.ListComp a g sc p)):cM K ns Γ (.comp nv s ifs elt) (.ListComp a g sc p):=.pl h (IM fun _ _=>rfl) ⟨fun _ _=>rfl,fun _ _=>rfl,fun _ _=>rfl⟩ (.inl rfl) (.inl rfl)
structure qP (K:Ct)(ns:fJ)(Γ:eO)(es:List E)(pes:List Expr):Prop where
 all:nM K ns Γ es pes
 len:pes.length=es.length
 l:uN K ns Γ es pes
 ts:mR K ns Γ es pes
 hd:∀e r,es=e::r→∃p t,pes=p::t∧cM K ns Γ e p
theorem qP.nil:qP K ns Γ [] []:=⟨BV,rfl,.nil,.nil,nofun⟩
theorem qP.cons {e r p t}(he:cM K ns Γ e p)(hr:qP K ns Γ r t):qP K ns Γ (e::r) (p::t):=
 ⟨zE he hr.all,congrArg (· +1) hr.len,.cons he hr.len hr.l,.cons he.t hr.ts,fun e' r' q=>by cases q;exact (bW p t ⟨rfl,he⟩)⟩
theorem YD {α:Type}{l:List α}(h:(!l.isEmpty)=true):l≠[]:=fun e=>by subst e;cases h
theorem IN (HC:cS K){f fn es pes gp pos}(hf:rS[f]? =some fn)(hio:(!fn.io)=true)(hg:jX ns fn.name=true)(hn:(!es.isEmpty)=true)(h:qP K ns Γ es pes):bH K ns Γ (.call f es) (.Call (.Name fn.name gp) pes [] pos):=by
 cases es with
 |nil=>cases hn
 |cons e r=>
  refine dI (h.hd e r rfl) fun p t akD he=>?_;subst akD
  exact LQ HC hf ((Bool.not_eq_true' _).mp hio) hg he h.all
noncomputable def nb (e:E):Bool:=Nat.ble 1 (ZY e)
theorem cM.px' {e pe}(h:cM K ns Γ e pe)(n:nb e=true):PX pe:=h.px.resolve_left fun q=>by subst q;exact nomatch (show false=true from n)
end
noncomputable def jY {α:Type}(b:Bool)(f:b=true→Option α):Option α:=Bool.rec (motive:=fun c=>b=c→Option α) (fun _=>none) (fun h=>f h) b rfl
noncomputable def NC {α β:Type}(o:Option α)(f:(x:α)→o=some x→Option β):Option β:=Option.rec (motive:=fun c=>o=c→Option β) (fun _=>none) (fun x h=>f x h) o rfl
noncomputable def JT {β:Type}(Γ:eO)(i:Nat)(f:(x:Str)→Γ[i]? =some (some x)→Option β):Option β:=NC Γ[i]? fun o h=>NC o fun x h2=>f x (h2▸h)
theorem aeP {b:Bool}(h:(!b)=true):b=false:=(Bool.not_eq_true' b).mp h
structure aaS (K:Ct)(ns:fJ)(Γ:eO)(nv:Nat)(sr:Sr)(ifs:List E)(elt:E) where
 pair:Bool
 target:Expr
 iter:Expr
 pifs:List Expr
 pelt:Expr
 scope:Scope
 vars:List Str
 hnv:nv=vars.length
 hs:iU K ns Γ pair sr iter
 hts:mR K scope.names (dV Γ scope vars) ifs pifs
 helt:bH K scope.names (dV Γ scope vars) elt pelt
 htv:qM pair target vars
 F:cN ns Γ scope vars
noncomputable def xH (ns:fJ)(Γ:eO)(scope:Scope)(vars:List Str):Bool:=
 scope.kind==.function && (scope.names.all fun p=>p.2 !=.cell && (p.2 !=.local||scope.names.lookup p.1==some .local) && (p.2 !=.free||(ns.lookup p.1==some .cell && Γ.contains (some p.1)))) &&
 (vars.all fun x=>scope.names.lookup x==some .local && !(x==("__debug__":Str)) && !(x==("__classdict__":Str))) && decide vars.Nodup
theorem vM {ns:fJ}{Γ:eO}{scope:Scope}{vars:List Str}(h:xH ns Γ scope vars=true):cN ns Γ scope vars:=by
 unfold xH at h
 simp only [Bool.and_eq_true,List.all_eq_true,decide_eq_true_eq,Bool.or_eq_true,bne_iff_ne,ne_eq,Bool.not_eq_true'] at h
 refine aG h fun akE h4=>?_;obtain ⟨⟨h1,h2⟩,h3⟩:=akE
 refine ⟨eq_of_beq h1,fun p hp=>(h2 p hp).1.1,fun p hp e=>(h2 p hp).1.2.elim (fun q=>absurd e q) eq_of_beq,fun x hx=>?_,fun x hx=>⟨eq_of_beq (h3 x hx).1.1,(h3 x hx).1.2,(h3 x hx).2⟩,h4⟩
 rcases (h2 _ hx).2 with q|q
 ·exact absurd rfl q
 ·exact ⟨eq_of_beq q.1,by simpa using q.2⟩
section
variable {K:Ct}
noncomputable def prT (nv:Nat)(t:Expr):Option {q:Bool×Expr×List Str // qM q.1 q.2.1 q.2.2∧nv=q.2.2.length}:=match nv with
 |1=>some ⟨(false,.Name (xs t) (xp t),[xs t]),.one,rfl⟩
 |2=>some ⟨(true,.Tuple [.Name (xs (l1 (xl t))) (xp (l1 (xl t))),.Name (xs (l2 (xl t))) (xp (l2 (xl t)))] (xk t) (xp t),[xs (l1 (xl t)),xs (l2 (xl t))]),.two,rfl⟩
 |_=>none
noncomputable def mkC {ns:fJ}{Γ:eO}{nv:Nat}{sr:Sr}{ifs:List E}{elt:E}(pe:Expr)(rs:(pair:Bool)→Expr→Option {pe // iU K ns Γ pair sr pe})(rf:(ns':fJ)→(Γ':eO)→List Expr→Option {pes // qP K ns' Γ' ifs pes})(re:(ns':fJ)→(Γ':eO)→Expr→Option {pe // cM K ns' Γ' elt pe}):Option (aaS K ns Γ nv sr ifs elt):=
 match (vw pe).sc with
 |none=>none
 |some scope=>match (vw pe).g with
  |[]=>none
  |g::_=>(prT nv g.target).bind fun t=>jY (xH ns Γ scope t.1.2.2) fun h=>(rs t.1.1 g.iter).bind fun s=>(rf scope.names (dV Γ scope t.1.2.2) g.ifs).bind fun f=>(re scope.names (dV Γ scope t.1.2.2) (x1 pe)).bind fun e=>
   some ⟨t.1.1,t.1.2.1,s.1,f.1,e.1,scope,t.1.2.2,t.2.2,s.2,f.2.ts,e.2.ev,t.2.1,vM h⟩
noncomputable def ND:(l:List Nat)→List Expr→Option {ts // uM l ts}
 |[],_=>some ⟨[],.nil⟩
 |n::l,ts=>jY (Nat.blt n 27) fun h=>(ND l ts.tail).bind fun r=>some ⟨.Constant (.str (nm n)) (xk (l1 ts)) (xp (l1 ts))::r.1,.cons (Nat.blt_eq.mp h) r.2⟩
variable (HC:cS K)(io:Bool)(hio:io=false→K.io=none)
theorem NE {io:Bool}{i:Nat}(hio:io=false→K.io=none)(h:(!(io && Nat.beq i 0))=true):K.io=none∨i≠0:=by
 cases io with
 |false=>exact .inl (hio rfl)
 |true=>exact .inr fun e=>by subst e;cases h
set_option smartUnfolding false in
mutual
noncomputable def iL (ns:fJ)(Γ:eO):(e:E)→Expr→Option {pe // cM K ns Γ e pe}
 |.bad,pe=>some ⟨pe,.bad⟩
 |.none,pe=>some ⟨.Constant .none (xk pe) (xp pe),UJ⟩
 |.bool b,pe=>some ⟨.Constant (.bool b) (xk pe) (xp pe),UK⟩
 |.int i,pe=>some ⟨.Constant (.int i) (xk pe) (xp pe),aaL⟩
 |.str n,pe=>jY (Nat.blt n 27) fun h=>some ⟨.Constant (.str (nm n)) (xk pe) (xp pe),aaM (Nat.blt_eq.mp h)⟩
 |.var i,pe=>JT Γ i fun x h=>some ⟨.Name x (xp pe),xG (rT h)⟩
 |.frz i,pe=>JT Γ i fun x h=>jY (!(io && Nat.beq i 0)) fun h2=>some ⟨.Name x (xp pe),xG (SV h (NE hio h2))⟩
 |.glob g,pe=>NC mJ[g]? fun x h=>jY (jX ns x) fun h2=>some ⟨.Name x (xp pe),xG (KK h h2)⟩
 |.bin o a b,pe=>(iL ns Γ a (x1 pe)).bind fun p=>(iL ns Γ b (x2 pe)).bind fun q=>some ⟨.BinOp p.1 (ZT o) q.1 (xp pe),aaN (TN p.2.ev q.2.ev)⟩
 |.neg a,pe=>(iL ns Γ a (x1 pe)).bind fun p=>some ⟨.UnaryOp .USub p.1 (xp pe),aaO (TL p.2.ev)⟩
 |.not a,pe=>(iL ns Γ a (x1 pe)).bind fun p=>some ⟨.UnaryOp .Not p.1 (xp pe),aeO (TM p.2.ev) (LF p.2.t)⟩
 |.cmp o a b,pe=>(iL ns Γ a (x1 pe)).bind fun p=>(iL ns Γ b (l1 (xl pe))).bind fun q=>some ⟨.Compare p.1 [uK o] [q.1] (xp pe),CP (TO p.2.ev q.2.ev) (LG p.2.ev q.2.ev)⟩
 |.isN a,pe=>(iL ns Γ a (x1 pe)).bind fun p=>some ⟨.Compare p.1 [.Is] [.Constant .none (xk (l1 (xl pe))) (xp (l1 (xl pe)))] (xp pe),CP (TP p.2.ev) (LI p.2.ev)⟩
 |.inS b a l,pe=>(iL ns Γ a (x1 pe)).bind fun p=>(ND l (xl (l1 (xl pe)))).bind fun t=>jY (Nat.ble l.length mH) fun h=>some ⟨.Compare p.1 [KO b] [.Tuple t.1 (xk (l1 (xl pe))) (xp (l1 (xl pe)))] (xp pe),CP (TR p.2.ev t.2 h) (LJ p.2.ev t.2 h)⟩
 |.and es,pe=>(tH ns Γ es (xl pe)).bind fun p=>jY (!es.isEmpty) fun h=>some ⟨.BoolOp .And p.1 (xp pe),YC (TT (YD h) p.2.l) (LL p.2.l)⟩
 |.or es,pe=>(tH ns Γ es (xl pe)).bind fun p=>jY (!es.isEmpty) fun h=>some ⟨.BoolOp .Or p.1 (xp pe),YC (ZZ (YD h) p.2.l) (TU p.2.l)⟩
 |.ite t a b,pe=>(iL ns Γ t (x1 pe)).bind fun p=>(iL ns Γ a (x2 pe)).bind fun q=>(iL ns Γ b (x3 pe)).bind fun r=>some ⟨.IfExp p.1 q.1 r.1 (xp pe),aaP (TS p.2.t q.2.ev r.2.ev) (LK p.2.t q.2.t r.2.t)⟩
 |.tup es,pe=>(tH ns Γ es (xl pe)).bind fun p=>jY (Nat.ble es.length mH) fun h=>some ⟨.Tuple p.1 (xk pe) (xp pe),aaQ (TV p.2.all h)⟩
 |.lst es,pe=>(tH ns Γ es (xl pe)).bind fun p=>jY (Nat.ble es.length mH) fun h=>some ⟨.List p.1 (xp pe),aaR (TW p.2.all h)⟩
 |.dct0,pe=>some ⟨.Dict [] [] (xp pe),NB LM⟩
 |.dct1 a b,pe=>(iL ns Γ a (x1 pe)).bind fun p=>(iL ns Γ b (l1 (xl pe))).bind fun q=>some ⟨.Dict [some p.1] [q.1] (xp pe),NB (LU p.2 q.2.ev)⟩
 |.subN a n,pe=>(iL ns Γ a (x1 pe)).bind fun p=>some ⟨.Subscript p.1 (.Constant (.int n) (xk (x2 pe)) (xp (x2 pe))) (xp pe),qO (LN p.2.ev)⟩
 |.sub a b,pe=>(iL ns Γ a (x1 pe)).bind fun p=>(iL ns Γ b (x2 pe)).bind fun q=>some ⟨.Subscript p.1 q.1 (xp pe),qO (TX p.2.ev q.2)⟩
 |.subO n b,pe=>JT Γ n fun y h=>(iL ns Γ b (x2 pe)).bind fun q=>some ⟨.Subscript (.Name y (xp (x1 pe))) q.1 (xp pe),qO (LP h q.2)⟩
 |.slcLo a b,pe=>(iL ns Γ a (x1 pe)).bind fun p=>(iL ns Γ b (x1 (x2 pe))).bind fun q=>some ⟨.Subscript p.1 (.Slice (some q.1) none none (xp (x2 pe))) (xp pe),qO (HL p.2.ev q.2.ev)⟩
 |.slcHi a b,pe=>(iL ns Γ a (x1 pe)).bind fun p=>(iL ns Γ b (x1 (x2 pe))).bind fun q=>some ⟨.Subscript p.1 (.Slice none (some q.1) none (xp (x2 pe))) (xp pe),qO (HM p.2.ev q.2.ev)⟩
 |.call f es,pe=>NC rS[f]? fun fn hf=>jY (!fn.io) fun h1=>jY (jX ns fn.name) fun h2=>jY (!es.isEmpty) fun h3=>(tH ns Γ es (xl pe)).bind fun p=>some ⟨.Call (.Name fn.name (xp (x1 pe))) p.1 [] (xp pe),nB (IN HC hf h1 h2 h3 p.2)⟩
 |.callO f n es,pe=>NC rS[f]? fun fn hf=>jY fn.io fun h1=>jY (jX ns fn.name) fun h2=>JT Γ n fun y h=>(tH ns Γ es (xl pe).tail).bind fun p=>some ⟨.Call (.Name fn.name (xp (x1 pe))) (.Name y (xp (l1 (xl pe)))::p.1) [] (xp pe),nB (HN HC hf h1 h2 h p.2.all)⟩
 |.bi1 b a,pe=>jY (jX ns (b1N b)) fun h=>(iL ns Γ a (l1 (xl pe))).bind fun p=>some ⟨.Call (.Name (b1N b) (xp (x1 pe))) [p.1] [] (xp pe),nB (UA h p.2)⟩
 |.bi2 b a c,pe=>jY (jX ns (b2N b)) fun h=>jY (nb c) fun hn=>(iL ns Γ a (l1 (xl pe))).bind fun p=>(iL ns Γ c (l2 (xl pe))).bind fun q=>some ⟨.Call (.Name (b2N b) (xp (x1 pe))) [p.1,q.1] [] (xp pe),nB (UB h p.2 q.2.ev (q.2.px' hn))⟩
 |.dget n a c,pe=>JT Γ n fun y h=>jY ((xp (x1 pe)).endLine==(xp pe).line) fun hl=>jY (nb c) fun hn=>(iL ns Γ a (l1 (xl pe))).bind fun p=>(iL ns Γ c (l2 (xl pe))).bind fun q=>some ⟨.Call (.Attribute (.Name y (xp (x1 (x1 pe)))) "get" (xp (x1 pe))) [p.1,q.1] [] (xp pe),nB (LR hl h p.2 q.2.ev (q.2.px' hn))⟩
 |.dpop n a c,pe=>JT Γ n fun y h=>jY ((xp (x1 pe)).endLine==(xp pe).line) fun hl=>jY (nb c) fun hn=>(iL ns Γ a (l1 (xl pe))).bind fun p=>(iL ns Γ c (l2 (xl pe))).bind fun q=>some ⟨.Call (.Attribute (.Name y (xp (x1 (x1 pe)))) "pop" (xp (x1 pe))) [p.1,q.1] [] (xp pe),nB (LS hl h p.2 q.2.ev (q.2.px' hn))⟩
 |.comp nv s ifs elt,pe=>(mkC (nv:=nv) pe (fun pair p=>aaT ns Γ pair s p) (fun ns' Γ' p=>tH ns' Γ' ifs p) fun ns' Γ' p=>iL ns' Γ' elt p).bind fun c=>some ⟨.ListComp c.pelt [⟨c.target,c.iter,c.pifs,0⟩] c.scope (xp pe),UL (zN c.hnv c.hs c.hts c.helt c.htv c.F)⟩
 |.rank a,pe=>jY (jX ns "RANKS") fun h=>(iL ns Γ a (x2 pe)).bind fun p=>some ⟨.Subscript (.Name "RANKS" (xp (x1 pe))) p.1 (xp pe),qO (LT rfl h p.2)⟩
noncomputable def tH (ns:fJ)(Γ:eO):(es:List E)→List Expr→Option {pes // qP K ns Γ es pes}
 |[],_=>some ⟨[],.nil⟩
 |e::r,l=>(iL ns Γ e (l1 l)).bind fun p=>(tH ns Γ r l.tail).bind fun q=>some ⟨p.1::q.1,.cons p.2 q.2⟩
noncomputable def aaT (ns:fJ)(Γ:eO)(pair:Bool):(s:Sr)→Expr→Option {pe // iU K ns Γ pair s pe}
 |.val a,pe=>(iL ns Γ a pe).bind fun p=>some ⟨p.1,HU p.2⟩
 |.rng1 a,pe=>jY (jX ns "range") fun h=>(iL ns Γ a (l1 (xl pe))).bind fun p=>some ⟨.Call (.Name "range" (xp (x1 pe))) [p.1] [] (xp pe),CB rfl h p.2⟩
 |.rng2 a b,pe=>jY (jX ns "range") fun h=>(iL ns Γ a (l1 (xl pe))).bind fun p=>(iL ns Γ b (l2 (xl pe))).bind fun q=>some ⟨.Call (.Name "range" (xp (x1 pe))) [p.1,q.1] [] (xp pe),CC rfl h p.2 q.2⟩
 |.enm a,pe=>jY (jX ns "enumerate") fun h=>jY pair fun hp=>(iL ns Γ a (l1 (xl pe))).bind fun p=>some ⟨.Call (.Name "enumerate" (xp (x1 pe))) [p.1] [] (xp pe),hp▸HV rfl h p.2⟩
 |.itm n,pe=>JT Γ n fun y h=>jY (!(io && Nat.beq n 0)) fun h2=>jY pair fun hp=>jY ((xp (x1 pe)).endLine==(xp pe).line) fun hl=>some ⟨.Call (.Attribute (.Name y (xp (x1 (x1 pe)))) "items" (xp (x1 pe))) [] [] (xp pe),hp▸HW hl rfl h (NE hio h2)⟩
 |.srtE n,pe=>JT Γ n fun y h=>jY (jX ns "sorted") fun h2=>some ⟨.Call (.Name "sorted" (xp (x1 pe))) [.Name y (xp (l1 (xl pe)))] [] (xp pe),CD rfl h2 h⟩
end
end
structure Vs where
 t:Expr
 v:Expr
 b:List Stmt
 o:List Stmt
 h:List ExceptHandler
 p:Pos
 f:Option (Arguments×Scope)
noncomputable def vs (st:Stmt):Vs:=match st with
 |.Return v p=>⟨dx,v.getD dx,[],[],[],p,none⟩
 |.Assign t v p=>⟨l1 t,v,[],[],[],p,none⟩
 |.AugAssign t _ v p=>⟨t,v,[],[],[],p,none⟩
 |.For t v b _ p=>⟨t,v,b,[],[],p,none⟩
 |.While t b _ p=>⟨dx,t,b,[],[],p,none⟩
 |.If t a b p=>⟨dx,t,a,b,[],p,none⟩
 |.Try b h _ _ p=>⟨dx,dx,b,[],h,p,none⟩
 |.Expr v p=>⟨dx,v,[],[],[],p,none⟩
 |.Raise v _ p=>⟨dx,v.getD dx,[],[],[],p,none⟩
 |.ClassDef _ _ _ b _ _ _ _ _ _ p=>⟨dx,dx,b,[],[],p,none⟩
 |.FunctionDef _ a b _ _ _ sc _ _ p=>⟨dx,dx,b,[],[],p,some (a,sc)⟩
 |_=>⟨dx,dx,[],[],[],p0,none⟩
section
variable {K:Ct}(HC:cS K)(io:Bool)(hio:io=false→K.io=none)
noncomputable def UM {α:Type}(Γ:eO)(i:Nat)(f:(y:Str)→Tg K Γ i y→Option α):Option α:=JT Γ i fun y h=>jY (!(io && Nat.beq i 0)) fun h2=>f y ⟨h,NE hio h2⟩
noncomputable def UN (Γ:eO):(l:List Nat)→List Expr→Option {ts // EX K Γ l ts}
 |[],_=>some ⟨[],.nil⟩
 |i::l,ts=>UM io hio Γ i fun y h=>(UN Γ l ts.tail).bind fun r=>some ⟨.Name y (xp (l1 ts))::r.1,.cons h r.2⟩
noncomputable def anP (Γ:eO)(l:List Nat)(t:Expr):Option {q:Bool×Expr // mQ K Γ q.1 l q.2}:=match l with
 |[i]=>UM io hio Γ i fun y h=>some ⟨(false,.Name y (xp t)),.one h⟩
 |[i,j]=>(UN io hio Γ [i,j] (xl t)).bind fun r=>some ⟨(true,.Tuple r.1 (xk t) (xp t)),.two r.2⟩
 |_=>none
noncomputable def UO (ns:fJ)(Γ:eO):(l:List Rv)→List Expr→Option {pes // nO K ns Γ l pes}
 |[],_=>some ⟨[],IK⟩
 |v::l,ts=>match v with
  |.e e=>(iL HC io hio ns Γ e (l1 ts)).bind fun p=>(UO ns Γ l ts.tail).bind fun r=>some ⟨p.1::r.1,UI p.2 r.2⟩
  |.newL=>(UO ns Γ l ts.tail).bind fun r=>some ⟨.List [] (xp (l1 ts))::r.1,CM r.2⟩
  |.newD=>(UO ns Γ l ts.tail).bind fun r=>some ⟨.Dict [] [] (xp (l1 ts))::r.1,CN r.2⟩
theorem NF {ns:fJ}{Γ:eO}{e:E}{pe:Expr}(h:cM K ns Γ e pe)(n:(!bc e)=true):∀t l env,swapsWith pe t l env=pure false:=h.sw.resolve_left fun q=>by rw [q] at n;cases n
theorem YE {ns:fJ}{Γ:eO}{e:E}{pe:Expr}(h:cM K ns Γ e pe)(n:(!bt e)=true):∀ts k p l env,swapsWithSole [.Tuple ts k p] pe l env=pure false∧swappedStores [.Tuple ts k p] pe env=pure none:=h.un.resolve_left fun q=>by rw [q] at n;cases n
noncomputable def anQ (ns:fJ)(Γ:eO)(e:E)(v:Expr)(n:Nat)(y:Str)(yp pos:Pos)(h:Tg K Γ n y):Option {st // jB K ns Γ (.asg n e) st}:=match e with
 |.comp nv s ifs elt=>(mkC (nv:=nv) v (fun pair p=>aaT HC io hio ns Γ pair s p) (fun ns' Γ' p=>tH HC io hio ns' Γ' ifs p) fun ns' Γ' p=>iL HC io hio ns' Γ' elt p).bind fun c=>some ⟨.Assign [.Name y yp] (.ListComp c.pelt [⟨c.target,c.iter,c.pifs,0⟩] c.scope (xp v)) pos,IC c.hnv c.hs c.hts c.helt c.htv c.F h⟩
 |e=>(iL HC io hio ns Γ e v).bind fun p=>jY (!bc e) fun hb=>some ⟨.Assign [.Name y yp] p.1 pos,MJ p.2.ev h (NF p.2 hb _)⟩
set_option smartUnfolding false in
mutual
noncomputable def prS (ns:fJ)(Γ:eO):(s:S)→Stmt→Option {st // jB K ns Γ s st}
 |.bad,st=>some ⟨st,MF⟩
 |.asg n e,st=>UM io hio Γ n fun y h=>anQ HC io hio ns Γ e (vs st).v n y (xp (vs st).t) (vs st).p h
 |.newL n,st=>UM io hio Γ n fun y h=>some ⟨.Assign [.Name y (xp (vs st).t)] (.List [] (xp (vs st).v)) (vs st).p,IE h⟩
 |.newD n,st=>UM io hio Γ n fun y h=>some ⟨.Assign [.Name y (xp (vs st).t)] (.Dict [] [] (xp (vs st).v)) (vs st).p,IF h⟩
 |.newLi n es,st=>UM io hio Γ n fun y h=>(tH HC io hio ns Γ es (xl (vs st).v)).bind fun p=>jY (Nat.ble es.length mH) fun hl=>some ⟨.Assign [.Name y (xp (vs st).t)] (.List p.1 (xp (vs st).v)) (vs st).p,CK h p.2.all hl⟩
 |.cpD n e,st=>UM io hio Γ n fun y h=>jY (jX ns "dict") fun hg=>(iL HC io hio ns Γ e (l1 (xl (vs st).v))).bind fun p=>some ⟨.Assign [.Name y (xp (vs st).t)] (.Call (.Name "dict" (xp (x1 (vs st).v))) [p.1] [] (xp (vs st).v)) (vs st).p,MM rfl hg h p.2⟩
 |.mtD n e,st=>UM io hio Γ n fun y h=>jY (jX ns "dict") fun hg=>jY (jX ns "list") fun hk=>(iL HC io hio ns Γ e (l1 (xl (l1 (xl (vs st).v))))).bind fun p=>
   some ⟨.Assign [.Name y (xp (vs st).t)] (.Call (.Name "dict" (xp (x1 (vs st).v))) [.Call (.Name "list" (xp (x1 (l1 (xl (vs st).v))))) [p.1] [] (xp (l1 (xl (vs st).v)))] [] (xp (vs st).v)) (vs st).p,MN rfl hg rfl hk h p.2⟩
 |.unpE l es,st=>(UN io hio Γ l (xl (vs st).t)).bind fun t=>(UO HC io hio ns Γ es (xl (vs st).v)).bind fun r=>jY (decide l.Nodup) fun h1=>jY (Nat.ble es.length mH) fun h2=>jY (r.1.all (foldedForSure 8)|| !(r.1.all (constantsAlone 8))) fun h3=>
   some ⟨.Assign [.Tuple t.1 (xk (vs st).t) (xp (vs st).t)] (.Tuple r.1 (xk (vs st).v) (xp (vs st).v)) (vs st).p,IL t.2 r.2 (of_decide_eq_true h1) h2 h3⟩
 |.unp l e,st=>(UN io hio Γ l (xl (vs st).t)).bind fun t=>(iL HC io hio ns Γ e (vs st).v).bind fun p=>jY (!bt e) fun h=>some ⟨.Assign [.Tuple t.1 (xk (vs st).t) (xp (vs st).t)] p.1 (vs st).p,MT t.2 p.2.ev (fun _ _=>(YE p.2 h _ _ _ _ _).1) fun env=>(YE p.2 h _ _ _ 0 env).2⟩
 |.setI n i e,st=>JT Γ n fun y h=>(iL HC io hio ns Γ i (x2 (vs st).t)).bind fun p=>(iL HC io hio ns Γ e (vs st).v).bind fun q=>jY (!bc e) fun hb=>some ⟨.Assign [.Subscript (.Name y (xp (x1 (vs st).t))) p.1 (xp (vs st).t)] q.1 (vs st).p,IH h p.2.ev q.2.ev (NF q.2 hb _)⟩
 |.aug n e,st=>UM io hio Γ n fun y h=>(iL HC io hio ns Γ e (vs st).v).bind fun p=>some ⟨.AugAssign (.Name y (xp (vs st).t)) .Add p.1 (vs st).p,ML h p.2.ev⟩
 |.app n e,st=>JT Γ n fun y h=>jY ((xp (x1 (vs st).v)).endLine==(xp (vs st).v).line) fun hl=>(iL HC io hio ns Γ e (l1 (xl (vs st).v))).bind fun p=>some ⟨.Expr (.Call (.Attribute (.Name y (xp (x1 (x1 (vs st).v)))) "append" (xp (x1 (vs st).v))) [p.1] [] (xp (vs st).v)) (vs st).p,MO hl h p.2 rfl⟩
 |.ext n e,st=>JT Γ n fun y h=>jY ((xp (x1 (vs st).v)).endLine==(xp (vs st).v).line) fun hl=>(iL HC io hio ns Γ e (l1 (xl (vs st).v))).bind fun p=>some ⟨.Expr (.Call (.Attribute (.Name y (xp (x1 (x1 (vs st).v)))) "extend" (xp (x1 (vs st).v))) [p.1] [] (xp (vs st).v)) (vs st).p,MP hl h p.2 rfl⟩
 |.ex e,st=>(iL HC io hio ns Γ e (vs st).v).bind fun p=>jY (!bc e) fun hb=>some ⟨.Expr p.1 (vs st).p,UG p.2.ev (NF p.2 hb _)⟩
 |.ret e,st=>(iL HC io hio ns Γ e (vs st).v).bind fun p=>some ⟨.Return (some p.1) (vs st).p,MG p.2.ev⟩
 |.ite t a b,st=>(iL HC io hio ns Γ t (vs st).v).bind fun p=>(CQ ns Γ a (vs st).b).bind fun q=>(CQ ns Γ b (vs st).o).bind fun r=>some ⟨.If p.1 q.1 r.1 (vs st).p,MH p.2.t q.2 r.2⟩
 |.whl t b,st=>(iL HC io hio ns Γ t (vs st).v).bind fun p=>(CQ ns Γ b (vs st).b).bind fun q=>some ⟨.While p.1 q.1 [] (vs st).p,MQ p.2.t q.2⟩
 |.for l s b,st=>(anP io hio Γ l (vs st).t).bind fun t=>(aaT HC io hio ns Γ t.1.1 s (vs st).v).bind fun p=>(CQ ns Γ b (vs st).b).bind fun q=>some ⟨.For t.1.2 p.1 q.1 [] (vs st).p,MR t.2 p.2 q.2⟩
 |.tryS b,st=>match (vs st).h with
  |[]=>none
  |h::hs=>(CQ ns Γ b (vs st).b).bind fun q=>some ⟨.Try q.1 (h::hs) [] [] (vs st).p,MI q.2⟩
noncomputable def CQ (ns:fJ)(Γ:eO):(l:List S)→List Stmt→Option {st // lX K ns Γ l st}
 |[],_=>some ⟨[],ME⟩
 |s::r,l=>(prS ns Γ s (l.headD (.Pass p0))).bind fun p=>(CQ ns Γ r l.tail).bind fun q=>some ⟨p.1::q.1,IB p.2 q.2⟩
end
end
section
variable {kindOf:Str→Option NameKind}
theorem zO {n:Str}:∀{ns:List Str} {vs:List Value} {m:Str→Option Value},n∉ns→bindL kindOf (ns.zip vs) m n=m n:=fun {ns}=>by
 induction ns with
 |nil=>intro vs m _;rfl
 |cons a ns ih=>
  intro vs m h
  cases vs with
  |nil=>rfl
  |cons v vs=>
   rw [List.zip_cons_cons]
   unfold bindL
   rw [ih fun q=>h (.tail _ q)]
   split
   ·exact if_neg fun (e:n=a)=>h (e▸.head _)
   ·rfl
theorem zP {n:Str}:∀{ns:List Str} {vs:List Value} {m:Str→Option Value},n∉ns→bindC kindOf (ns.zip vs) m n=m n:=fun {ns}=>by
 induction ns with
 |nil=>intro vs m _;rfl
 |cons a ns ih=>
  intro vs m h
  cases vs with
  |nil=>rfl
  |cons v vs=>
   refine (Eq.symm List.zip_cons_cons)▸?_
   unfold bindC
   refine (Eq.symm (ih fun q=>h (.tail _ q)))▸?_
   split
   ·rfl
   ·exact if_neg fun (e:n=a)=>h (e▸.head _)
theorem vN {n:Str}{v:Value}(hk:kindOf n=some .local):∀{ns:List Str} {vs:List Value} {m:Str→Option Value} {i:Nat},ns.Nodup→ns[i]? =some n→vs[i]? =some v→bindL kindOf (ns.zip vs) m n=some v:=fun {ns}=>by
 induction ns with
 |nil=>intro vs m i _ h;cases h
 |cons a ns ih=>
  intro vs m i hn h1 h2
  cases vs with
  |nil=>cases h2
  |cons b vs=>
   refine (Eq.symm List.zip_cons_cons)▸?_
   unfold bindL
   cases i with
   |zero=>cases h1;cases h2;refine (Eq.symm (zO (List.nodup_cons.mp hn).1))▸?_;refine (Eq.symm (if_pos hk))▸?_;exact if_pos rfl
   |succ i=>exact ih (List.nodup_cons.mp hn).2 h1 h2
theorem IO {n:Str}{v:Value}(hk:kindOf n≠some .local):∀{ns:List Str} {vs:List Value} {m:Str→Option Value} {i:Nat},ns.Nodup→ns[i]? =some n→vs[i]? =some v→bindC kindOf (ns.zip vs) m n=some v:=fun {ns}=>by
 induction ns with
 |nil=>intro vs m i _ h;cases h
 |cons a ns ih=>
  intro vs m i hn h1 h2
  cases vs with
  |nil=>cases h2
  |cons b vs=>
   refine (Eq.symm List.zip_cons_cons)▸?_
   unfold bindC
   cases i with
   |zero=>cases h1;cases h2;refine (Eq.symm (zP (List.nodup_cons.mp hn).1))▸?_;refine (Eq.symm (if_neg hk))▸?_;exact if_pos rfl
   |succ i=>exact ih (List.nodup_cons.mp hn).2 h1 h2
end
theorem uP {x:Str}:∀{names:List (Str×NameKind)} {n:Nat} {acc:List (Str×Addr)},(acc.lookup x).isSome=true→((cellsFrom n names acc).lookup x).isSome=true:=fun {names}=>by
 induction names with
 |nil=>intro n acc h;exact h
 |cons p r ih=>
  obtain ⟨y,k⟩:=p
  intro n acc h
  unfold cellsFrom
  split
  ·refine ih ?_
   rw [List.lookup_cons]
   split
   ·rfl
   ·exact h
  ·exact ih h
theorem tI {x:Str}:∀{names:List (Str×NameKind)} {n:Nat} {acc:List (Str×Addr)},(x,NameKind.cell)∈names→((cellsFrom n names acc).lookup x).isSome=true:=fun {names}=>by
 induction names with
 |nil=>intro n acc h;cases h
 |cons p r ih=>
  obtain ⟨y,k⟩:=p
  intro n acc h
  unfold cellsFrom
  rcases List.mem_cons.mp h with e|h
  ·cases e
   refine (Eq.symm (if_pos (show (NameKind.cell==NameKind.cell)=true from rfl)))▸?_
   exact uP (by rw [List.lookup_cons,beq_self_eq_true];rfl)
  ·split
   ·exact ih h
   ·exact ih h
noncomputable def pU (scope:Scope)(L:Addr)(x:Str):Pl:=if scope.names.lookup x=some .local then .loc L x else .cel (((cellsFrom (L+1) scope.names []).lookup x).getD 0)
structure oU (scope:Scope)(vars:List Str):Prop where
 nd:vars.Nodup
 kind:∀x∈vars,scope.names.lookup x=some .local∨scope.names.lookup x=some .cell
 dbg:∀x∈vars,(x==("__debug__":Str))=false∧(x==("__classdict__":Str))=false
section
variable {scope:Scope}{vars:List Str}{L:Addr}{x:Str}{h h1:Heap}{m cm:Str→Option Value}
theorem oU.pl (H:oU scope vars)(hx:x∈vars):(scope.names.lookup x=some .local∧pU scope L x=.loc L x)∨
  (scope.names.lookup x≠some .local∧scope.names.lookup x=some .cell∧∃c,(cellsFrom (L+1) scope.names []).lookup x=some c∧pU scope L x=.cel c):=by
 by_cases hl:scope.names.lookup x=some .local
 ·exact .inl ⟨hl,if_pos hl⟩
 ·have hk:=(H.kind x hx).resolve_left hl
  obtain ⟨c,hc⟩:=Option.isSome_iff_exists.mp (tI (n:=L+1) (acc:=[]) (PySem.mem_of_lookup hk))
  exact .inr ⟨hl,hk,c,hc,by unfold pU;refine (Eq.symm (if_neg hl))▸?_;refine (Eq.symm hc)▸?_;rfl⟩
theorem UP (H:oU scope vars)(X:Cl L (cellsFrom (L+1) scope.names []) h1 cm)(hx:x∈vars):L≤(pU scope L x).addr:=by
 rcases H.pl (L:=L) hx with ⟨_,e⟩|⟨_,_,c,hc,e⟩
 ·refine (Eq.symm e)▸?_;exact Nat.le_refl _
 ·refine (Eq.symm e)▸?_;exact Nat.le_of_lt (X.above x c (PySem.mem_of_lookup hc))
theorem UQ (H:oU scope vars)(X:Cl L (cellsFrom (L+1) scope.names []) h1 cm):(vars.map (pU scope L)).Nodup:=by
 rw [List.nodup_iff_pairwise_ne,List.pairwise_map]
 refine (List.nodup_iff_pairwise_ne.mp H.nd).imp_of_mem fun {a b} ha hb ne e=>?_
 rcases H.pl (L:=L) ha with ⟨_,e1⟩|⟨_,_,c,hc,e1⟩
 ·rcases H.pl (L:=L) hb with ⟨_,e2⟩|⟨_,_,c',hc',e2⟩
  ·rw [e1,e2] at e;cases e;exact ne rfl
  ·rw [e1,e2] at e;cases e
 ·rcases H.pl (L:=L) hb with ⟨_,e2⟩|⟨_,_,c',hc',e2⟩
  ·rw [e1,e2] at e;cases e
  ·rw [e1,e2] at e;cases e
   exact ne (PySem.name_of_addr X.apart (PySem.mem_of_lookup hc) (PySem.mem_of_lookup hc'))
theorem CR (H:oU scope vars)(F:Fr h L h1 m)(X:Cl L (cellsFrom (L+1) scope.names []) h1 cm)(hx:x∈vars):there h1 (pU scope L x):=by
 rcases H.pl (L:=L) hx with ⟨_,e⟩|⟨_,_,c,hc,e⟩
 ·refine (Eq.symm e)▸?_;exact ⟨m,F.ns⟩
 ·refine (Eq.symm e)▸?_
  refine aD (X.cell x c hc) fun o ho hd=>?_
  exact (bW o _ ⟨ho,hd⟩)
theorem UR (H:oU scope vars)(F:Fr h L h1 m)(X:Cl L (cellsFrom (L+1) scope.names []) h1 cm){v:Value}(hx:x∈vars)(hm:scope.names.lookup x=some .local→m x=some v)(hc:scope.names.lookup x≠some .local→cm x=some v):rd h1 (pU scope L x) v:=by
 rcases H.pl (L:=L) hx with ⟨hl,e⟩|⟨hl,_,c,hc',e⟩
 ·refine (Eq.symm e)▸?_;exact ⟨m,F.ns,hm hl⟩
 ·refine (Eq.symm e)▸?_
  refine aD (X.cell x c hc') fun o ho hd=>?_
  exact ⟨o,ho,by refine (Eq.symm hd)▸?_;exact (Eq.symm (hc hl))▸rfl⟩
end
theorem iZ.at {P:Params}{h:Heap}{g:Gh}{io:Option Addr}{vs:List Value}{slots:List aF}(A:iZ P h g io vs slots){i:Nat}{sl:aF}(hi:slots[i]? =some sl):
  ∃v,vs[i]? =some v∧((∃a,io=some a∧i=0∧v=.ref a∧eQ P g h a sl)∨((io=none∨i≠0)∧∃x,sl=.v x∧Rp P g v x)):=by
 cases io with
 |none=>
  refine aD A fun xs akU r=>?_;subst akU
  rw [List.getElem?_map] at hi
  refine aD (Option.map_eq_some_iff.mp hi) fun x h1 akV=>?_;subst akV
  refine aD (bP.get r h1) fun v e q=>?_
  exact ⟨v,e,.inr ⟨.inl rfl,x,rfl,q⟩⟩
 |some a=>
  refine sK A fun sl0 xs rest akW akX ho r=>?_;subst akW;subst akX
  cases i with
  |zero=>cases hi;exact ⟨_,rfl,.inl ⟨a,rfl,rfl,rfl,ho⟩⟩
  |succ i=>
   rw [List.getElem?_cons_succ,List.getElem?_map] at hi
   refine aD (Option.map_eq_some_iff.mp hi) fun x h1 akY=>?_;subst akY
   refine aD (bP.get r h1) fun v e q=>?_
   exact ⟨v,e,.inr ⟨.inr (Nat.succ_ne_zero _),x,rfl,q⟩⟩
theorem iZ.len {P:Params}{h:Heap}{g:Gh}{io:Option Addr}{vs:List Value}{slots:List aF}(A:iZ P h g io vs slots):vs.length=slots.length:=by
 cases io with
 |none=>refine aD A fun xs akZ r=>?_;subst akZ;rw [bP.length r,List.length_map]
 |some a=>refine sK A fun sl0 xs rest ak0 ak1 ho r=>?_;subst ak0;subst ak1;rw [List.length_cons,List.length_cons,bP.length r,List.length_map]
structure uQ (fn:Fn)(params:Arguments)(body:List Stmt)(scope:Scope):Prop where
 le:fn.arity≤fn.vars.length
 pos:fn.arity≠0
 vars:oU scope fn.vars
 bind:∀(vals:List Value) pm cd doc,vals.length=fn.arity→bindArgs (Calls.docDef fn.name params body scope pm cd doc) ⟨vals,[]⟩=pure ((fn.vars.take fn.arity).zip vals)
 ok:∀(K:Ct),cS K→(fn.io=false→K.io=none)→lX K scope.names (fn.vars.map some) fn.body body
def lF {w:World}(cx:Cx w):Prop:=∀(f:Nat) (fn:Fn),rS[f]? =some fn→∃params body scope fa,mC cx.bs cx.mg fn.name params body scope fa∧uQ fn params body scope
noncomputable abbrev Ct.at (K:Ct) (A:Around) (hh:A.handled=none) (hu:A.units+300<cLine) (C:CF) (N:Nat) (io:Option Addr):Ct:={w:=K.w,cx:=K.cx,T:=K.T,A:=A,C:=C,N:=N,io:=io,hh:=hh,hu:=hu}
theorem fH.deeper {A:Around}{d:Nat}(h:fH A (d+1))(env:Env):fH (A.deeper env) d:=
 ⟨h.handled,Nat.le_trans (Nat.le_of_eq (Nat.add_right_comm A.depth 1 d)) h.depth,by have:=h.units;show A.units+3+4*d+400≤9900;lia⟩
theorem fH.dl {A:Around}{d:Nat}(h:fH A d):A.depth<1000:=Nat.lt_of_le_of_lt (Nat.le_trans (Nat.le_add_right _ _) h.depth) (by decide)
theorem fH.hu {A:Around}{d:Nat}(h:fH A d):A.units+300<cLine:=by have:=h.units;show A.units+300<9900;lia
section
variable {K:Ct}{fn:Fn}{params:Arguments}{body:List Stmt}{scope:Scope}{fa:Addr}{h:Heap}{out:Addr→Prop}{io:Option Addr}{args:List Value}{slots:List aF}{cd:Value}
theorem dX.lt (pre:dX K h out io){a:Addr}(x:out a):a<h.objs.size:=(pre.live a x).elim id fun ⟨_,g⟩=>Heap.lt_size g
theorem IP {A:Around}{hh hu}{C:CF}(pre:dX K h out io)(AR:iZ K.w.params h (go h out) io args slots)(OK:uQ fn params body scope)(hlen:slots.length=fn.arity){kindOf:Str→Option NameKind}(hk:∀x,kindOf x=scope.names.lookup x){h1:Heap}
  (F:Fr h h.objs.size h1 (bindL kindOf ((fn.vars.take fn.arity).zip args) fun _=>none)) (X:Cl h.objs.size (cellsFrom (h.objs.size+1) scope.names []) h1 (bindC kindOf ((fn.vars.take fn.arity).zip args) fun _=>none)):
  ∃B:Bs (K.at A hh hu C h.objs.size io).kx,B.out=out∧B.pls=fn.vars.map (pU scope h.objs.size)∧St B (io::List.replicate (fn.vars.length - 1) none) (slots++List.replicate (fn.vars.length - fn.arity) .un) h1:=by
 have plGe:∀p∈fn.vars.map (pU scope h.objs.size),h.objs.size≤p.addr:=fun p hp=>by
  refine aD (List.mem_map.mp hp) fun x hx ak2=>?_;subst ak2
  exact UP OK.vars X hx
 have ownIs:∀(i:Nat) (a:Addr),(io::List.replicate (fn.vars.length - 1) (none:Option Addr))[i]? =some (some a)→i=0∧io=some a:=fun i a e=>by
  cases i with
  |zero=>exact ⟨rfl,Option.some.inj e⟩
  |succ i=>rw [List.getElem?_cons_succ,List.getElem?_replicate] at e;split at e<;>cases e
 have v0:fn.vars.length≠0:=fun e=>OK.pos (Nat.le_zero.mp (e▸OK.le))
 let B:Bs (K.at A hh hu C h.objs.size io).kx:=
  {out:=out,pls:=fn.vars.map (pU scope h.objs.size),tbN:=fun a t=>⟨(pre.tb a t).2,(pre.tb a t).1,fun e=>(pre.io a e).2.1 t⟩,bas:=fun a o e=>aG (pre.base a o e) fun g n=>⟨Heap.lt_size g,n,fun q=>n (pre.io a q).1⟩,
   pl:=fun p hp=>⟨plGe p hp,fun x=>absurd (pre.lt x) (Nat.not_lt.mpr (plGe p hp))⟩,pnd:=UQ OK.vars X,ne:=fun e=>v0 (List.length_eq_zero_iff.mpr (List.map_eq_nil_iff.mp e)),ioN:=fun a e=>⟨pre.lt (pre.io a e).1,(pre.io a e).2.2⟩,sys:=pre.sys}
 have notX:∀a,Xs B (io::List.replicate (fn.vars.length - 1) none) a→a<h.objs.size→out a:=fun a x lt=>x.elim id fun x=>x.elim (fun ⟨p,hp,e⟩=>absurd lt (Nat.not_lt.mpr (e▸plGe p hp))) fun x=>aT (ix x) fun i hi=>(pre.io a (ownIs i a hi).2).1
 have hg:∀a o,go h out a o→gv B (io::List.replicate (fn.vars.length - 1) none) h1 a o:=fun a o g=>⟨F.keep a o g.1,fun x=>g.2 (notX a x (Heap.lt_size g.1))⟩
 have ndT:(fn.vars.take fn.arity).Nodup:=OK.vars.nd.sublist (List.take_sublist ..)
 have lenR:(slots++List.replicate (fn.vars.length - fn.arity) aF.un).length=fn.vars.length:=by refine (Eq.symm List.length_append)▸?_;refine (Eq.symm List.length_replicate)▸?_;refine (Eq.symm hlen)▸?_;exact Nat.add_sub_cancel' OK.le
 refine ⟨B,rfl,rfl,fun a o e=>F.keep a o (pre.base a o e).1,fun a x=>.inl (pre.lt x),fun i a e=>.inr (ownIs i a e),by refine (Eq.symm lenR)▸?_;exact List.length_map ..,by refine (Eq.symm lenR)▸?_;refine (Eq.symm List.length_cons)▸?_;refine (Eq.symm List.length_replicate)▸?_;exact Nat.succ_pred_eq_of_ne_zero v0,fun i p sl oa h1' h2 h3=>?_,
  fun i a e x=>?_,fun i j a e1 e2=>(ownIs i a e1).1.trans (ownIs j a e2).1.symm,K.T.mono _ _ (fun a o g=>⟨F.keep a o g.1,g.2.imp id fun n x=>n (notX a x (Heap.lt_size g.1))⟩) pre.ti,fun a e=>congrArg some e⟩
 ·replace h1':(fn.vars.map (pU scope h.objs.size))[i]? =some p:=h1'
  rw [List.getElem?_map] at h1'
  refine aD (Option.map_eq_some_iff.mp h1') fun x hx ak3=>?_;subst ak3
  have hxm:=List.mem_of_getElem? hx
  rcases Nat.lt_or_ge i slots.length with lt|ge
  ·rw [List.getElem?_append_left lt] at h2
   refine aD (AR.at h2) fun v hv q=>?_
   have hxt:(fn.vars.take fn.arity)[i]? =some x:=by refine (Eq.symm List.getElem?_take)▸?_;refine (Eq.symm (if_pos (hlen▸lt)))▸?_;exact hx
   have hrd:rd h1 (pU scope h.objs.size x) v:=UR OK.vars F X hxm (fun hl=>vN ((hk x).trans hl) ndT hxt hv) fun hl=>IO (fun e=>hl ((hk x).symm.trans e)) ndT hxt hv
   rcases q with ⟨a,e,rfl,rfl,ho⟩|⟨hz,y,rfl,r⟩
   ·cases (Option.some.inj h3:io=oa)
    subst e
    exact ⟨hrd,ho.move hg fun o g=>F.keep _ o g⟩
   ·have hoa:oa=none:=by
     cases oa with
     |none=>rfl
     |some a=>refine aG (ownIs i a h3) fun e1 e2=>?_;exact hz.elim (fun z=>by rw [z] at e2;cases e2) fun z=>absurd e1 z
    subst hoa
    exact ⟨v,hrd,r.mono hg⟩
  ·rw [List.getElem?_append_right ge,List.getElem?_replicate] at h2
   split at h2
   ·cases h2
    have hoa:oa=none:=by
     cases oa with
     |none=>rfl
     |some a=>exact absurd (hlen▸ge) (by refine (Eq.symm ((ownIs i a h3).1))▸?_;exact fun q=>OK.pos (Nat.le_zero.mp q))
    subst hoa
    exact CR OK.vars F X hxm
   ·cases h2
 ·refine aD x fun p hp e'=>?_
  exact absurd (pre.lt (pre.io a (ownIs i a e).2).1) (Nat.not_lt.mpr (e'▸plGe p hp))
structure kH {K':Ct}(B:eA K' scope.names (fn.vars.map some))(σ:Pt)(s:Shared)(fn:Fn)(out:Addr→Prop)(io:Option Addr)(slots:List aF)(env:Env):Prop where
 env:B.env=env
 out:B.out=out
 pls:B.pls=fn.vars.map (pU scope s.heap.objs.size)
 S:gZ B.toBs σ
 ρ:σ.ρ=slots++List.replicate (fn.vars.length - fn.arity) .un
 own:σ.own=io::List.replicate (fn.vars.length - 1) none
 up:Up s σ.s
 keep:lJ s.heap σ.s.heap
 loc:∃m,σ.s.heap.Ns s.heap.objs.size m
theorem jQ (hroom:K.A.depth<1000)(FA:mC K.cx.bs K.cx.mg fn.name params body scope fa)(OK:uQ fn params body scope)(hlen:slots.length=fn.arity){s:Shared}(pre:dX K s.heap out io)(AR:iZ K.w.params s.heap (go s.heap out) io args slots)(C:CF)
  (hd:∀env,(K.A.deeper env).handled=none∧(K.A.deeper env).units+300<cLine) {R:Result→Shared→Prop}
  (h:∀cd,(∃o pm doc,K.cx.bs.get? fa=some o∧o.data=.func (Calls.docDef fn.name params body scope pm cd doc))→∀(B:eA (K.at (K.A.deeper (envOfC fn.name scope s.heap.objs.size fa cd)) (hd _).1 (hd _).2 C s.heap.objs.size io) scope.names (fn.vars.map some)) σ,
   kH B σ s fn out io slots (envOfC fn.name scope s.heap.objs.size fa cd)→
   wpAny K.M (K.A.deeper (envOfC fn.name scope s.heap.objs.size fa cd)) (execs body B.env) (fun f s'=>R (.ok (.ret (match f with|.ret v=>v|_=>.none))) s') (fun e s'=>wpAny K.M (K.A.deeper (envOfC fn.name scope s.heap.objs.size fa cd)) (leaving B.env e) (fun _ s''=>R (.error e) s'') (fun e' s''=>R (.error e') s'') s') σ.s):
  codeAny K.M K.A (.call (.ref fa) ⟨args,[]⟩) R s:=by
 refine JZ FA.obj fun o pm cd doc hbs hdata hcode=>?_
 have hbs':∀a o,K.cx.bs.get? a=some o→s.heap.get? a=some o:=fun a o e=>(pre.base a o e).1
 refine call_cells (binds:=(fn.vars.take fn.arity).zip args) hroom (hbs' _ _ hbs) hdata (K.cx.nolim.keeps hbs') (hcode.keeps hbs') (OK.bind args pm cd doc (AR.len.trans hlen)) (fun x hx=>?_) (fun h1 tk F X=>?_) FA.co FA.gen FA.kind
 ·have hx1:x.1∈fn.vars:=List.mem_of_mem_take (List.of_mem_zip (show (x.1,x.2)∈_ from hx)).1
  exact (OK.vars.pl (L:=s.heap.objs.size) hx1).imp And.left fun ⟨_,h1,c,h2,_⟩=>⟨h1,by refine (Eq.symm h2)▸?_;rfl⟩
 ·refine iA (IP (A:=K.A.deeper (envOfC fn.name scope s.heap.objs.size fa cd)) (hh:=(hd _).1) (hu:=(hd _).2) (C:=C) pre AR OK hlen (kindOf:=(envOfC fn.name scope s.heap.objs.size fa cd).kindOf) (fun _=>rfl) F X) fun B0 hout hpls S=>?_
  have hB:iS (envOfC fn.name scope s.heap.objs.size fa cd) (fn.vars.map some) B0.pls:=by
   have var:∀(i:Nat) (x:Str),(fn.vars.map some)[i]? =some (some x)→fn.vars[i]? =some x:=fun i x hx=>by
    rw [List.getElem?_map] at hx
    refine aD (Option.map_eq_some_iff.mp hx) fun y hy e=>?_
    cases e;exact hy
   refine ⟨FA.kind,rfl,rfl,fun i x hx=>?_,fun i x hx=>OK.vars.dbg x (List.mem_of_getElem? (var i x hx)),by rw [hpls,List.length_map,List.length_map]⟩
   have hy:=var i x hx
   refine (Eq.symm hpls)▸?_;refine (Eq.symm List.getElem?_map)▸?_;refine (Eq.symm hy)▸?_
   exact (OK.vars.pl (L:=s.heap.objs.size) (List.mem_of_getElem? hy)).imp (fun ⟨hl,e⟩=>⟨hl,congrArg some e⟩) fun ⟨_,q1,c,q2,q3⟩=>⟨.inl q1,c,q2,congrArg some q3⟩
  exact h cd (jU o pm doc ⟨hbs,hdata⟩) ⟨B0,envOfC fn.name scope s.heap.objs.size fa cd,hB,fun _ h=>h,fun _ h=>h⟩ ⟨_,_,{s with heap:=h1,toks:=tk}⟩ ⟨rfl,hout,hpls,S,rfl,rfl,rfl,F.keep,_,F.ns⟩
theorem FF {A:Around}{hh hu}{C:CF}{s:Shared}{B:eA (K.at A hh hu C s.heap.objs.size io) scope.names (fn.vars.map some)}{σ σ':Pt}{env:Env}(EN:kH B σ s fn out io slots env)(G:jA B.toBs [] σ σ')(hio:io.isSome=fn.io){v:Value}{x r:V}{sl:aF}(hv:Vl B.toBs σ' v x)(hf:aC fn.io x σ'.ρ=some (r,sl)):
  pQ K s.heap out io r sl σ'.s.heap v:=by
 have hgv:∀b o,gS B.toBs σ' b o→go σ'.s.heap out b o:=fun b o g=>⟨g.1,fun y=>g.2 (.inl (EN.out▸y))⟩
 have hk:∀a o,s.heap.get? a=some o→¬K.T.tb a→io≠some a→σ'.s.heap.get? a=some o:=fun a o g t n=>G.w.k a o (EN.keep a o g) t (fun ⟨p,hp,e⟩=>absurd (Heap.lt_size g) (Nat.not_lt.mpr (e▸(B.pl p hp).1))) fun m=>by
  rw [EN.own] at m
  exact (List.mem_cons.mp m).elim (fun e=>n e.symm) fun m=>(nomatch (List.mem_replicate.mp m).2)
 have ti:K.T.inv fun a o=>σ'.s.heap.get? a=some o∧(K.T.tb a∨¬out a):=K.T.mono _ _ (fun a o g=>⟨g.1,g.2.imp id fun n y=>n (.inl (EN.out▸y))⟩) G.S.ti
 have hr:r=x∧(fn.io=true→σ'.ρ.at 0=sl∧aR sl=true):=by
  unfold aC at hf
  cases e:fn.io with
  |false=>rw [e] at hf;cases hf;exact ⟨rfl,nofun⟩
  |true=>rw [e] at hf;refine aG (aA hf) fun h1 h2=>?_;cases h2;exact ⟨rfl,fun _=>⟨rfl,h1⟩⟩
 refine ⟨hk,ti,hr.1▸hv.mono hgv,fun a e=>?_⟩
 refine aG (hr.2 (by refine hio▸?_;refine (Eq.symm e)▸?_;rfl)) fun e1 how=>?_
 refine bY (G.S.get (Fm.at_some e1 fun q=>by rw [q] at how;cases how)) fun p oa q1 q2 k=>?_
 rw [G.S.own0 a e] at q2;cases q2
 exact k.2.move hgv fun _ g=>g
theorem IQ {d:Nat}(RM:fH K.A (d+1))(FA:mC K.cx.bs K.cx.mg fn.name params body scope fa)(OK:uQ fn params body scope){C:CF}{r:V}{sl:aF}(hrun:kZ C glb fn slots=some (r,sl))(hb:∀(A:Around) hh hu N io,fH A d→cS (K.at A hh hu C N io))
  {s:Shared} (pre:dX K s.heap out io) (AR:iZ K.w.params s.heap (go s.heap out) io args slots) (hio:io.isSome=fn.io) {R:Result→Shared→Prop} (hp:∀h' tk v,pQ K s.heap out io r sl h' v→R (.ok (.ret v)) {s with heap:=h',toks:=tk}):codeAny K.M K.A (.call (.ref fa) ⟨args,[]⟩) R s:=by
 refine aG (aA hrun) fun hargs hev=>?_
 have hlen:=Nat.eq_of_beq_eq_true (iQ hargs).1
 refine jQ RM.dl FA OK hlen pre AR C (fun env=>⟨RM.handled,(RM.deeper env).hu⟩) fun cd _ B σ EN=>?_
 have upd:∀{σ':Pt},Up σ.s σ'.s→σ'.s={s with heap:=σ'.s.heap,toks:=σ'.s.toks}:=fun u=>EN.up.trans u
 have io':fn.io=false→io=none:=fun e=>by rw [e] at hio;cases io with|none=>rfl|some _=>cases hio
 refine OK.ok _ (hb _ _ _ _ _ (RM.deeper _)) io' B σ _ _ _ _ _ _ EN.S (by rw [EN.ρ];exact hev) (fun σ' G k1=>?_) fun σ' v x G hv k1=>?_
 ·have:=hp σ'.s.heap σ'.s.toks .none (FF EN G hio (x:=.none) rfl k1)
  rw [upd G.u];exact this
 ·have:=hp σ'.s.heap σ'.s.toks v (FF EN G hio hv k1)
  rw [upd G.u];exact this
end
theorem aH (s:aF)(r:Fm):Fm.at (s::r) 0=s:=rfl
theorem aI (s:aF)(r:Fm)(i:Nat):Fm.at (s::r) (i+1)=Fm.at r i:=rfl
theorem bM (a:aF)(r l:List aF):(a::r)++l=a::(r++l):=rfl
theorem bV (l:List aF):[]++l=l:=rfl
theorem aK {α:Type}(a b:α):cond true a b=a:=rfl
theorem aP {α:Type}(a b:α):cond false a b=b:=rfl
theorem bZ (b:Bool):(true && b)=b:=rfl
theorem cA (b:Bool):(false && b)=false:=rfl
theorem aB {α β:Type}(a:α)(f:α→Option β):(some a).bind f=f a:=rfl
theorem iB:glb[0]? =some (.tup [(.int 0),(.int 1)]):=rfl
theorem lY:glb[1]? =some (.tup [(.int 1),(.int 1)]):=rfl
theorem NG:glb[2]? =some (.tup [(.tup []),(.tup [(.int 0),(.int 1)]),(.int 0)]):=rfl
theorem aeQ:glb[3]? =some (.tup [(.str 0),(.int 0),(.int 1)]):=rfl
theorem YF:glb[4]? =some (.tup [(.str 0),(.int 1),(.int 1)]):=rfl
theorem YG:glb[5]? =some (.tup [(.str 0),(.int (-1)),(.int 1)]):=rfl
theorem NH:glb[6]? =some (.tup [(.str 0),(.int 0),(.int 1)]):=rfl
theorem zQ:glb[7]? =some (.tup [(.str 0),(.int 1),(.int 1)]):=rfl
theorem YH:glb[8]? =some (.tup [(.str 5),(.str 6),(.tup [(.tup [(.str 0),(.int 1),(.int 1)])])]):=rfl
theorem YI:glb[9]? =some (.str 20):=rfl
theorem NI:glb[10]? =some (.str 23):=rfl
theorem NJ:glb[11]? =some (.int 3):=rfl
theorem aaU:glb[12]? =some (.int 24):=rfl
theorem NK:glb[13]? =some (.tup [(.str 1),(.str 20)]):=rfl
theorem NL:glb[14]? =some (.tup [(.str 1),(.str 21)]):=rfl
theorem NM:glb[15]? =some (.tup [(.str 1),(.str 17)]):=rfl
theorem anR:glb[16]? =some (.tup [(.str 0),(.int 1),(.int 2)]):=rfl
theorem anS:glb[17]? =some (.tup [(.str 0),(.int (-1)),(.int 1)]):=rfl
noncomputable def sg0:{g:CF→V→V→Option (V×aF) // ∀C a b,aW C glb rA.body _ [.v a,.v b] (aC false .none) (aC false)=g C a b}:=⟨_,by intro C a b;conv=>lhs;dsimp only [rA,aW,kS,kE,cL,uW,aH,aI,List.map,aC,List.set,List.length,iV,iW,aZ,bM,bV,aK,aP,aR,dQ,bQ,kU,aB]⟩
noncomputable def sg2:{g:CF→V→V→Option (V×aF) // ∀C a b,aW C glb nU.body _ [.v a,.v b] (aC false .none) (aC false)=g C a b}:=⟨_,by intro C a b;conv=>lhs;dsimp only [nU,aW,kS,kE,cL,aH,aI,List.map,aC,List.set,List.length,aK,aP,aR,dQ,aB]⟩
noncomputable def sg3:{g:CF→V→V→Option (V×aF) // ∀C a b,aW C glb nV.body _ [.v a,.v b] (aC false .none) (aC false)=g C a b}:=⟨_,by intro C a b;conv=>lhs;dsimp only [nV,aW,kS,kE,cL,aH,aI,List.map,aC,List.set,List.length,aK,aP,aR,dQ,aB]⟩
noncomputable def sg4:{g:CF→V→V→Option (V×aF) // ∀C a b,aW C glb nW.body _ [.v a,.v b] (aC false .none) (aC false)=g C a b}:=⟨_,by intro C a b;conv=>lhs;dsimp only [nW,aW,kS,kE,cL,aH,aI,List.map,aC,List.set,List.length,aK,aP,aR,dQ,aB]⟩
noncomputable def sg5:{g:CF→V→V→Option (V×aF) // ∀C a b,aW C glb nY.body _ [.v a,.v b] (aC false .none) (aC false)=g C a b}:=⟨_,by intro C a b;conv=>lhs;dsimp only [nY,aW,kS,kE,cL,aH,aI,List.map,aC,List.set,List.length,aK,aP,aR,dQ,aB]⟩
noncomputable def sg6:{g:CF→V→Option (V×aF) // ∀C a,aW C glb nZ.body _ [.v a] (aC false .none) (aC false)=g C a}:=⟨_,by intro C a;conv=>lhs;dsimp only [nZ,aW,kS,kE,cL,aH,aI,List.map,aC,List.set,List.length,aK,aP,aR,dQ,aB]⟩
noncomputable def sg7:{g:CF→V→Option (V×aF) // ∀C a,aW C glb oA.body _ [.v a] (aC false .none) (aC false)=g C a}:=⟨_,by intro C a;conv=>lhs;dsimp only [oA,aW,kS,kE,cL,aH,aI,List.map,aC,List.set,List.length,aK,aP,aR,aB]⟩
noncomputable def sg8:{g:CF→V→V→Option (V×aF) // ∀C a b,aW C glb jI.body _ [.v a,.v b] (aC false .none) (aC false)=g C a b}:=⟨_,by intro C a b;conv=>lhs;dsimp only [jI,aW,kS,kE,cL,uW,aH,aI,List.map,aC,List.set,List.length,iW,aZ,bM,bV,aL,aM,bZ,cA,aK,aP,aR,dQ,bQ,aB]⟩
noncomputable def sg9:{g:CF→V→V→Option (V×aF) // ∀C a b,aW C glb fZ.body _ [.v a,.v b,.un] (aC false .none) (aC false)=g C a b}:=⟨_,by intro C a b;conv=>lhs;dsimp only [fZ,aW,kS,kE,cL,aH,aI,List.map,aC,List.set,List.length,aK,aP,aR,dQ,bQ,aB]⟩
noncomputable def aeS:{g:CF→List (V×V)→V→V→Option (V×aF) // ∀C a b c,aW C glb iC.body _ [.d a,.v b,.v c,.un] (aC true .none) (aC true)=g C a b c}:=⟨_,by intro C a b c;conv=>lhs;dsimp only [iC,aW,kS,kE,cL,aH,aI,List.map,aC,List.set,List.length,aL,aM,bZ,cA,aK,aP,aR,uF,uG,bQ,aB,iB]⟩
noncomputable def aeT:{g:CF→V→V→Option (V×aF) // ∀C a b,aW C glb oB.body _ [.v a,.v b,.un,.un] (aC false .none) (aC false)=g C a b}:=⟨_,by intro C a b;conv=>lhs;dsimp only [oB,aW,kS,kE,cL,jW,aH,aI,List.map,aC,List.set,List.length,iV,iW,bL,aZ,aL,aM,bZ,cA,aK,aP,aR,uF,uG,aB]⟩
noncomputable def aeU:{g:CF→V→V→Option (V×aF) // ∀C a b,aW C glb gA.body _ [.v a,.v b,.un,.un,.un] (aC false .none) (aC false)=g C a b}:=⟨_,by intro C a b;conv=>lhs;dsimp only [gA,aW,kS,kE,cL,dR,jW,aH,aI,List.map,aC,List.set,List.length,iV,iW,jH,bL,aZ,bM,bV,aL,aM,bZ,cA,aK,aP,aR,uF,uG,kU,aB,iB]⟩
noncomputable def aeV:{g:CF→V→V→Option (V×aF) // ∀C a b,aW C glb cX.body _ [.v a,.v b] (aC false .none) (aC false)=g C a b}:=⟨_,by intro C a b;conv=>lhs;dsimp only [cX,aW,kS,kE,cL,aH,aI,List.map,aC,List.set,List.length,aK,aP,aR,dQ,aB]⟩
noncomputable def aeW:{g:CF→V→V→Option (V×aF) // ∀C a b,aW C glb oE.body _ [.v a,.v b,.un,.un,.un] (aC false .none) (aC false)=g C a b}:=⟨_,by intro C a b;conv=>lhs;dsimp only [oE,aW,kS,kE,cL,jW,aH,aI,List.map,aC,List.set,List.length,iV,iW,bL,aZ,aL,aM,bZ,cA,aK,aP,aR,uF,uG,aB]⟩
noncomputable def aeX:{g:CF→V→V→Option (V×aF) // ∀C a b,aW C glb cY.body _ [.v a,.v b,.un,.un] (aC false .none) (aC false)=g C a b}:=⟨_,by intro C a b;conv=>lhs;dsimp only [cY,aW,kS,kE,cL,dR,jW,aH,aI,List.map,aC,List.set,List.length,iV,iW,jH,bL,aZ,bM,bV,aL,aM,bZ,cA,aK,aP,aR,uF,uG,dQ,bQ,kU,aB]⟩
noncomputable def aeY:{g:CF→V→Option (V×aF) // ∀C a,aW C glb iD.body _ [.v a,.un,.un] (aC false .none) (aC false)=g C a}:=⟨_,by intro C a;conv=>lhs;dsimp only [iD,aW,kS,kE,cL,yR,jW,aH,aI,List.map,aC,List.set,List.length,iV,iW,bL,aZ,aL,aM,bZ,cA,aK,aP,aR,bQ,aB]⟩
noncomputable def aeZ:{g:CF→V→V→Option (V×aF) // ∀C a b,aW C glb cZ.body _ [.v a,.v b,.un,.un,.un,.un] (aC false .none) (aC false)=g C a b}:=⟨_,by intro C a b;conv=>lhs;dsimp only [cZ,aW,kS,kE,cL,jW,aH,aI,List.map,aC,List.set,List.length,iV,iW,bL,aZ,aL,aM,bZ,cA,aK,aP,aR,bQ,kU,aB,lY,NG]⟩
noncomputable def ae0:{g:CF→V→V→Option (V×aF) // ∀C a b,aW C glb eV.body _ [.v a,.v b,.un,.un,.un] (aC false .none) (aC false)=g C a b}:=⟨_,by intro C a b;conv=>lhs;dsimp only [eV,aW,kS,kE,cL,dR,jW,aH,aI,List.map,aC,List.set,List.length,iV,iW,bL,aZ,aL,aM,bZ,cA,aK,aP,aR,bQ,aB,lY,NG]⟩
noncomputable def ae1:{g:CF→V→V→Option (V×aF) // ∀C a b,aW C glb cD.body _ [.v a,.v b,.un] (aC false .none) (aC false)=g C a b}:=⟨_,by intro C a b;conv=>lhs;dsimp only [cD,aW,kS,kE,cL,dR,aH,aI,List.map,aC,List.set,List.length,aL,aM,bZ,cA,aK,aP,aR,bQ,kU,aB,iB,lY,NG]⟩
noncomputable def ae2:{g:CF→V→Option (V×aF) // ∀C a,aW C glb eW.body _ [.v a,.un,.un,.un,.un] (aC false .none) (aC false)=g C a}:=⟨_,by intro C a;conv=>lhs;dsimp only [eW,aW,kS,kE,cL,uW,aH,aI,List.map,aC,List.set,List.length,iW,aZ,bM,bV,aL,aM,bZ,cA,aK,aP,aR,bQ,aB,iB]⟩
noncomputable def ae3:{g:CF→V→V→Option (V×aF) // ∀C a b,aW C glb sQ.body _ [.v a,.v b] (aC false .none) (aC false)=g C a b}:=⟨_,by intro C a b;conv=>lhs;dsimp only [sQ,aW,kS,kE,cL,aH,aI,List.map,aC,List.set,List.length,aK,aP,aR,dQ,kU,aB,iB]⟩
noncomputable def aaV:{g:CF→V→V→Option (V×aF) // ∀C a b,aW C glb oF.body _ [.v a,.v b] (aC false .none) (aC false)=g C a b}:=⟨_,by intro C a b;conv=>lhs;dsimp only [oF,aW,kS,kE,cL,dR,jW,aH,aI,List.map,aC,List.set,List.length,iV,iW,jH,bL,aZ,bM,bV,aL,aM,bZ,cA,aK,aP,aR,uF,uG,kU,EL,aB]⟩
noncomputable def ae4:{g:CF→V→V→V→Option (V×aF) // ∀C a b c,aW C glb lL.body _ [.v a,.v b,.v c,.un,.un] (aC false .none) (aC false)=g C a b c}:=⟨_,by intro C a b c;conv=>lhs;dsimp only [lL,aW,kS,kE,cL,dR,jW,aH,aI,List.map,aC,List.set,List.length,iV,iW,bL,aZ,aL,aM,bZ,cA,aK,aP,aR,dQ,bQ,aB,iB]⟩
noncomputable def ae5:{g:CF→V→V→Option (V×aF) // ∀C a b,aW C glb oG.body _ [.v a,.v b] (aC false .none) (aC false)=g C a b}:=⟨_,by intro C a b;conv=>lhs;dsimp only [oG,aW,kS,kE,cL,dR,jW,aH,aI,List.map,aC,List.set,List.length,iV,iW,jH,bL,aZ,bM,bV,aL,aM,bZ,cA,aK,aP,aR,uF,uG,kU,EL,aB]⟩
noncomputable def ae6:{g:CF→V→Option (V×aF) // ∀C a,aW C glb gB.body _ [.v a,.un,.un,.un,.un] (aC false .none) (aC false)=g C a}:=⟨_,by intro C a;conv=>lhs;dsimp only [gB,aW,kS,kE,cL,dR,jW,aH,aI,List.map,aC,List.set,List.length,iV,iW,bL,aZ,bM,bV,aL,aM,bZ,cA,aK,aP,aR,uF,uG,dQ,bQ,kU,aB,iB,lY]⟩
noncomputable def ae7:{g:CF→V→V→Option (V×aF) // ∀C a b,aW C glb eE.body _ [.v a,.v b] (aC false .none) (aC false)=g C a b}:=⟨_,by intro C a b;conv=>lhs;dsimp only [eE,aW,kS,kE,cL,dR,aH,aI,List.map,aC,List.set,List.length,aL,aM,bZ,cA,aK,aP,aR,bQ,kU,aB]⟩
noncomputable def ae8:{g:CF→V→Option (V×aF) // ∀C a,aW C glb oH.body _ [.v a,.un,.un,.un,.un] (aC false .none) (aC false)=g C a}:=⟨_,by intro C a;conv=>lhs;dsimp only [oH,aW,kS,kE,cL,jW,aH,aI,List.map,aC,List.set,List.length,iV,iW,bL,aZ,bM,bV,aL,aM,bZ,cA,aK,aP,aR,uF,uG,dQ,bQ,kU,aB,iB,lY]⟩
noncomputable def ae9:{g:CF→V→Option (V×aF) // ∀C a,aW C glb gC.body _ [.v a,.un,.un,.un,.un,.un,.un,.un] (aC false .none) (aC false)=g C a}:=⟨_,by intro C a;conv=>lhs;dsimp only [gC,aW,kS,kE,cL,jW,uW,aH,aI,List.map,aC,List.set,List.length,iV,iW,bL,aZ,bM,bV,aL,aM,bZ,cA,aK,aP,aR,uF,uG,dQ,bQ,kU,aB,iB,lY]⟩
noncomputable def afA:{g:CF→V→Option (V×aF) // ∀C a,aW C glb oJ.body _ [.v a] (aC false .none) (aC false)=g C a}:=⟨_,by intro C a;conv=>lhs;dsimp only [oJ,aW,kS,kE,cL,aH,aI,List.map,aC,List.set,List.length,aK,aP,aR,aB]⟩
noncomputable def afB:{g:CF→V→V→Option (V×aF) // ∀C a b,aW C glb dA.body _ [.v a,.v b,.un,.un,.un] (aC false .none) (aC false)=g C a b}:=⟨_,by intro C a b;conv=>lhs;dsimp only [dA,aW,kS,kE,cL,uW,aH,aI,List.map,aC,List.set,List.length,iV,iW,aZ,bM,bV,aL,aM,bZ,cA,aK,aP,aR,dQ,bQ,kU,aB,lY]⟩
noncomputable def afC:{g:CF→V→V→Option (V×aF) // ∀C a b,aW C glb jJ.body _ [.v a,.v b] (aC false .none) (aC false)=g C a b}:=⟨_,by intro C a b;conv=>lhs;dsimp only [jJ,aW,kS,kE,cL,aH,aI,List.map,aC,List.set,List.length,aK,aP,aR,dQ,aB,iB]⟩
noncomputable def aaW:{g:CF→V→V→Option (V×aF) // ∀C a b,aW C glb jK.body _ [.v a,.v b] (aC false .none) (aC false)=g C a b}:=⟨_,by intro C a b;conv=>lhs;dsimp only [jK,aW,kS,kE,cL,aH,aI,List.map,aC,List.set,List.length,aK,aP,aR,dQ,aB,iB]⟩
noncomputable def aaX:{g:CF→V→V→Option (V×aF) // ∀C a b,aW C glb mK.body _ [.v a,.v b,.un] (aC false .none) (aC false)=g C a b}:=⟨_,by intro C a b;conv=>lhs;dsimp only [mK,aW,kS,kE,cL,aH,aI,List.map,aC,List.set,List.length,aK,aP,aR,EL,aB]⟩
noncomputable def afD:{g:CF→V→V→Option (V×aF) // ∀C a b,aW C glb oK.body _ [.v a,.v b] (aC false .none) (aC false)=g C a b}:=⟨_,by intro C a b;conv=>lhs;dsimp only [oK,aW,kS,kE,cL,aH,aI,List.map,aC,List.set,List.length,aK,aP,aR,dQ,aB]⟩
noncomputable def aaY:{g:CF→V→Option (V×aF) // ∀C a,aW C glb iX.body _ [.v a,.un,.un] (aC false .none) (aC false)=g C a}:=⟨_,by intro C a;conv=>lhs;dsimp only [iX,aW,kS,kE,cL,dR,uW,aH,aI,List.map,aC,List.set,List.length,iV,iW,aZ,bM,bV,aL,aM,bZ,cA,aK,aP,aR,dQ,bQ,kU,aB,iB]⟩
noncomputable def afE:{g:CF→V→Option (V×aF) // ∀C a,aW C glb gD.body _ [.v a,.un,.un] (aC false .none) (aC false)=g C a}:=⟨_,by intro C a;conv=>lhs;dsimp only [gD,aW,kS,kE,cL,aH,aI,List.map,aC,List.set,List.length,iW,aZ,aL,aM,bZ,cA,aK,aP,aR,dQ,bQ,kU,aB]⟩
noncomputable def afF:{g:CF→V→V→Option (V×aF) // ∀C a b,aW C glb jL.body _ [.v a,.v b,.un,.un] (aC false .none) (aC false)=g C a b}:=⟨_,by intro C a b;conv=>lhs;dsimp only [jL,aW,kS,kE,cL,aH,aI,List.map,aC,List.set,List.length,iW,aZ,aL,aM,bZ,cA,aK,aP,aR,dQ,bQ,kU,aB,iB,lY]⟩
noncomputable def aaZ:{g:CF→V→V→Option (V×aF) // ∀C a b,aW C glb oM.body _ [.v a,.v b,.un,.un] (aC false .none) (aC false)=g C a b}:=⟨_,by intro C a b;conv=>lhs;dsimp only [oM,aW,kS,kE,cL,dR,aH,aI,List.map,aC,List.set,List.length,iW,aZ,aL,aM,bZ,cA,aK,aP,aR,dQ,bQ,kU,aB,iB]⟩
noncomputable def afG:{g:CF→V→Option (V×aF) // ∀C a,aW C glb eX.body _ [.v a,.un,.un] (aC false .none) (aC false)=g C a}:=⟨_,by intro C a;conv=>lhs;dsimp only [eX,aW,kS,kE,cL,dR,aH,aI,List.map,aC,List.set,List.length,iW,aZ,aL,aM,bZ,cA,aK,aP,aR,dQ,bQ,kU,EL,aB,iB]⟩
noncomputable def afH:{g:CF→V→V→Option (V×aF) // ∀C a b,aW C glb iE.body _ [.v a,.v b,.un] (aC false .none) (aC false)=g C a b}:=⟨_,by intro C a b;conv=>lhs;dsimp only [iE,aW,kS,kE,cL,aH,aI,List.map,aC,List.set,List.length,aL,aM,bZ,cA,aK,aP,aR,bQ,aB]⟩
noncomputable def afI:{g:CF→V→V→V→V→Option (V×aF) // ∀C a b c d,aW C glb gE.body _ [.v a,.v b,.v c,.v d,.un] (aC false .none) (aC false)=g C a b c d}:=⟨_,by intro C a b c d;conv=>lhs;dsimp only [gE,aW,kS,kE,cL,aH,aI,List.map,aC,List.set,List.length,aL,aM,bZ,cA,aK,aP,aR,bQ,aB]⟩
noncomputable def aa0:{g:CF→V→V→V→Option (V×aF) // ∀C a b c,aW C glb gR.body _ [.v a,.v b,.v c,.un,.un,.un] (aC false .none) (aC false)=g C a b c}:=⟨_,by intro C a b c;conv=>lhs;dsimp only [gR,aW,kS,kE,cL,dR,jW,aH,aI,List.map,aC,List.set,List.length,iV,iW,bL,aZ,aL,aM,bZ,cA,aK,aP,aR,dQ,bQ,kU,List.contains,List.elem,aB,iB,lY]⟩
noncomputable def aa1:{g:CF→V→V→V→Option (V×aF) // ∀C a b c,aW C glb dJ.body _ [.v a,.v b,.v c,.un,.un,.un] (aC false .none) (aC false)=g C a b c}:=⟨_,by intro C a b c;conv=>lhs;dsimp only [dJ,aW,kS,kE,cL,aH,aI,List.map,aC,List.set,List.length,iV,aL,aM,bZ,cA,aK,aP,aR,dQ,bQ,kU,EL,aB,aaU]⟩
noncomputable def aa2:{g:CF→V→V→V→V→Option (V×aF) // ∀C a b c d,aW C glb eB.body _ [.v a,.v b,.v c,.v d,.un] (aC false .none) (aC false)=g C a b c d}:=⟨_,by intro C a b c d;conv=>lhs;dsimp only [eB,aW,kS,kE,cL,aH,aI,List.map,aC,List.set,List.length,aL,aM,bZ,cA,aK,aP,aR,aB,lY]⟩
noncomputable def aa3:{g:CF→V→V→Option (V×aF) // ∀C a b,aW C glb dK.body _ [.v a,.v b,.un,.un,.un,.un] (aC false .none) (aC false)=g C a b}:=⟨_,by intro C a b;conv=>lhs;dsimp only [dK,aW,kS,kE,cL,dR,yR,aH,aI,List.map,aC,List.set,List.length,iW,aZ,aL,aM,bZ,cA,aK,aP,aR,dQ,bQ,kU,aB,iB,YI,NI]⟩
noncomputable def aa4:{g:CF→V→V→V→V→Option (V×aF) // ∀C a b c d,aW C glb eG.body _ [.v a,.v b,.v c,.v d] (aC false .none) (aC false)=g C a b c d}:=⟨_,by intro C a b c d;conv=>lhs;dsimp only [eG,aW,kS,kE,cL,aH,aI,List.map,aC,List.set,List.length,aK,aP,aR,aB,lY,NJ]⟩
noncomputable def afJ:{g:CF→V→V→Option (V×aF) // ∀C a b,aW C glb gI.body _ [.v a,.v b] (aC false .none) (aC false)=g C a b}:=⟨_,by intro C a b;conv=>lhs;dsimp only [gI,aW,kS,kE,cL,dR,jW,aH,aI,List.map,aC,List.set,List.length,iV,iW,jH,bL,aZ,bM,bV,aL,aM,bZ,cA,aK,aP,aR,uF,uG,bQ,kU,List.contains,List.elem,aB]⟩
noncomputable def afK:{g:CF→V→V→V→Option (V×aF) // ∀C a b c,aW C glb eY.body _ [.v a,.v b,.v c,.un,.un] (aC false .none) (aC false)=g C a b c}:=⟨_,by intro C a b c;conv=>lhs;dsimp only [eY,aW,kS,kE,cL,aH,aI,List.map,aC,List.set,List.length,aL,aM,bZ,cA,aK,aP,aR,aB,lY,NJ]⟩
noncomputable def US:{g:CF→V→V→V→V→Option (V×aF) // ∀C a b c d,aW C glb kA.body _ [.v a,.v b,.v c,.v d] (aC false .none) (aC false)=g C a b c d}:=⟨_,by intro C a b c d;conv=>lhs;dsimp only [kA,aW,kS,kE,cL,yR,aH,aI,List.map,aC,List.set,List.length,aL,aM,bZ,cA,aK,aP,aR,bQ,aB,YI,NI]⟩
noncomputable def aa5:{g:CF→V→V→Option (V×aF) // ∀C a b,aW C glb lM.body _ [.v a,.v b,.un] (aC false .none) (aC false)=g C a b}:=⟨_,by intro C a b;conv=>lhs;dsimp only [lM,aW,kS,kE,cL,aH,aI,List.map,aC,List.set,List.length,aK,aP,aR,aB]⟩
noncomputable def afL:{g:CF→V→Option (V×aF) // ∀C a,aW C glb lN.body _ [.v a] (aC false .none) (aC false)=g C a}:=⟨_,by intro C a;conv=>lhs;dsimp only [lN,aW,kS,kE,cL,aH,aI,List.map,aC,List.set,List.length,aK,aP,aR,aB]⟩
noncomputable def afM:{g:CF→V→Option (V×aF) // ∀C a,aW C glb lO.body _ [.v a] (aC false .none) (aC false)=g C a}:=⟨_,by intro C a;conv=>lhs;dsimp only [lO,aW,kS,kE,cL,aH,aI,List.map,aC,List.set,List.length,aL,aM,bZ,cA,aK,aP,aR,bQ,kU,aB,aeQ]⟩
noncomputable def afN:{g:CF→V→Option (V×aF) // ∀C a,aW C glb jM.body _ [.v a] (aC false .none) (aC false)=g C a}:=⟨_,by intro C a;conv=>lhs;dsimp only [jM,aW,kS,kE,cL,aH,aI,List.map,aC,List.set,List.length,aL,aM,bZ,cA,aK,aP,aR,bQ,kU,aB,YF]⟩
noncomputable def afO:{g:CF→V→V→Option (V×aF) // ∀C a b,aW C glb lP.body _ [.v a,.v b] (aC false .none) (aC false)=g C a b}:=⟨_,by intro C a b;conv=>lhs;dsimp only [lP,aW,kS,kE,cL,aH,aI,List.map,aC,List.set,List.length,aK,aP,aR,aB]⟩
noncomputable def afP:{g:CF→V→Option (V×aF) // ∀C a,aW C glb iF.body _ [.v a] (aC false .none) (aC false)=g C a}:=⟨_,by intro C a;conv=>lhs;dsimp only [iF,aW,kS,kE,cL,aH,aI,List.map,aC,List.set,List.length,aK,aP,aR,aB,YG]⟩
noncomputable def afQ:{g:CF→V→Option (V×aF) // ∀C a,aW C glb jN.body _ [.v a] (aC false .none) (aC false)=g C a}:=⟨_,by intro C a;conv=>lhs;dsimp only [jN,aW,kS,kE,cL,aH,aI,List.map,aC,List.set,List.length,aK,aP,aR,bQ,aB]⟩
noncomputable def afR:{g:CF→V→Option (V×aF) // ∀C a,aW C glb jO.body _ [.v a] (aC false .none) (aC false)=g C a}:=⟨_,by intro C a;conv=>lhs;dsimp only [jO,aW,kS,kE,cL,aH,aI,List.map,aC,List.set,List.length,aK,aP,aR,aB]⟩
noncomputable def afS:{g:CF→V→Option (V×aF) // ∀C a,aW C glb dB.body _ [.v a] (aC false .none) (aC false)=g C a}:=⟨_,by intro C a;conv=>lhs;dsimp only [dB,aW,kS,kE,cL,dR,aH,aI,List.map,aC,List.set,List.length,aL,aM,bZ,cA,aK,aP,aR,bQ,aB]⟩
noncomputable def afT:{g:CF→V→V→Option (V×aF) // ∀C a b,aW C glb dC.body _ [.v a,.v b] (aC false .none) (aC false)=g C a b}:=⟨_,by intro C a b;conv=>lhs;dsimp only [dC,aW,kS,kE,cL,aH,aI,List.map,aC,List.set,List.length,aL,aM,bZ,cA,aK,aP,aR,bQ,aB]⟩
noncomputable def afU:{g:CF→V→V→Option (V×aF) // ∀C a b,aW C glb cJ.body _ [.v a,.v b] (aC false .none) (aC false)=g C a b}:=⟨_,by intro C a b;conv=>lhs;dsimp only [cJ,aW,kS,kE,cL,aH,aI,List.map,aC,List.set,List.length,aK,aP,aR,dQ,aB]⟩
noncomputable def afV:{g:CF→V→Option (V×aF) // ∀C a,aW C glb dD.body _ [.v a] (aC false .none) (aC false)=g C a}:=⟨_,by intro C a;conv=>lhs;dsimp only [dD,aW,kS,kE,cL,dR,jW,aH,aI,List.map,aC,List.set,List.length,iV,iW,jH,bL,aZ,bM,bV,aL,aM,bZ,cA,aK,aP,aR,uF,uG,bQ,aB]⟩
noncomputable def afW:{g:CF→V→Option (V×aF) // ∀C a,aW C glb dS.body _ [.v a] (aC false .none) (aC false)=g C a}:=⟨_,by intro C a;conv=>lhs;dsimp only [dS,aW,kS,kE,cL,dR,aH,aI,List.map,aC,List.set,List.length,aL,aM,bZ,cA,aK,aP,aR,bQ,aB]⟩
noncomputable def afX:{g:CF→V→Option (V×aF) // ∀C a,aW C glb bR.body _ [.v a] (aC false .none) (aC false)=g C a}:=⟨_,by intro C a;conv=>lhs;dsimp only [bR,aW,kS,kE,cL,aH,aI,List.map,aC,List.set,List.length,aL,aM,bZ,cA,aK,aP,aR,bQ,aB,YF]⟩
noncomputable def afY:{g:CF→V→V→Option (V×aF) // ∀C a b,aW C glb dE.body _ [.v a,.v b,.un,.un] (aC false .none) (aC false)=g C a b}:=⟨_,by intro C a b;conv=>lhs;dsimp only [dE,aW,kS,kE,cL,jW,aH,aI,List.map,aC,List.set,List.length,iV,iW,bL,aZ,aL,aM,bZ,cA,aK,aP,aR,bQ,kU,EL,aB]⟩
noncomputable def afZ:{g:CF→V→V→Option (V×aF) // ∀C a b,aW C glb bS.body _ [.v a,.v b] (aC false .none) (aC false)=g C a b}:=⟨_,by intro C a b;conv=>lhs;dsimp only [bS,aW,kS,kE,cL,dR,aH,aI,List.map,aC,List.set,List.length,aL,aM,bZ,cA,aK,aP,aR,bQ,aB]⟩
noncomputable def af0:{g:CF→V→V→Option (V×aF) // ∀C a b,aW C glb cP.body _ [.v a,.v b,.un,.un] (aC false .none) (aC false)=g C a b}:=⟨_,by intro C a b;conv=>lhs;dsimp only [cP,aW,kS,kE,cL,aH,aI,List.map,aC,List.set,List.length,aL,aM,bZ,cA,aK,aP,aR,bQ,List.contains,List.elem,aB]⟩
noncomputable def af1:{g:CF→V→V→Option (V×aF) // ∀C a b,aW C glb cE.body _ [.v a,.v b,.un,.un,.un,.un,.un] (aC false .none) (aC false)=g C a b}:=⟨_,by intro C a b;conv=>lhs;dsimp only [cE,aW,kS,kE,cL,aH,aI,List.map,aC,List.set,List.length,iW,aZ,aL,aM,bZ,cA,aK,aP,aR,bQ,aB]⟩
noncomputable def af2:{g:CF→V→V→Option (V×aF) // ∀C a b,aW C glb cQ.body _ [.v a,.v b,.un,.un,.un,.un] (aC false .none) (aC false)=g C a b}:=⟨_,by intro C a b;conv=>lhs;dsimp only [cQ,aW,kS,kE,cL,dR,jW,uW,aH,aI,List.map,aC,List.set,List.length,iV,iW,bL,aZ,bM,bV,aL,aM,bZ,cA,aK,aP,aR,bQ,kU,EL,aB]⟩
noncomputable def af3:{g:CF→V→V→Option (V×aF) // ∀C a b,aW C glb dF.body _ [.v a,.v b,.un,.un,.un,.un] (aC false .none) (aC false)=g C a b}:=⟨_,by intro C a b;conv=>lhs;dsimp only [dF,aW,kS,kE,cL,dR,yR,uW,aH,aI,List.map,aC,List.set,List.length,iV,iW,aZ,bM,bV,aL,aM,bZ,cA,aK,aP,aR,uF,uG,bQ,kU,aB]⟩
noncomputable def af4:{g:CF→V→Option (V×aF) // ∀C a,aW C glb eH.body _ [.v a,.un] (aC false .none) (aC false)=g C a}:=⟨_,by intro C a;conv=>lhs;dsimp only [eH,aW,kS,kE,cL,aH,aI,List.map,aC,List.set,List.length,aL,aM,bZ,cA,aK,aP,aR,dQ,bQ,kU,aB]⟩
noncomputable def af5:{g:CF→V→Option (V×aF) // ∀C a,aW C glb dT.body _ [.v a] (aC false .none) (aC false)=g C a}:=⟨_,by intro C a;conv=>lhs;dsimp only [dT,aW,kS,kE,cL,aH,aI,List.map,aC,List.set,List.length,aK,aP,aR,aB]⟩
noncomputable def aa6:{g:CF→V→Option (V×aF) // ∀C a,aW C glb cF.body _ [.v a,.un] (aC false .none) (aC false)=g C a}:=⟨_,by intro C a;conv=>lhs;dsimp only [cF,aW,kS,kE,cL,yR,aH,aI,List.map,aC,List.set,List.length,aL,aM,bZ,cA,aK,aP,aR,bQ,kU,aB,zQ]⟩
noncomputable def aa7:{g:CF→V→V→Option (V×aF) // ∀C a b,aW C glb dU.body _ [.v a,.v b] (aC false .none) (aC false)=g C a b}:=⟨_,by intro C a b;conv=>lhs;dsimp only [dU,aW,kS,kE,cL,yR,aH,aI,List.map,aC,List.set,List.length,aL,aM,bZ,cA,aK,aP,aR,dQ,bQ,aB,zQ]⟩
noncomputable def aa8:{g:CF→V→V→Option (V×aF) // ∀C a b,aW C glb cU.body _ [.v a,.v b,.un,.un] (aC false .none) (aC false)=g C a b}:=⟨_,by intro C a b;conv=>lhs;dsimp only [cU,aW,kS,kE,cL,jW,aH,aI,List.map,aC,List.set,List.length,iV,iW,bL,aZ,bM,bV,aL,aM,bZ,cA,aK,aP,aR,uF,uG,bQ,kU,aB]⟩
noncomputable def aa9:{g:CF→V→Option (V×aF) // ∀C a,aW C glb cK.body _ [.v a,.un,.un,.un,.un,.un,.un] (aC false .none) (aC false)=g C a}:=⟨_,by intro C a;conv=>lhs;dsimp only [cK,aW,kS,kE,cL,dR,jW,aH,aI,List.map,aC,List.set,List.length,iV,iW,jH,bL,aZ,bM,bV,aL,aM,bZ,cA,aK,aP,aR,uF,uG,dQ,bQ,kU,aB,NH,zQ]⟩
noncomputable def af6:{g:CF→V→Option (V×aF) // ∀C a,aW C glb gJ.body _ [.v a] (aC false .none) (aC false)=g C a}:=⟨_,by intro C a;conv=>lhs;dsimp only [gJ,aW,kS,kE,cL,dR,aH,aI,List.map,aC,List.set,List.length,aL,aM,bZ,cA,aK,aP,aR,bQ,aB,zQ,YH]⟩
noncomputable def UT:{g:CF→V→Option (V×aF) // ∀C a,aW C glb bI.body _ [.v a,.un,.un,.un,.un,.un,.un,.un,.un] (aC false .none) (aC false)=g C a}:=⟨_,by intro C a;conv=>lhs;dsimp only [bI,aW,kS,kE,cL,dR,yR,jW,uW,aH,aI,List.map,aC,List.set,List.length,iV,iW,bL,aZ,bM,bV,aL,aM,bZ,cA,aK,aP,aR,uF,uG,dQ,bQ,kU,aB,NH]⟩
noncomputable def af7:{g:CF→V→V→Option (V×aF) // ∀C a b,aW C glb gK.body _ [.v a,.v b] (aC false .none) (aC false)=g C a b}:=⟨_,by intro C a b;conv=>lhs;dsimp only [gK,aW,kS,kE,cL,dR,yR,jW,aH,aI,List.map,aC,List.set,List.length,iV,iW,jH,bL,aZ,bM,bV,aL,aM,bZ,cA,aK,aP,aR,uF,uG,bQ,List.contains,List.elem,aB,NH,zQ,YH]⟩
noncomputable def NN:{g:CF→V→Option (V×aF) // ∀C a,aW C glb cR.body _ [.v a,.un,.un] (aC false .none) (aC false)=g C a}:=⟨_,by intro C a;conv=>lhs;dsimp only [cR,aW,kS,kE,cL,dR,jW,aH,aI,List.map,aC,List.set,List.length,iV,iW,jH,bL,aZ,bM,bV,aL,aM,bZ,cA,aK,aP,aR,uF,uG,bQ,kU,aB]⟩
noncomputable def af8:{g:CF→V→Option (V×aF) // ∀C a,aW C glb bK.body _ [.v a] (aC false .none) (aC false)=g C a}:=⟨_,by intro C a;conv=>lhs;dsimp only [bK,aW,kS,kE,cL,yR,aH,aI,List.map,aC,List.set,List.length,aL,aM,bZ,cA,aK,aP,aR,bQ,aB,YG,NK,NL]⟩
noncomputable def IR:{g:CF→V→V→V→V→Option (V×aF) // ∀C a b c d,aW C glb bX.body _ [.v a,.v b,.v c,.v d,.un] (aC false .none) (aC false)=g C a b c d}:=⟨_,by intro C a b c d;conv=>lhs;dsimp only [bX,aW,kS,kE,cL,aH,aI,List.map,aC,List.set,List.length,aL,aM,bZ,cA,aK,aP,aR,bQ,aB,NK,NL]⟩
noncomputable def abA:{g:CF→V→V→V→V→Option (V×aF) // ∀C a b c d,aW C glb bJ.body _ [.v a,.v b,.v c,.v d,.un,.un,.un,.un] (aC false .none) (aC false)=g C a b c d}:=⟨_,by intro C a b c d;conv=>lhs;dsimp only [bJ,aW,kS,kE,cL,yR,jW,aH,aI,List.map,aC,List.set,List.length,iV,iW,bL,aZ,bM,bV,aL,aM,bZ,cA,aK,aP,aR,uF,uG,dQ,bQ,aB]⟩
noncomputable def UU:{g:CF→V→V→Option (V×aF) // ∀C a b,aW C glb eZ.body _ [.v a,.v b,.un,.un] (aC false .none) (aC false)=g C a b}:=⟨_,by intro C a b;conv=>lhs;dsimp only [eZ,aW,kS,kE,cL,uW,aH,aI,List.map,aC,List.set,List.length,iV,iW,aZ,bM,bV,aL,aM,bZ,cA,aK,aP,aR,dQ,bQ,kU,aB]⟩
noncomputable def abB:{g:CF→V→V→Option (V×aF) // ∀C a b,aW C glb gN.body _ [.v a,.v b] (aC false .none) (aC false)=g C a b}:=⟨_,by intro C a b;conv=>lhs;dsimp only [gN,aW,kS,kE,cL,aH,aI,List.map,aC,List.set,List.length,aK,aP,aR,dQ,aB]⟩
noncomputable def abC:{g:CF→V→V→Option (V×aF) // ∀C a b,aW C glb eI.body _ [.v a,.v b] (aC false .none) (aC false)=g C a b}:=⟨_,by intro C a b;conv=>lhs;dsimp only [eI,aW,kS,kE,cL,aH,aI,List.map,aC,List.set,List.length,aL,aM,bZ,cA,aK,aP,aR,dQ,bQ,aB]⟩
noncomputable def UV:{g:CF→V→Option (V×aF) // ∀C a,aW C glb gO.body _ [.v a] (aC false .none) (aC false)=g C a}:=⟨_,by intro C a;conv=>lhs;dsimp only [gO,aW,kS,kE,cL,dR,jW,aH,aI,List.map,aC,List.set,List.length,iV,iW,jH,bL,aZ,bM,bV,aL,aM,bZ,cA,aK,aP,aR,uF,uG,kU,aB,NM]⟩
noncomputable def CS:{g:CF→V→V→Option (V×aF) // ∀C a b,aW C glb dL.body _ [.v a,.v b,.un,.un,.un] (aC false .none) (aC false)=g C a b}:=⟨_,by intro C a b;conv=>lhs;dsimp only [dL,aW,kS,kE,cL,jW,aH,aI,List.map,aC,List.set,List.length,iV,iW,bL,aZ,aL,aM,bZ,cA,aK,aP,aR,dQ,bQ,aB]⟩
noncomputable def af9:{g:CF→V→V→Option (V×aF) // ∀C a b,aW C glb eJ.body _ [.v a,.v b,.un,.un,.un] (aC false .none) (aC false)=g C a b}:=⟨_,by intro C a b;conv=>lhs;dsimp only [eJ,aW,kS,kE,cL,jW,uW,aH,aI,List.map,aC,List.set,List.length,iV,iW,bL,aZ,bM,bV,aK,aP,aR,dQ,aB]⟩
theorem ml {α β:Type}{f g:α→β}{l:List α}(h:l.map f=l.map g)(a:α)(ha:a∈l):f a=g a:=List.map_inj_left.mp h a ha
theorem fc {α:Type}{P:α→Prop}{x:α}{l:List α}(a:P x)(b:∀p∈l,P p):∀p∈x::l,P p:=List.forall_mem_cons.mpr ⟨a,b⟩
theorem fn {α:Type}{P:α→Prop}:∀p∈([]:List α),P p:=fun _ h=>(List.not_mem_nil h).elim
theorem mc {α β:Type}{f g:α→β}{l:List α}(h:∀a∈l,f a=g a):l.map f=l.map g:=List.map_congr_left h
theorem jC {β:Type}{n:Nat}{σ:Fm}{k:Fm→Option β}(h:σ.length=n):iV n σ k=k σ:=by
 subst h;induction σ generalizing k with
 |nil=>rfl
 |cons x l ih=>exact ih (k:=fun l=>k (x::l))
theorem bB {α β:Type}{o:Option α}{f:α→Option β}{x:α}{z:Option β}(h:o=some x)(k:f x=z):o.bind f=z:=by refine (Eq.symm h)▸?_;exact k
theorem zR {β α σ:Type}{step:V→Fm→(Fm→Option β)→Option β}{val:α→V}{enc:Nat→σ→Fm→Prop}{T:σ→α→σ}:∀{L:List α} {s:σ} {ρ:Fm},
  (∀p∈L,∀n s ρ,enc (n+1) s ρ→∃ρ',enc n (T s p) ρ'∧∀again,step (val p) ρ again=again ρ')→enc L.length s ρ→∃ρ',enc 0 (L.foldl T s) ρ'∧∀next,ZR step next (L.map val) ρ=next ρ'
 |[],s,ρ,_,h=>⟨ρ,h,fun _=>rfl⟩
 |p::L,s,ρ,hs,h=>
  aD (hs p (.head _) L.length s ρ h) fun _ h1 e1=>
  aD (zR (L:=L) (fun q hq=>hs q (.tail _ hq)) h1) fun ρ2 h2 e2=>
  ⟨ρ2,h2,fun next=>(e1 _).trans (e2 next)⟩
noncomputable def dP:List S→Nat→S
 |[],_=>.bad
 |s::r,n=>match n with
  |0=>s
  |n+1=>dP r n
noncomputable def thn:S→List S
 |.ite _ a _=>a
 |_=>[]
noncomputable def rN (s:S):List S:=match s with
 |.for _ _ b=>b
 |_=>[]
section
variable {C:CF}{β:Type}{ρ ρ1 ρ2 ρ3:Fm}{x y z v:V}{a b e:E}{es r:List E}{l:List V}{κ:Fm→Option β}{q:V→Fm→Option β}
def Ev (C:CF)(β:Type)(e:E)(ρ:Fm)(v:V)(ρ':Fm):Prop:=∀k:V→Fm→Option β,kE C glb e β ρ k=k v ρ'
def YJ (C:CF)(β:Type)(es:List E)(ρ:Fm)(l:List V)(ρ':Fm):Prop:=∀k:List V→Fm→Option β,cL C glb es β ρ k=k l ρ'
def Es (C:CF)(β:Type)(q:V→Fm→Option β)(s:S)(ρ ρ':Fm):Prop:=∀κ:Fm→Option β,kS C glb s β ρ κ q=κ ρ'
def qQ (C:CF)(β:Type)(q:V→Fm→Option β)(s:List S)(ρ ρ':Fm):Prop:=∀κ:Fm→Option β,aW C glb s β ρ κ q=κ ρ'
theorem tJ (h:Ev C β e ρ x ρ1)(g:YJ C β r ρ1 l ρ2):YJ C β (e::r) ρ (x::l) ρ2:=fun _=>(h _).trans (g _)
theorem fS (h:Ev C β e ρ x ρ1):YJ C β [e] ρ [x] ρ1:=fun _=>h _
theorem cB (h:Ev C β a ρ x ρ1)(g:Ev C β b ρ1 y ρ2):YJ C β [a,b] ρ [x,y] ρ2:=tJ h (fS g)
theorem hK (g:YJ C β es ρ l ρ1):Ev C β (.tup es) ρ (.tup l) ρ1:=fun _=>g _
theorem tK (g:YJ C β es ρ l ρ1):Ev C β (.lst es) ρ (.lst l) ρ1:=fun _=>g _
theorem aU {f:Nat}{sl:aF}(g:YJ C β es ρ l ρ1)(h:C f (l.map .v)=some (v,sl)):Ev C β (.call f es) ρ v ρ1:=fun _=>(g _).trans (bB h rfl)
theorem fK {o:BO}(h:Ev C β a ρ x ρ1)(g:Ev C β b ρ1 y ρ2)(w:∀k:V→Option β,dQ o x y k=k z):Ev C β (.bin o a b) ρ z ρ2:=fun _=>(h _).trans ((g _).trans (w _))
theorem bU {o:CO}(h:Ev C β a ρ x ρ1)(g:Ev C β b ρ1 y ρ2)(w:∀k:V→Option β,bQ o x y k=k z):Ev C β (.cmp o a b) ρ z ρ2:=fun _=>(h _).trans ((g _).trans (w _))
theorem qR (h:Ev C β a ρ x ρ1)(g:Ev C β b ρ1 y ρ2)(w:∀k:V→Option β,sP x y k=k z):Ev C β (.sub a b) ρ z ρ2:=fun _=>(h _).trans ((g _).trans (w _))
theorem CT {n:Nat}(h:Ev C β a ρ x ρ1)(w:∀k:V→Option β,yX x n k=k z):Ev C β (.subN a n) ρ z ρ1:=fun _=>(h _).trans (w _)
theorem lZ {o:B1}(h:Ev C β a ρ x ρ1)(w:∀k:V→Option β,kU o x k=k z):Ev C β (.bi1 o a) ρ z ρ1:=fun _=>(h _).trans (w _)
theorem xI {s t:Bool}(p:aM [a,b]=true)(ha:Ev C V a ρ (.bool s) ρ)(hb:Ev C V b ρ (.bool t) ρ1):Ev C β (.or [a,b]) ρ (.bool (s||t)) ρ:=fun k=>by
 refine (?_:cond (aM [a,b]) ((kE C glb a V ρ fun x ρ₁=>fD x fun t=>cond t (some (.bool true)) (kE C glb b V ρ₁ fun v _=>some v)).bind fun v=>k v ρ) none=_)
 rw [p,ha]
 cases s with
 |true=>rfl
 |false=>exact bB (hb _) rfl
theorem FG {r:List E}(p:aM (a::b::r)=true)(ha:Ev C V a ρ (.bool true) ρ):Ev C β (.or (a::b::r)) ρ (.bool true) ρ:=fun k=>by
 refine (?_:cond (aM (a::b::r)) ((kE C glb a V ρ fun x ρ₁=>fD x fun t=>cond t (some (.bool true)) (yR C glb (b::r) V ρ₁ fun v _=>some v)).bind fun v=>k v ρ) none=_)
 rw [p,ha];rfl
theorem FH {s t:Bool}(p:aM [a,b]=true)(ha:Ev C V a ρ (.bool s) ρ)(hb:s=true→Ev C V b ρ (.bool t) ρ1):Ev C β (.and [a,b]) ρ (.bool (s && t)) ρ:=fun k=>by
 refine (?_:cond (aM [a,b]) ((kE C glb a V ρ fun x ρ₁=>fD x fun t=>cond t (kE C glb b V ρ₁ fun v _=>some v) (some (.bool false))).bind fun v=>k v ρ) none=_)
 rw [p,ha]
 cases s with
 |true=>exact bB (hb rfl _) rfl
 |false=>rfl
noncomputable def wS (C:CF)(β:Type)(q:V→Fm→Option β)(t:E)(b:List S)(n:Nat)(σ:Fm)(again stop:Fm→Option β):Option β:=iV n σ fun τ=>kE C glb t β τ fun v τ₁=>fD v fun c=>cond c (aW C glb b β τ₁ again q) (stop τ₁)
theorem agA {b:List S}{n m:Nat}(hl:ρ.length=n)(h:Ev C β a ρ (.bool true) ρ1)(g:qQ C β q b ρ1 ρ2):wM (wS C β q a b n) κ (m+1) ρ=wM (wS C β q a b n) κ m ρ2:=(jC hl).trans ((h _).trans (g _))
theorem YK {b:List S}{n m:Nat}(hl:ρ.length=n)(h:Ev C β a ρ (.bool false) ρ1):wM (wS C β q a b n) κ (m+1) ρ=κ ρ1:=(jC hl).trans (h _)
theorem abD {b:List S}{n:Nat}(hl:ρ.length=n)(h:∀κ,wM (wS C β q a b n) κ 100 ρ=κ ρ2)(hr:ρ2.length=n):Es C β q (.whl a b) ρ ρ2:=fun κ=>by
 subst hl;exact (h _).trans (jC hr)
theorem cG {n:Nat}(h:Ev C β e ρ v ρ1)(g:ρ1.set n (.v v)=ρ2):Es C β q (.asg n e) ρ ρ2:=fun κ=>(h _).trans (congrArg κ g)
theorem NO {n:Nat}{xs:List V}(h:Ev C β e ρ v ρ1)(p:aL e=true)(g:ρ.at n=.l xs)(w:xs.length≤1000)(u:ρ.set n (.l (List.append xs [v]))=ρ2):Es C β q (.app n e) ρ ρ2:=fun κ=>by
 refine (?_:cond (aL e) (kE C glb e β ρ fun v _=>match ρ.at n with
  |.l xs=>cond (Nat.ble xs.length 1000) (κ (ρ.set n (.l (List.append xs [v])))) none
  |_=>none) none=_)
 rw [p,h,g]
 exact (congrArg (cond · _ none) (Nat.ble_eq_true_of_le w)).trans (congrArg κ u)
theorem pV {t:E}{A B:List S}(h:Ev C β t ρ (.bool false) ρ1)(g:qQ C β q B ρ1 ρ2):Es C β q (.ite t A B) ρ ρ2:=fun _=>(h _).trans (g _)
theorem dH {r:List S}(h:Ev C β e ρ v ρ1):aW C glb (.ret e::r) β ρ κ q=q v ρ1:=h _
theorem xJ {t:E}{A B r:List S}{w:Option β}(h:Ev C β t ρ (.bool true) ρ1)(g:∀κ:Fm→Option β,aW C glb A β ρ1 κ q=w):aW C glb (.ite t A B::r) β ρ κ q=w:=(h _).trans (g _)
theorem gP {s:S}{r:List S}{w:Option β}(h:Es C β q s ρ ρ1)(g:aW C glb r β ρ1 κ q=w):aW C glb (s::r) β ρ κ q=w:=(h _).trans g
theorem kI:qQ C β q [] ρ ρ:=fun _=>rfl
theorem fF {s:S}{r:List S}(h:Es C β q s ρ ρ1)(g:qQ C β q r ρ1 ρ2):qQ C β q (s::r) ρ ρ2:=fun _=>(h _).trans (g _)
theorem zS {s:S}(h:Es C β q s ρ ρ1):qQ C β q [s] ρ ρ1:=fun _=>h _
theorem lH {s t:S}(h:Es C β q s ρ ρ1)(g:Es C β q t ρ1 ρ2):qQ C β q [s,t] ρ ρ2:=fF h (zS g)
theorem rY:∀{a b:List S} {β:Type} {ρ:Fm} {k:Fm→Option β} {q:V→Fm→Option β},aW C glb (a++b) β ρ k q=aW C glb a β ρ (fun ρ=>aW C glb b β ρ k q) q
 |[],_,_,_,_,_=>rfl
 |s::a,b,β,ρ,k,q=>congrArg (fun g=>kS C glb s β ρ g q) (funext fun _=>rY)
theorem pW {a b:List S}(h:qQ C β q a ρ ρ1):aW C glb (a++b) β ρ κ q=aW C glb b β ρ1 κ q:=rY.trans (h _)
theorem abE (h:Ev C β a ρ (.lst l) ρ1)(K:List V→Fm→Option β):jW C glb (.enm a) β ρ K=K (lW 0 l) ρ1:=h _
theorem CU (h:Ev C β a ρ v ρ1)(w:itV v=some l)(K:List V→Fm→Option β):jW C glb (.val a) β ρ K=K l ρ1:=(h _).trans (bB w rfl)
theorem kP {α σ:Type}{xs:List Nat}{sr:Sr}{b:List S}{val:α→V}{L:List α}{s:σ}(enc:Nat→σ→Fm→Prop)(T:σ→α→σ)(n:Nat)(hn:ρ.length=n)(hr:∀K:List V→Fm→Option β,jW C glb sr β ρ K=K (L.map val) ρ1)(hl:∀n' s τ,enc n' s τ→τ.length=n)
  (h0:enc L.length s ρ1) (hs:∀p∈L,∀n s τ,enc (n+1) s τ→∃τ1 τ2,(∀K:Fm→Option β,bL xs (val p) τ K=K τ1)∧enc n (T s p) τ2∧qQ C β q b τ1 τ2):∃τ,enc 0 (L.foldl T s) τ∧Es C β q (.for xs sr b) ρ τ:=
 let ⟨τ,h1,h2⟩:=zR (step:=fun x σ again=>iV ρ.length σ fun τ=>bL xs x τ fun τ₁=>aW C glb b β τ₁ again q) (fun p hp n' s τ he=>
  bY (hs p hp n' s τ he) fun _ τ2 h0 h1 h2=>
  ⟨τ2,h1,fun again=>(jC ((hl _ _ _ he).trans hn.symm)).trans ((h0 _).trans (h2 again))⟩) h0
 ⟨τ,h1,fun _=>(hr _).trans ((h2 _).trans (jC ((hl _ _ _ h1).trans hn.symm)))⟩
end
theorem pX {c n:Nat}(h:c+1≤n):n - (c+1)+1≤n - c:=Nat.le_of_eq (Nat.sub_add_cancel (Nat.sub_pos_of_lt h))
theorem gX {a b n:Nat}(h:a≤n):a - b≤n:=Nat.le_trans (Nat.sub_le a b) h
theorem abF {k t n:Nat}(h:k≤t∧t<k+(n - k)):t<n:=by
 have p:k≤n:=Nat.le_of_lt (Nat.lt_of_sub_pos (Nat.pos_of_lt_add_right (Nat.lt_of_le_of_lt h.1 h.2)))
 exact Nat.lt_of_lt_of_eq h.2 (Nat.add_sub_of_le p)
theorem eN {m n:Nat}(h:m≤n):Nat.ble m n=true:=Nat.ble_eq_true_of_le h
theorem NP {C:CF}{β:Type}{q:V→Fm→Option β}{e:E}{ρ ρ1 ρ2:Fm}{n:Nat}{xs ys:List V}(h:Ev C β e ρ (.lst ys) ρ1)(p:aL e=true)(g:ρ.at n=.l xs)(w:xs.length+ys.length≤1000)(u:ρ.set n (.l (List.append xs ys))=ρ2):Es C β q (.ext n e) ρ ρ2:=fun κ=>by
 refine (?_:cond (aL e) (kE C glb e β ρ fun v _=>match ρ.at n with
  |.l xs=>match v with
   |.lst ys=>cond (Nat.ble (Nat.add xs.length ys.length) 1000) (κ (ρ.set n (.l (List.append xs ys)))) none
   |_=>none
  |_=>none) none=_)
 rw [p,h,g]
 exact (congrArg (cond · _ none) (Nat.ble_eq_true_of_le w)).trans (congrArg κ u)
theorem jR {C:CF}{β:Type}{a b c:E}{ρ ρ1 ρ2:Fm}{t:Bool}{u:V}(p:(aL c && aL a && aL b)=true)(hc:Ev C β c ρ (.bool t) ρ1)(hb:Ev C V (cond t a b) ρ u ρ2):Ev C β (.ite c a b) ρ u ρ:=fun k=>by
 refine (?_:cond (aL c && aL a && aL b) (kE C glb c β ρ fun x _=>fD x fun c=>(cond c (kE C glb a V ρ fun v _=>some v) (kE C glb b V ρ fun v _=>some v)).bind fun v=>k v ρ) none=_)
 rw [p,hc]
 cases t with
 |true=>exact bB (hb _) rfl
 |false=>exact bB (hb _) rfl
theorem pY {β:Type}(n:Nat)(k:Nat→β):yW n k=k n:=by cases n<;>rfl
theorem FI {y:Nat}(h:y≠0):mI (.ofNat y) 0=false:=(hH _ _).trans (decide_eq_false fun e=>h (Int.ofNat.inj e))
theorem FJ {β:Type}{i j:Int}{q:V→Option β}:KD (.int i) (.int j) q=q (.int (Int.add i j)):=hG (Int.add i j) fun z=>q (.int z)
theorem rZ {β:Type}{i j:Int}{q:V→Option β}:KE (.int i) (.int j) q=q (.int (Int.sub i j)):=hG (Int.sub i j) fun z=>q (.int z)
theorem NQ {x:Int}(h:x.natAbs<2^40):Nat.blt x.natAbs 18446744073709551616=true:=Nat.blt_eq.mpr (Nat.lt_of_lt_of_le h (by decide))
theorem UW {β:Type}{i j:Int}{k:V→Option β}(h:i.natAbs<2^40):KF (.int i) (.int j) k=k (.int (Int.mul i j)):=(congrArg (cond · _ none) (NQ h)).trans (hG (Int.mul i j) fun z=>k (.int z))
theorem NR {β:Type}{i j:Int}{k:V→Option β}(h:mI j 0=false)(g:j.natAbs<2^40):EK (.int i) (.int j) k=k (.int (Int.fdiv i j)):=by
 refine (?_:cond (mI j 0) none (cond (Nat.blt j.natAbs 18446744073709551616) (pG (Int.fdiv i j) fun z=>k (.int z)) none)=_)
 exact (congrArg (cond · none _) h).trans ((congrArg (cond · _ none) (NQ g)).trans (hG (Int.fdiv i j) fun z=>k (.int z)))
section
variable {C:CF}{β:Type}{a b:E}{ρ ρ1 ρ2:Fm}{i j z:Int}
theorem fE (h:Ev C β a ρ (.int i) ρ1)(g:Ev C β b ρ1 (.int j) ρ2)(w:Int.add i j=z):Ev C β (.bin .add a b) ρ (.int z) ρ2:=w▸fK h g fun _=>FJ
theorem oV (h:Ev C β a ρ (.int i) ρ1)(g:Ev C β b ρ1 (.int j) ρ2):Ev C β (.bin .sub a b) ρ (.int (Int.sub i j)) ρ2:=fK h g fun _=>rZ
theorem fN (h:Ev C β a ρ (.int i) ρ1)(g:Ev C β b ρ1 (.int j) ρ2)(w:i.natAbs<2^40):Ev C β (.bin .mul a b) ρ (.int (Int.mul i j)) ρ2:=fK h g fun _=>UW w
theorem FK (h:Ev C β a ρ (.int i) ρ1)(g:Ev C β b ρ1 (.int j) ρ2)(e:mI j 0=false)(w:j.natAbs<2^40):Ev C β (.bin .fdiv a b) ρ (.int (Int.fdiv i j)) ρ2:=fK h g fun _=>NR e w
end
theorem zT {β:Type}{i j:Int}{t:Bool}(h:mI i j=t)(K:V→Option β):bQ .eq (.int i) (.int j) K=K (.bool t):=congrArg (fun t=>K (.bool t)) h
theorem NS {β:Type}{i j:Int}{t:Bool}(h:mI i j=t)(K:V→Option β):bQ .ne (.int i) (.int j) K=K (.bool (not t)):=congrArg (fun t=>K (.bool (not t))) h
theorem zU {fr:Nat→Nat→Fm}{n1:Fm→Option (V×aF)}{step:Fm→(Fm→Option (V×aF))→(Fm→Option (V×aF))→Option (V×aF)}
  (h0:∀(x:Nat) again stop,step (fr x 0) again stop=stop (fr x 0))
  (h1:∀(x y:Nat) again stop,y≠0→step (fr x y) again stop=again (fr y (x % y))):
  ∀(k n x y:Nat),y<2^k→2*k+1≤n→wM step n1 n (fr x y)=n1 (fr (Nat.gcd x y) 0):=by
 have e:∀n x,wM step n1 (n+1) (fr x 0)=n1 (fr (Nat.gcd x 0) 0):=by
  intro n x
  rw [Nat.gcd_zero_right]
  exact h0 x _ _
 intro k
 induction k with
 |zero=>
  intro n x y hy hn
  obtain ⟨n,rfl⟩:∃m,n=m+1:=⟨n - 1,(Nat.sub_add_cancel hn).symm⟩
  obtain rfl:y=0:=by lia
  exact e n x
 |succ k ih=>
  intro n x y hy hn
  obtain ⟨n,rfl⟩:∃m,n=m+3:=⟨n - 3,(Nat.sub_add_cancel (Nat.le_trans (Nat.le_add_left 3 (2*k)) hn)).symm⟩
  by_cases h:y=0
  ·subst h;exact e (n+2) x
  ·refine (h1 x y _ _ h).trans ?_
   have g1:Nat.gcd x y=Nat.gcd y (x % y):=by rw [Nat.gcd_comm x y,Nat.gcd_rec y x,Nat.gcd_comm]
   rw [g1]
   by_cases h':x % y=0
   ·rw [h'];exact e (n+1) y
   ·refine (h1 y (x % y) _ _ h').trans ?_
    have g2:Nat.gcd y (x % y)=Nat.gcd (x % y) (y % (x % y)):=by rw [Nat.gcd_comm y,Nat.gcd_rec (x % y) y,Nat.gcd_comm]
    rw [g2]
    refine ih (n+1) (x % y) (y % (x % y)) ?_ (by lia)
    have a1:x % y<y:=Nat.mod_lt _ (by lia)
    have a2:y % (x % y)<x % y:=Nat.mod_lt _ (by lia)
    have a3:y=(x % y)*(y / (x % y))+y % (x % y):=(Nat.div_add_mod y (x % y)).symm
    have a4:1≤y / (x % y):=Nat.div_pos (Nat.le_of_lt a1) (by lia)
    have a5:(x % y)*1≤(x % y)*(y / (x % y)):=Nat.mul_le_mul_left _ a4
    rw [Nat.pow_succ] at hy
    lia
theorem UX {C:CF}{i j:Int}(hj:j.natAbs<2^40):sg0.1 C (.int i) (.int j)=some (.int (.ofNat (Nat.gcd i.natAbs j.natAbs)),.un):=by
 unfold sg0
 dsimp only
 rw [show Nat.beq (0+1+1) (0+1+1)=true from rfl,aK]
 refine (zU (fr:=fun x y=>[.v (.int (.ofNat x)),.v (.int (.ofNat y))]) ?_ ?_ 40 100 i.natAbs j.natAbs hj (by decide)).trans rfl
 ·intro x again stop;rfl
 ·intro x y again stop h
  cases y with
  |zero=>exact absurd rfl h
  |succ y=>
   refine (?_:(pG (Int.fmod (.ofNat x) (.ofNat (y+1))) fun z=>again [.v (.int (.ofNat (y+1))),.v (.int z)])=_)
   rw [hG]
   cases x with
   |zero=>rw [Nat.zero_mod];rfl
   |succ x=>rfl
noncomputable def NT:CF:=fun f l=>cond (Nat.beq f 0) (kZ (fun _ _=>none) glb rA l) none
theorem abG {i j:Int}(hj:j.natAbs<2^40):NT 0 [.v (.int i),.v (.int j)]=some (.int (.ofNat (Nat.gcd i.natAbs j.natAbs)),.un):=(sg0.2 _ _ _).trans (UX hj)
theorem abH {C:CF}{i j g gg:Int}{t:Bool}(h0:mI j 0=false)(hc:C 0 [.v (.int i),.v (.int j)]=some (.int gg,.un))(ht:pF 0 j=t)(hg:cond t gg (Int.sub 0 gg)=g)(g0:mI g 0=false)(gb:g.natAbs<2^40):
  kZ C glb rB [.v (.int i),.v (.int j)]=some (.tup [.int (Int.fdiv i g),.int (Int.fdiv j g)],.un):=
 have c0:∀{β:Type},Ev C β (.call 0 [.var 0,.var 1]) [.v (.int i),.v (.int j),.un] (.int gg) [.v (.int i),.v (.int j),.un]:=fun {β}=>aU (cB (fun _=>rfl) fun _=>rfl) hc
 have e:Ev C V (cond t (.call 0 [.var 0,.var 1]) (.bin .sub (.int 0) (.call 0 [.var 0,.var 1]))) [.v (.int i),.v (.int j),.un] (.int g) [.v (.int i),.v (.int j),.un]:=by
  subst hg;cases t
  ·exact oV (fun _=>rfl) c0
  ·exact c0
 gP (pV (bU (x:=.int j) (y:=.int 0) (fun _=>rfl) (fun _=>rfl) fun K=>congrArg (fun t=>K (.bool t)) h0) kI)<|
 gP (cG (ρ2:=[.v (.int i),.v (.int j),.v (.int g)]) (jR (t:=t) rfl (bU (x:=.int j) (y:=.int 0) (fun _=>rfl) (fun _=>rfl) fun K=>congrArg (fun t=>K (.bool t)) ht) e) rfl)<|
 dH (r:=[]) (ρ1:=[.v (.int i),.v (.int j),.v (.int g)]) (κ:=fun _=>none) (q:=aC false) (hK (cB (FK (fun _=>rfl) (fun _=>rfl) g0 gb) (FK (fun _=>rfl) (fun _=>rfl) g0 gb)))
noncomputable def CV (i:Int)(g:Nat)(k:Int→Option (V×aF)):Option (V×aF):=match i with
 |.ofNat n=>yW (Nat.div n g) fun z=>k (.ofNat z)
 |.negSucc n=>yW (Nat.div (Nat.succ n) g) fun z=>k (Int.negOfNat z)
noncomputable def UY (a b:V):Option (V×aF):=match a with
 |.int i=>match b with
  |.int j=>cond (pF 0 j) (cond (Nat.blt j.natAbs 1099511627776) (yW (Nat.gcd i.natAbs j.natAbs) fun g=>CV i g fun x=>CV j g fun y=>some (.tup [.int x,.int y],.un)) none)
   (cond (pF j 0) (cond (Nat.blt j.natAbs 1099511627776) (yW (Nat.gcd i.natAbs j.natAbs) fun g=>some (.tup [.int (Int.fdiv i (Int.sub 0 (.ofNat g))),.int (Int.fdiv j (Int.sub 0 (.ofNat g)))],.un)) none) none)
  |_=>none
 |_=>none
theorem sA {i:Int}{g:Nat}{k:Int→Option (V×aF)}(h:(g:Int)∣i):CV i g k=k (Int.fdiv i (.ofNat g)):=by
 cases i with
 |ofNat n=>
  rw [CV,pY]
  congr 1
  cases n with
  |zero=>show Int.ofNat (0 / g)=0;rw [Nat.zero_div];rfl
  |succ n=>rfl
 |negSucc n=>
  rw [CV,pY]
  congr 1
  show Int.negOfNat (Nat.div (n+1) g)=_
  cases g with
  |zero=>exact absurd (Int.zero_dvd.mp h) (by simp)
  |succ g=>
   obtain ⟨c,hc⟩:=h
   have h1:n+1=(g+1)*c.natAbs:=by
    have:=congrArg Int.natAbs hc
    rw [Int.natAbs_mul] at this
    rw [Int.natAbs_negSucc,Int.natAbs_natCast] at this
    exact this
   have h2:c= -(c.natAbs:Int):=by
    have:c<0:=by
     rcases Int.lt_or_le c 0 with h|h
     ·exact h
     ·exfalso
      have h3:0≤((g+1:Nat):Int)*c:=Int.mul_nonneg (Int.natCast_nonneg _) h
      rw [←hc] at h3
      exact absurd h3 (by simp)
    omega
   have h3:Nat.div (n+1) (g+1)=c.natAbs:=by
    rw [h1];exact Nat.mul_div_cancel_left _ (Nat.succ_pos g)
   rw [h3,hc,Int.ofNat_eq_natCast,Int.mul_fdiv_cancel_left _ (by omega),Int.negOfNat_eq]
   exact h2.symm
theorem NU {i j:Int}{t:Bool}(hj:j.natAbs<2^40)(h0:j≠0)(ht:pF 0 j=t):
  kZ NT glb rB [.v (.int i),.v (.int j)]=some (.tup [.int (Int.fdiv i (cond t (.ofNat (Nat.gcd i.natAbs j.natAbs)) (Int.sub 0 (.ofNat (Nat.gcd i.natAbs j.natAbs))))),.int (Int.fdiv j (cond t (.ofNat (Nat.gcd i.natAbs j.natAbs)) (Int.sub 0 (.ofNat (Nat.gcd i.natAbs j.natAbs)))))],.un):=by
 have a:Nat.gcd i.natAbs j.natAbs<2^40:=Nat.lt_of_le_of_lt (Nat.gcd_le_right _ (Int.natAbs_pos.mpr h0)) hj
 have b:Nat.gcd i.natAbs j.natAbs≠0:=fun h=>h0 (Int.natAbs_eq_zero.mp (Nat.gcd_eq_zero_iff.mp h).2)
 refine abH ((hH _ _).trans (decide_eq_false h0)) (abG hj) ht rfl ?_ ?_
 ·cases t with
  |true=>exact FI b
  |false=>exact (hH _ _).trans (decide_eq_false fun e=>b (Int.ofNat.inj (Int.neg_eq_zero.mp ((Int.zero_sub _).symm.trans e))))
 ·cases t with
  |true=>exact a
  |false=>exact (show ((0:Int) - (Nat.gcd i.natAbs j.natAbs:Int)).natAbs<2^40 by rw [Int.zero_sub,Int.natAbs_neg,Int.natAbs_natCast];exact a)
theorem UZ {a b:V}{z:V×aF}(h:UY a b=some z):kZ NT glb rB [.v a,.v b]=some z:=by
 cases a<;>first|cases h|skip
 cases b<;>first|cases h|skip
 rename_i i j
 cases h1:pF 0 j with
 |true=>
  have h:cond (pF 0 j) _ _=some z:=h
  rw [h1] at h
  refine aG (aA (show cond (Nat.blt j.natAbs 1099511627776) _ none=some z from h)) fun h2 h=>?_
  rw [pY,sA (Int.ofNat_dvd_left.mpr (Nat.gcd_dvd_left _ _)),sA (Int.ofNat_dvd_left.mpr (Nat.gcd_dvd_right _ _))] at h
  exact (NU (Nat.blt_eq.mp h2) (Int.ne_of_gt (of_decide_eq_true ((kN _ _).symm.trans h1))) h1).trans h
 |false=>
  have h:cond (pF 0 j) _ _=some z:=h
  rw [h1] at h
  refine aG (aA (show cond (pF j 0) _ none=some z from h)) fun h3 h=>?_
  refine aG (aA h) fun h2 h=>?_
  rw [pY] at h
  exact (NU (Nat.blt_eq.mp h2) (Int.ne_of_lt (of_decide_eq_true ((kN _ _).symm.trans h3))) h1).trans h
noncomputable def vO (g:V→Option (V×aF))(l:List aF):Option (V×aF):=match l with
 |[]=>none
 |s::r=>match s with
  |.v a=>match r with
   |[]=>g a
   |_=>none
  |_=>none
noncomputable def rH (g:V→List aF→Option (V×aF))(l:List aF):Option (V×aF):=match l with
 |[]=>none
 |s::r=>match s with
  |.v a=>g a r
  |_=>none
noncomputable def YL (g:List (V×V)→List aF→Option (V×aF))(l:List aF):Option (V×aF):=match l with
 |[]=>none
 |s::r=>match s with
  |.d a=>g a r
  |_=>none
theorem fA {g:V→List aF→Option (V×aF)}{l:List aF}{z:V×aF}(h:rH g l=some z):∃a t,l=.v a::t∧g a t=some z:=by
 cases l with
 |nil=>exact no h
 |cons s r=>cases s with
  |v a=>exact (bW a r ⟨rfl,h⟩)
  |_=>exact no h
theorem iH {g:V→Option (V×aF)}{l:List aF}{z:V×aF}(h:vO g l=some z):∃a,l=[.v a]∧g a=some z:=by
 cases l with
 |nil=>exact no h
 |cons s r=>cases s with
  |v a=>cases r with
   |nil=>exact ⟨a,rfl,h⟩
   |cons _ _=>exact no h
  |_=>exact no h
theorem CW {g:List (V×V)→List aF→Option (V×aF)}{l:List aF}{z:V×aF}(h:YL g l=some z):∃a t,l=.d a::t∧g a t=some z:=by
 cases l with
 |nil=>exact no h
 |cons s r=>cases s with
  |d a=>exact (bW a r ⟨rfl,h⟩)
  |_=>exact no h
section
variable {C:CF}{fn:Fn}{l:List aF}{r:V×aF}
noncomputable def oW (g:V→Option (V×aF))(l:List aF):Option (V×aF):=vO g l
noncomputable def jD (g:V→V→Option (V×aF))(l:List aF):Option (V×aF):=rH (fun a=>vO fun b=>g a b) l
noncomputable def lf3 (g:V→V→V→Option (V×aF))(l:List aF):Option (V×aF):=rH (fun a=>rH fun b=>vO fun c=>g a b c) l
noncomputable def lf4 (g:V→V→V→V→Option (V×aF))(l:List aF):Option (V×aF):=rH (fun a=>rH fun b=>rH fun c=>vO fun d=>g a b c d) l
noncomputable def lfD (g:List (V×V)→V→V→Option (V×aF))(l:List aF):Option (V×aF):=YL (fun a=>rH fun b=>vO fun c=>g a b c) l
theorem cC {g:V→Option (V×aF)}(e:∀a,kZ C glb fn [.v a]=g a)(h:oW g l=some r):kZ C glb fn l=some r:=by
 refine aD (iH h) fun a alA h=>?_;subst alA
 exact (e a).trans h
theorem bE {g:V→V→Option (V×aF)}(e:∀a b,kZ C glb fn [.v a,.v b]=g a b)(h:jD g l=some r):kZ C glb fn l=some r:=by
 refine dI (fA h) fun a t0 alB h1=>?_;subst alB
 refine aD (iH h1) fun b alC h2=>?_;subst alC
 exact (e a b).trans h2
theorem xK {g:V→V→V→Option (V×aF)}(e:∀a b c,kZ C glb fn [.v a,.v b,.v c]=g a b c)(h:lf3 g l=some r):kZ C glb fn l=some r:=by
 refine dI (fA h) fun a t0 alD h1=>?_;subst alD
 refine dI (fA h1) fun b t1 alE h2=>?_;subst alE
 refine aD (iH h2) fun c alF h3=>?_;subst alF
 exact (e a b c).trans h3
theorem qS {g:V→V→V→V→Option (V×aF)}(e:∀a b c d,kZ C glb fn [.v a,.v b,.v c,.v d]=g a b c d)(h:lf4 g l=some r):kZ C glb fn l=some r:=by
 refine dI (fA h) fun a t0 alG h1=>?_;subst alG
 refine dI (fA h1) fun b t1 alH h2=>?_;subst alH
 refine dI (fA h2) fun c t2 alI h3=>?_;subst alI
 refine aD (iH h3) fun d alJ h4=>?_;subst alJ
 exact (e a b c d).trans h4
theorem abJ {g:List (V×V)→V→V→Option (V×aF)}(e:∀a b c,kZ C glb fn [.d a,.v b,.v c]=g a b c)(h:lfD g l=some r):kZ C glb fn l=some r:=by
 refine dI (CW h) fun a t0 alK h1=>?_;subst alK
 refine dI (fA h1) fun b t1 alL h2=>?_;subst alL
 refine aD (iH h2) fun c alM h3=>?_;subst alM
 exact (e a b c).trans h3
end
noncomputable def agC (C:CF)(f:Nat)(l:List aF):Option (V×aF):=cond (Nat.beq f 2) (jD (sg2.1 C) l) (cond (Nat.beq f 4) (jD (sg4.1 C) l) (cond (Nat.beq f 56) (oW (afQ.1 C) l) (cond (Nat.beq f 23) (lf3 (ae4.1 C) l) (cond (Nat.beq f 1) (jD UY l) (cond (Nat.beq f 59) (jD (afT.1 C) l) (cond (Nat.beq f 71) (oW (af5.1 C) l) (cond (Nat.beq f 79) (oW (NN.1 C) l) (cond (Nat.beq f 57) (oW (afR.1 C) l) (cond (Nat.beq f 72) (oW (aa6.1 C) l) (cond (Nat.blt f 44) (cond (Nat.blt f 24) (cond (Nat.blt f 13) (cond (Nat.blt f 8) (cond (Nat.blt f 5) (cond (Nat.blt f 3) (cond (Nat.beq f 0) (jD (sg0.1 C) l) none) (cond (Nat.beq f 3) (jD (sg3.1 C) l) none)) (cond (Nat.blt f 6) (cond (Nat.beq f 5) (jD (sg5.1 C) l) none) (cond (Nat.blt f 7) (cond (Nat.beq f 6) (oW (sg6.1 C) l) none) (cond (Nat.beq f 7) (oW (sg7.1 C) l) none)))) (cond (Nat.blt f 10) (cond (Nat.blt f 9) (cond (Nat.beq f 8) (jD (sg8.1 C) l) none) (cond (Nat.beq f 9) (jD (sg9.1 C) l) none)) (cond (Nat.blt f 11) (cond (Nat.beq f 10) (lfD (aeS.1 C) l) none) (cond (Nat.blt f 12) (cond (Nat.beq f 11) (jD (aeT.1 C) l) none) (cond (Nat.beq f 12) (jD (aeU.1 C) l) none))))) (cond (Nat.blt f 18) (cond (Nat.blt f 15) (cond (Nat.blt f 14) (cond (Nat.beq f 13) (jD (aeV.1 C) l) none) (cond (Nat.beq f 14) (jD (aeW.1 C) l) none)) (cond (Nat.blt f 16) (cond (Nat.beq f 15) (jD (aeX.1 C) l) none) (cond (Nat.blt f 17) (cond (Nat.beq f 16) (oW (aeY.1 C) l) none) (cond (Nat.beq f 17) (jD (aeZ.1 C) l) none)))) (cond (Nat.blt f 20) (cond (Nat.blt f 19) (cond (Nat.beq f 18) (jD (ae0.1 C) l) none) (cond (Nat.beq f 19) (jD (ae1.1 C) l) none)) (cond (Nat.blt f 21) (cond (Nat.beq f 20) (oW (ae2.1 C) l) none) (cond (Nat.blt f 22) (cond (Nat.beq f 21) (jD (ae3.1 C) l) none) (cond (Nat.beq f 22) (jD (aaV.1 C) l) none)))))) (cond (Nat.blt f 34) (cond (Nat.blt f 29) (cond (Nat.blt f 26) (cond (Nat.blt f 25) (cond (Nat.beq f 24) (jD (ae5.1 C) l) none) (cond (Nat.beq f 25) (oW (ae6.1 C) l) none)) (cond (Nat.blt f 27) (cond (Nat.beq f 26) (jD (ae7.1 C) l) none) (cond (Nat.blt f 28) (cond (Nat.beq f 27) (oW (ae8.1 C) l) none) (cond (Nat.beq f 28) (oW (ae9.1 C) l) none)))) (cond (Nat.blt f 31) (cond (Nat.blt f 30) (cond (Nat.beq f 29) (oW (afA.1 C) l) none) (cond (Nat.beq f 30) (jD (afB.1 C) l) none)) (cond (Nat.blt f 32) (cond (Nat.beq f 31) (jD (afC.1 C) l) none) (cond (Nat.blt f 33) (cond (Nat.beq f 32) (jD (aaW.1 C) l) none) (cond (Nat.beq f 33) (jD (aaX.1 C) l) none))))) (cond (Nat.blt f 39) (cond (Nat.blt f 36) (cond (Nat.blt f 35) (cond (Nat.beq f 34) (jD (afD.1 C) l) none) (cond (Nat.beq f 35) (oW (aaY.1 C) l) none)) (cond (Nat.blt f 37) (cond (Nat.beq f 36) (oW (afE.1 C) l) none) (cond (Nat.blt f 38) (cond (Nat.beq f 37) (jD (afF.1 C) l) none) (cond (Nat.beq f 38) (jD (aaZ.1 C) l) none)))) (cond (Nat.blt f 41) (cond (Nat.blt f 40) (cond (Nat.beq f 39) (oW (afG.1 C) l) none) (cond (Nat.beq f 40) (jD (afH.1 C) l) none)) (cond (Nat.blt f 42) (cond (Nat.beq f 41) (lf4 (afI.1 C) l) none) (cond (Nat.blt f 43) (cond (Nat.beq f 42) (lf3 (aa0.1 C) l) none) (cond (Nat.beq f 43) (lf3 (aa1.1 C) l) none))))))) (cond (Nat.blt f 67) (cond (Nat.blt f 54) (cond (Nat.blt f 49) (cond (Nat.blt f 46) (cond (Nat.blt f 45) (cond (Nat.beq f 44) (lf4 (aa2.1 C) l) none) (cond (Nat.beq f 45) (jD (aa3.1 C) l) none)) (cond (Nat.blt f 47) (cond (Nat.beq f 46) (lf4 (aa4.1 C) l) none) (cond (Nat.blt f 48) (cond (Nat.beq f 47) (jD (afJ.1 C) l) none) (cond (Nat.beq f 48) (lf3 (afK.1 C) l) none)))) (cond (Nat.blt f 51) (cond (Nat.blt f 50) (cond (Nat.beq f 49) (lf4 (US.1 C) l) none) (cond (Nat.beq f 50) (jD (aa5.1 C) l) none)) (cond (Nat.blt f 52) (cond (Nat.beq f 51) (oW (afL.1 C) l) none) (cond (Nat.blt f 53) (cond (Nat.beq f 52) (oW (afM.1 C) l) none) (cond (Nat.beq f 53) (oW (afN.1 C) l) none))))) (cond (Nat.blt f 62) (cond (Nat.blt f 58) (cond (Nat.blt f 55) (cond (Nat.beq f 54) (jD (afO.1 C) l) none) (cond (Nat.beq f 55) (oW (afP.1 C) l) none)) (cond (Nat.blt f 60) (cond (Nat.beq f 58) (oW (afS.1 C) l) none) (cond (Nat.blt f 61) (cond (Nat.beq f 60) (jD (afU.1 C) l) none) (cond (Nat.beq f 61) (oW (afV.1 C) l) none)))) (cond (Nat.blt f 64) (cond (Nat.blt f 63) (cond (Nat.beq f 62) (oW (afW.1 C) l) none) (cond (Nat.beq f 63) (oW (afX.1 C) l) none)) (cond (Nat.blt f 65) (cond (Nat.beq f 64) (jD (afY.1 C) l) none) (cond (Nat.blt f 66) (cond (Nat.beq f 65) (jD (afZ.1 C) l) none) (cond (Nat.beq f 66) (jD (af0.1 C) l) none)))))) (cond (Nat.blt f 80) (cond (Nat.blt f 74) (cond (Nat.blt f 69) (cond (Nat.blt f 68) (cond (Nat.beq f 67) (jD (af1.1 C) l) none) (cond (Nat.beq f 68) (jD (af2.1 C) l) none)) (cond (Nat.blt f 70) (cond (Nat.beq f 69) (jD (af3.1 C) l) none) (cond (Nat.blt f 73) (cond (Nat.beq f 70) (oW (af4.1 C) l) none) (cond (Nat.beq f 73) (jD (aa7.1 C) l) none)))) (cond (Nat.blt f 76) (cond (Nat.blt f 75) (cond (Nat.beq f 74) (jD (aa8.1 C) l) none) (cond (Nat.beq f 75) (oW (aa9.1 C) l) none)) (cond (Nat.blt f 77) (cond (Nat.beq f 76) (oW (af6.1 C) l) none) (cond (Nat.blt f 78) (cond (Nat.beq f 77) (oW (UT.1 C) l) none) (cond (Nat.beq f 78) (jD (af7.1 C) l) none))))) (cond (Nat.blt f 85) (cond (Nat.blt f 82) (cond (Nat.blt f 81) (cond (Nat.beq f 80) (oW (af8.1 C) l) none) (cond (Nat.beq f 81) (lf4 (IR.1 C) l) none)) (cond (Nat.blt f 83) (cond (Nat.beq f 82) (lf4 (abA.1 C) l) none) (cond (Nat.blt f 84) (cond (Nat.beq f 83) (kZ C glb gM l) none) (cond (Nat.beq f 84) (jD (UU.1 C) l) none)))) (cond (Nat.blt f 88) (cond (Nat.blt f 86) (cond (Nat.beq f 85) (jD (abB.1 C) l) none) (cond (Nat.blt f 87) (cond (Nat.beq f 86) (jD (abC.1 C) l) none) (cond (Nat.beq f 87) (oW (UV.1 C) l) none))) (cond (Nat.blt f 89) (cond (Nat.beq f 88) (jD (CS.1 C) l) none) (cond (Nat.blt f 90) (cond (Nat.beq f 89) (jD (af9.1 C) l) none) (cond (Nat.beq f 90) (kZ C glb aV l) none)))))))))))))))))
noncomputable def aX (d:Nat):CF:=Nat.rec (motive:=fun _=>CF) (fun _ _=>none) (fun _ ih=>agC ih) d
inductive IS (P:Nat→Fn→Prop):Nat→List Fn→Prop
 |nil {n}:IS P n []
 |cons {n f l}:P n f→IS P (n+1) l→IS P n (f::l)
theorem IS.get {P:Nat→Fn→Prop}{n:Nat}{l:List Fn}(h:IS P n l):∀{i:Nat} {fn:Fn},l[i]? =some fn→P (n+i) fn:=by
 induction h with
 |nil=>intro i fn e;cases e
 | @cons n f l h _ ih=>
  intro i fn e
  cases i with
  |zero=>cases e;exact h
  |succ i=>exact (Nat.succ_add_eq_add_succ n i)▸ih e
def bC (f:Nat)(fn:Fn):Prop:=∀{C:CF} {l:List aF} {r:V×aF},agC C f l=some r→kZ C glb fn l=some r∨kZ NT glb fn l=some r
theorem sd0:bC 0 rA:=fun {C l _} h=>.inl (bE (l:=l) (fun a b=>sg0.2 C a b) h)
theorem sd1:bC 1 rB:=fun {_ l _} h=>.inr (let ⟨a,_,e,h⟩:=fA h;let ⟨b,e2,h⟩:=iH h;by refine (Eq.symm e)▸?_;refine (Eq.symm e2)▸?_;exact UZ h)
theorem sd2:bC 2 nU:=fun {C l _} h=>.inl (bE (l:=l) (fun a b=>sg2.2 C a b) h)
theorem sd3:bC 3 nV:=fun {C l _} h=>.inl (bE (l:=l) (fun a b=>sg3.2 C a b) h)
theorem sd4:bC 4 nW:=fun {C l _} h=>.inl (bE (l:=l) (fun a b=>sg4.2 C a b) h)
theorem sd5:bC 5 nY:=fun {C l _} h=>.inl (bE (l:=l) (fun a b=>sg5.2 C a b) h)
theorem sd6:bC 6 nZ:=fun {C l _} h=>.inl (cC (l:=l) (fun a=>sg6.2 C a) h)
theorem sd7:bC 7 oA:=fun {C l _} h=>.inl (cC (l:=l) (fun a=>sg7.2 C a) h)
theorem sd8:bC 8 jI:=fun {C l _} h=>.inl (bE (l:=l) (fun a b=>sg8.2 C a b) h)
theorem sd9:bC 9 fZ:=fun {C l _} h=>.inl (bE (l:=l) (fun a b=>sg9.2 C a b) h)
theorem anV:bC 10 iC:=fun {C l _} h=>.inl (abJ (l:=l) (fun a b c=>aeS.2 C a b c) h)
theorem anW:bC 11 oB:=fun {C l _} h=>.inl (bE (l:=l) (fun a b=>aeT.2 C a b) h)
theorem anX:bC 12 gA:=fun {C l _} h=>.inl (bE (l:=l) (fun a b=>aeU.2 C a b) h)
theorem anY:bC 13 cX:=fun {C l _} h=>.inl (bE (l:=l) (fun a b=>aeV.2 C a b) h)
theorem anZ:bC 14 oE:=fun {C l _} h=>.inl (bE (l:=l) (fun a b=>aeW.2 C a b) h)
theorem an0:bC 15 cY:=fun {C l _} h=>.inl (bE (l:=l) (fun a b=>aeX.2 C a b) h)
theorem an1:bC 16 iD:=fun {C l _} h=>.inl (cC (l:=l) (fun a=>aeY.2 C a) h)
theorem an2:bC 17 cZ:=fun {C l _} h=>.inl (bE (l:=l) (fun a b=>aeZ.2 C a b) h)
theorem an3:bC 18 eV:=fun {C l _} h=>.inl (bE (l:=l) (fun a b=>ae0.2 C a b) h)
theorem an4:bC 19 cD:=fun {C l _} h=>.inl (bE (l:=l) (fun a b=>ae1.2 C a b) h)
theorem an5:bC 20 eW:=fun {C l _} h=>.inl (cC (l:=l) (fun a=>ae2.2 C a) h)
theorem an6:bC 21 sQ:=fun {C l _} h=>.inl (bE (l:=l) (fun a b=>ae3.2 C a b) h)
theorem an7:bC 22 oF:=fun {C l _} h=>.inl (bE (l:=l) (fun a b=>aaV.2 C a b) h)
theorem an8:bC 23 lL:=fun {C l _} h=>.inl (xK (l:=l) (fun a b c=>ae4.2 C a b c) h)
theorem an9:bC 24 oG:=fun {C l _} h=>.inl (bE (l:=l) (fun a b=>ae5.2 C a b) h)
theorem aoA:bC 25 gB:=fun {C l _} h=>.inl (cC (l:=l) (fun a=>ae6.2 C a) h)
theorem aoB:bC 26 eE:=fun {C l _} h=>.inl (bE (l:=l) (fun a b=>ae7.2 C a b) h)
theorem aoC:bC 27 oH:=fun {C l _} h=>.inl (cC (l:=l) (fun a=>ae8.2 C a) h)
theorem aoD:bC 28 gC:=fun {C l _} h=>.inl (cC (l:=l) (fun a=>ae9.2 C a) h)
theorem aoE:bC 29 oJ:=fun {C l _} h=>.inl (cC (l:=l) (fun a=>afA.2 C a) h)
theorem aoF:bC 30 dA:=fun {C l _} h=>.inl (bE (l:=l) (fun a b=>afB.2 C a b) h)
theorem aoG:bC 31 jJ:=fun {C l _} h=>.inl (bE (l:=l) (fun a b=>afC.2 C a b) h)
theorem aoH:bC 32 jK:=fun {C l _} h=>.inl (bE (l:=l) (fun a b=>aaW.2 C a b) h)
theorem aoI:bC 33 mK:=fun {C l _} h=>.inl (bE (l:=l) (fun a b=>aaX.2 C a b) h)
theorem aoJ:bC 34 oK:=fun {C l _} h=>.inl (bE (l:=l) (fun a b=>afD.2 C a b) h)
theorem aoK:bC 35 iX:=fun {C l _} h=>.inl (cC (l:=l) (fun a=>aaY.2 C a) h)
theorem aoL:bC 36 gD:=fun {C l _} h=>.inl (cC (l:=l) (fun a=>afE.2 C a) h)
theorem aoM:bC 37 jL:=fun {C l _} h=>.inl (bE (l:=l) (fun a b=>afF.2 C a b) h)
theorem aoN:bC 38 oM:=fun {C l _} h=>.inl (bE (l:=l) (fun a b=>aaZ.2 C a b) h)
theorem aoO:bC 39 eX:=fun {C l _} h=>.inl (cC (l:=l) (fun a=>afG.2 C a) h)
theorem aoP:bC 40 iE:=fun {C l _} h=>.inl (bE (l:=l) (fun a b=>afH.2 C a b) h)
theorem aoQ:bC 41 gE:=fun {C l _} h=>.inl (qS (l:=l) (fun a b c d=>afI.2 C a b c d) h)
theorem aoR:bC 42 gR:=fun {C l _} h=>.inl (xK (l:=l) (fun a b c=>aa0.2 C a b c) h)
theorem aoS:bC 43 dJ:=fun {C l _} h=>.inl (xK (l:=l) (fun a b c=>aa1.2 C a b c) h)
theorem aoT:bC 44 eB:=fun {C l _} h=>.inl (qS (l:=l) (fun a b c d=>aa2.2 C a b c d) h)
theorem aoU:bC 45 dK:=fun {C l _} h=>.inl (bE (l:=l) (fun a b=>aa3.2 C a b) h)
theorem aoV:bC 46 eG:=fun {C l _} h=>.inl (qS (l:=l) (fun a b c d=>aa4.2 C a b c d) h)
theorem aoW:bC 47 gI:=fun {C l _} h=>.inl (bE (l:=l) (fun a b=>afJ.2 C a b) h)
theorem aoX:bC 48 eY:=fun {C l _} h=>.inl (xK (l:=l) (fun a b c=>afK.2 C a b c) h)
theorem aoY:bC 49 kA:=fun {C l _} h=>.inl (qS (l:=l) (fun a b c d=>US.2 C a b c d) h)
theorem aoZ:bC 50 lM:=fun {C l _} h=>.inl (bE (l:=l) (fun a b=>aa5.2 C a b) h)
theorem ao0:bC 51 lN:=fun {C l _} h=>.inl (cC (l:=l) (fun a=>afL.2 C a) h)
theorem ao1:bC 52 lO:=fun {C l _} h=>.inl (cC (l:=l) (fun a=>afM.2 C a) h)
theorem ao2:bC 53 jM:=fun {C l _} h=>.inl (cC (l:=l) (fun a=>afN.2 C a) h)
theorem ao3:bC 54 lP:=fun {C l _} h=>.inl (bE (l:=l) (fun a b=>afO.2 C a b) h)
theorem ao4:bC 55 iF:=fun {C l _} h=>.inl (cC (l:=l) (fun a=>afP.2 C a) h)
theorem ao5:bC 56 jN:=fun {C l _} h=>.inl (cC (l:=l) (fun a=>afQ.2 C a) h)
theorem ao6:bC 57 jO:=fun {C l _} h=>.inl (cC (l:=l) (fun a=>afR.2 C a) h)
theorem ao7:bC 58 dB:=fun {C l _} h=>.inl (cC (l:=l) (fun a=>afS.2 C a) h)
theorem ao8:bC 59 dC:=fun {C l _} h=>.inl (bE (l:=l) (fun a b=>afT.2 C a b) h)
theorem ao9:bC 60 cJ:=fun {C l _} h=>.inl (bE (l:=l) (fun a b=>afU.2 C a b) h)
theorem apB:bC 61 dD:=fun {C l _} h=>.inl (cC (l:=l) (fun a=>afV.2 C a) h)
theorem apC:bC 62 dS:=fun {C l _} h=>.inl (cC (l:=l) (fun a=>afW.2 C a) h)
theorem apD:bC 63 bR:=fun {C l _} h=>.inl (cC (l:=l) (fun a=>afX.2 C a) h)
theorem apE:bC 64 dE:=fun {C l _} h=>.inl (bE (l:=l) (fun a b=>afY.2 C a b) h)
theorem apF:bC 65 bS:=fun {C l _} h=>.inl (bE (l:=l) (fun a b=>afZ.2 C a b) h)
theorem apG:bC 66 cP:=fun {C l _} h=>.inl (bE (l:=l) (fun a b=>af0.2 C a b) h)
theorem apH:bC 67 cE:=fun {C l _} h=>.inl (bE (l:=l) (fun a b=>af1.2 C a b) h)
theorem apI:bC 68 cQ:=fun {C l _} h=>.inl (bE (l:=l) (fun a b=>af2.2 C a b) h)
theorem apJ:bC 69 dF:=fun {C l _} h=>.inl (bE (l:=l) (fun a b=>af3.2 C a b) h)
theorem apK:bC 70 eH:=fun {C l _} h=>.inl (cC (l:=l) (fun a=>af4.2 C a) h)
theorem apL:bC 71 dT:=fun {C l _} h=>.inl (cC (l:=l) (fun a=>af5.2 C a) h)
theorem apM:bC 72 cF:=fun {C l _} h=>.inl (cC (l:=l) (fun a=>aa6.2 C a) h)
theorem apN:bC 73 dU:=fun {C l _} h=>.inl (bE (l:=l) (fun a b=>aa7.2 C a b) h)
theorem apO:bC 74 cU:=fun {C l _} h=>.inl (bE (l:=l) (fun a b=>aa8.2 C a b) h)
theorem apP:bC 75 cK:=fun {C l _} h=>.inl (cC (l:=l) (fun a=>aa9.2 C a) h)
theorem apQ:bC 76 gJ:=fun {C l _} h=>.inl (cC (l:=l) (fun a=>af6.2 C a) h)
theorem apR:bC 77 bI:=fun {C l _} h=>.inl (cC (l:=l) (fun a=>UT.2 C a) h)
theorem apS:bC 78 gK:=fun {C l _} h=>.inl (bE (l:=l) (fun a b=>af7.2 C a b) h)
theorem apT:bC 79 cR:=fun {C l _} h=>.inl (cC (l:=l) (fun a=>NN.2 C a) h)
theorem apU:bC 80 bK:=fun {C l _} h=>.inl (cC (l:=l) (fun a=>af8.2 C a) h)
theorem apV:bC 81 bX:=fun {C l _} h=>.inl (qS (l:=l) (fun a b c d=>IR.2 C a b c d) h)
theorem apW:bC 82 bJ:=fun {C l _} h=>.inl (qS (l:=l) (fun a b c d=>abA.2 C a b c d) h)
theorem apX:bC 83 gM:=fun h=>.inl h
theorem apY:bC 84 eZ:=fun {C l _} h=>.inl (bE (l:=l) (fun a b=>UU.2 C a b) h)
theorem apZ:bC 85 gN:=fun {C l _} h=>.inl (bE (l:=l) (fun a b=>abB.2 C a b) h)
theorem ap0:bC 86 eI:=fun {C l _} h=>.inl (bE (l:=l) (fun a b=>abC.2 C a b) h)
theorem ap1:bC 87 gO:=fun {C l _} h=>.inl (cC (l:=l) (fun a=>UV.2 C a) h)
theorem ap2:bC 88 dL:=fun {C l _} h=>.inl (bE (l:=l) (fun a b=>CS.2 C a b) h)
theorem ap3:bC 89 eJ:=fun {C l _} h=>.inl (bE (l:=l) (fun a b=>af9.2 C a b) h)
theorem ap4:bC 90 aV:=fun h=>.inl h
theorem ap5 {fn:Fn}:bC 91 fn:=fun h=>no h
theorem ap6 {fn:Fn}:bC 92 fn:=fun h=>no h
theorem ap7 {fn:Fn}:bC 93 fn:=fun h=>no h
theorem VA:IS bC 0 rS:=.cons sd0 (.cons sd1 (.cons sd2 (.cons sd3 (.cons sd4 (.cons sd5 (.cons sd6 (.cons sd7 (.cons sd8 (.cons sd9 (.cons anV (.cons anW (.cons anX (.cons anY (.cons anZ (.cons an0 (.cons an1 (.cons an2 (.cons an3 (.cons an4 (.cons an5 (.cons an6 (.cons an7 (.cons an8 (.cons an9 (.cons aoA (.cons aoB (.cons aoC (.cons aoD (.cons aoE (.cons aoF (.cons aoG (.cons aoH (.cons aoI (.cons aoJ (.cons aoK (.cons aoL (.cons aoM (.cons aoN (.cons aoO (.cons aoP (.cons aoQ (.cons aoR (.cons aoS (.cons aoT (.cons aoU (.cons aoV (.cons aoW (.cons aoX (.cons aoY (.cons aoZ (.cons ao0 (.cons ao1 (.cons ao2 (.cons ao3 (.cons ao4 (.cons ao5 (.cons ao6 (.cons ao7 (.cons ao8 (.cons ao9 (.cons apB (.cons apC (.cons apD (.cons apE (.cons apF (.cons apG (.cons apH (.cons apI (.cons apJ (.cons apK (.cons apL (.cons apM (.cons apN (.cons apO (.cons apP (.cons apQ (.cons apR (.cons apS (.cons apT (.cons apU (.cons apV (.cons apW (.cons apX (.cons apY (.cons apZ (.cons ap0 (.cons ap1 (.cons ap2 (.cons ap3 (.cons ap4 (.cons ap5 (.cons ap6 (.cons ap7 (.nil))))))))))))))))))))))))))))))))))))))))))))))))))))))))))))))))))))))))))))))))))))))))))))))
theorem hM {α β:Type}{o:Option α}{f:α→Option β}{x:α}{z:β}(h:o=some x)(k:f x=some z):o.bind f=some z:=by refine (Eq.symm h)▸?_;exact k
noncomputable def Cn (d:Nat):CF:=Nat.rec (motive:=fun _=>CF) (fun _ _=>none) (fun d _=>aX d) d
def qv (r:Rat):V:=.tup [.int r.num,.int r.den]
def nv (r:Rat):V:=.tup [.str 0,.int r.num,.int r.den]
def Sm (r:Rat):Prop:=r.num.natAbs<2^19∧r.den<2^19
theorem cO {d f:Nat}{l:List aF}{z:V×aF}(h:aX d f l=some z):Cn (d+1) f l=some z:=h
theorem NV {d:Nat}{i:Int}{j:Nat}(hj:j≠0)(hb:j<2^40):Cn (d+2) 1 [.v (.int i),.v (.int j)]=some (qv (mkRat i j),.un):=by
 have hj0:(0:Int)<j:=by lia
 have e1:pF 0 j=true:=by rw [kN,decide_eq_true_eq];exact hj0
 have e2:Nat.blt (j:Int).natAbs 1099511627776=true:=by rw [Nat.blt_eq,Int.natAbs_natCast];exact hb
 refine (show Cn (d+2) 1 [.v (.int i),.v (.int j)]=UY (.int i) (.int j) from rfl).trans ?_
 refine (show UY (.int i) (.int j)=cond (pF 0 j) (cond (Nat.blt (j:Int).natAbs 1099511627776) (yW (Nat.gcd i.natAbs (j:Int).natAbs) fun g=>CV i g fun x=>CV j g fun y=>some (.tup [.int x,.int y],.un)) none) _ from rfl).trans ?_
 rw [e1,aK,e2,aK,pY,sA (Int.ofNat_dvd_left.mpr (Nat.gcd_dvd_left _ _)),sA (Int.ofNat_dvd_left.mpr (Nat.gcd_dvd_right _ _)),Int.natAbs_natCast]
 have h1:(mkRat i j).num=Int.fdiv i (Int.ofNat (Nat.gcd i.natAbs j)):=by
  rw [Rat.num_mkRat,if_neg hj,Nat.gcd_comm,Int.ofNat_eq_natCast,Int.fdiv_eq_ediv_of_nonneg _ (Int.natCast_nonneg _)]
 have h2:((mkRat i j).den:Int)=Int.fdiv j (Int.ofNat (Nat.gcd i.natAbs j)):=by
  rw [Rat.den_mkRat,if_neg hj,Nat.gcd_comm,Int.ofNat_eq_natCast,Int.fdiv_eq_ediv_of_nonneg _ (Int.natCast_nonneg _)];rfl
 rw [qv,h1,h2]
theorem Sm.num {r:Rat}(h:Sm r):r.num.natAbs<2^40:=Nat.lt_of_lt_of_le h.1 (by decide)
theorem Sm.den {r:Rat}(h:Sm r):(r.den:Int).natAbs<2^40:=by rw [Int.natAbs_natCast];exact Nat.lt_of_lt_of_le h.2 (by decide)
theorem tL {r s:Rat}(hr:Sm r)(hs:Sm s):r.den*s.den≠0∧r.den*s.den<2^40:=by
 refine ⟨Nat.mul_ne_zero r.den_nz s.den_nz,?_⟩
 have h:r.den*s.den≤2^19*2^19:=Nat.mul_le_mul (Nat.le_of_lt hr.2) (Nat.le_of_lt hs.2)
 exact Nat.lt_of_le_of_lt h (by decide)
theorem NW {d:Nat}{r s:Rat}(hr:Sm r)(hs:Sm s):Cn (d+3) 2 [.v (qv r),.v (qv s)]=some (qv (r+s),.un):=
 have h:=tL hr hs
 (sg2.2 (Cn (d+2)) _ _).symm.trans<|dH (r:=[]) (ρ1:=[.v (qv r),.v (qv s)]) (κ:=aC false .none) (q:=aC false)<|
  aU (cB (fE (fN (fun _=>rfl) (fun _=>rfl) hr.num) (fN (fun _=>rfl) (fun _=>rfl) hs.num) rfl) (fN (i:=r.den) (j:=s.den) (fun _=>rfl) (fun _=>rfl) hr.den))<|
  (NV (i:=r.num*s.den+s.num*r.den) h.1 h.2).trans (by rw [Rat.add_def'])
theorem NX {d:Nat}{r s:Rat}(hr:Sm r)(hs:Sm s):Cn (d+3) 4 [.v (qv r),.v (qv s)]=some (qv (r*s),.un):=
 have h:=tL hr hs
 (sg4.2 (Cn (d+2)) _ _).symm.trans<|dH (r:=[]) (ρ1:=[.v (qv r),.v (qv s)]) (κ:=aC false .none) (q:=aC false)<|
  aU (cB (fN (fun _=>rfl) (fun _=>rfl) hr.num) (fN (i:=r.den) (j:=s.den) (fun _=>rfl) (fun _=>rfl) hr.den))<|
  (NV (i:=r.num*s.num) h.1 h.2).trans (by rw [Rat.mul_def'])
theorem YM {d:Nat}{r:Rat}(hr:Sm r):Cn (d+2) 1 [.v (.int r.num),.v (.int r.den)]=some (qv r,.un):=by
 rw [NV r.den_nz (Nat.lt_of_lt_of_le hr.2 (by decide)),Rat.mkRat_self]
theorem abK {β:Type}{i j:Int}{k:Bool→Option β}:uH (.int i) (.int j) k=k (mI i j):=rfl
theorem tM {β:Type}{m n:Nat}{k:Bool→Option β}(hm:m<27)(hn:n<27):uH (.str m) (.str n) k=k (Nat.beq m n):=by
 refine (?_:cond (Nat.blt m 27) (cond (Nat.blt n 27) _ none) none=_)
 refine (Eq.symm (Nat.blt_eq.mpr hm))▸?_;refine (Eq.symm (Nat.blt_eq.mpr hn))▸?_;rfl
theorem YN {β:Type}{i j m n:Int}{k:Bool→Option β}:uH (.tup [.int i,.int j]) (.tup [.int m,.int n]) k=k (mI i m && mI j n):=by
 refine (?_:((some (mI i m)).bind fun t=>cond t ((some (mI j n)).bind fun t=>cond t (some true) (some false)) (some false)).bind k=_)
 cases mI i m
 ·rfl
 ·cases mI j n<;>rfl
theorem YO {β:Type}{a b:Rat}{k:Bool→Option β}:uH (qv a) (qv b) k=k (decide (a=b)):=YN.trans (congrArg k (by
 rw [hH,hH,Bool.eq_iff_iff,Bool.and_eq_true,decide_eq_true_iff,decide_eq_true_iff,decide_eq_true_iff]
 exact ⟨fun h=>Rat.ext h.1 (Int.ofNat.inj h.2),fun h=>⟨congrArg Rat.num h,congrArg (fun r=>(Rat.den r:Int)) h⟩⟩))
theorem pZ {c:Rat}:mI c.num 0=decide (c=0):=by
 rw [hH];congr 1;exact propext Rat.num_eq_zero
noncomputable def eD:V:=.tup [.str 0,.int 1,.int 1]
noncomputable def wn (c:Rat)(R:V):V:=if c=0 then nv 0 else if c=1 then R else .tup [.str 3,.tup [nv c,R]]
theorem nD {d:Nat}{p q:Int}:Cn (d+2) 71 [.v (.tup [.int p,.int q])]=some (.tup [.str 0,.int p,.int q],.un):=cO (d:=d+1) (by kernel_rfl)
theorem xM {d:Nat}{p q:Int}:Cn (d+2) 72 [.v (.tup [.str 0,.int p,.int q])]=some (.tup [.tup [.int p,.int q],.tup [.str 0,.int 1,.int 1]],.un):=cO (d:=d+1) (by kernel_rfl)
theorem NY {d:Nat}{p q:Int}{R:V}:Cn (d+2) 72 [.v (.tup [.str 3,.tup [.tup [.str 0,.int p,.int q],R]])]=some (.tup [.tup [.int p,.int q],R],.un):=cO (d:=d+1) (by kernel_rfl)
structure uR (R:V):Prop where
 key:cV R=true
 ok:jV 20 R=true
 one:lK 20 R eD=some false
 tag:∃t r,R=.tup (.str t::r)∧t<27∧t≠0∧t≠3
theorem CX {t n:Nat}(h:t≠n):Nat.beq t n=false:=by
 cases e:Nat.beq t n
 ·rfl
 ·exact absurd (Nat.eq_of_beq_eq_true e) h
theorem YP {β:Type}{m n:Nat}{t:Bool}(hm:m<27)(hn:n<27)(e:Nat.beq m n=t)(K:V→Option β):bQ .eq (.str m) (.str n) K=K (.bool t):=(tM (k:=fun t=>K (.bool t)) hm hn).trans (congrArg (fun t=>K (.bool t)) e)
theorem agD {β:Type}{m n:Nat}{t:Bool}(hm:m<27)(hn:n<27)(e:Nat.beq m n=t)(K:V→Option β):bQ .ne (.str m) (.str n) K=K (.bool (not t)):=(tM (k:=fun t=>K (.bool (not t))) hm hn).trans (congrArg (fun t=>K (.bool (not t))) e)
theorem zV {d:Nat}{R:V}(h:uR R):Cn (d+2) 72 [.v R]=some (.tup [qv 1,R],.un):=
 JW h.tag fun t r e h1 h2 h3=>e▸(aa6.2 (Cn (d+1)) _).symm.trans (gP (ρ1:=[.v (.tup (.str t::r)),.un]) (pV (bU (x:=.str t) (y:=.str 0) (fun _=>rfl) (fun _=>rfl) (YP h1 (by decide) (CX h2))) kI)
  (xJ (FG rfl (bU (x:=.str t) (y:=.str 3) (fun _=>rfl) (fun _=>rfl) (agD h1 (by decide) (CX h3)))) fun κ=>dH (r:=[]) (κ:=κ) (q:=aC false) (ρ1:=[.v (.tup (.str t::r)),.un]) fun _=>rfl))
theorem abL {d:Nat}{c:Rat}{R:V}(hc:c≠0)(h:uR R):Cn (d+2) 72 [.v (wn c R)]=some (.tup [qv c,R],.un):=by
 unfold wn
 refine (Eq.symm (if_neg hc))▸?_
 by_cases e:c=1
 ·refine (Eq.symm (if_pos e))▸?_;refine (Eq.symm e)▸?_;exact zV h
 ·refine (Eq.symm (if_neg e))▸?_;exact NY
theorem NZ {β:Type}{R:V}(h:uR R)(K:V→Option β):bQ .eq R eD K=K (.bool false):=by
 refine bD h.tag fun t r e=>?_
 have h1:=h.one
 have h2:=h.ok
 rw [e.1] at h1 h2 ⊢
 refine (?_:cond (jV 20 _) (cond (jV 20 eD) ((lK 20 _ eD).bind fun t=>K (.bool t)) none) none=_)
 rw [h2]
 exact bB h1 rfl
theorem agE {d:Nat}{c:Rat}{R:V}(h:uR R):Cn (d+3) 73 [.v (qv c),.v R]=some (wn c R,.un):=by
 refine (aa7.2 (Cn (d+2)) _ _).symm.trans ?_
 have c1:∀{t:Bool},decide (c=0)=t→Ev (Cn (d+2)) V (.cmp .eq (.subN (.var 0) 0) (.int 0)) [.v (qv c),.v R] (.bool t) [.v (qv c),.v R]:=fun e=>bU (x:=.int c.num) (y:=.int 0) (fun _=>rfl) (fun _=>rfl) (zT (pZ.trans e))
 by_cases c0:c=0
 ·rw [wn,if_pos c0]
  exact c0▸xJ (FG rfl (c1 (decide_eq_true c0))) fun κ=>dH (r:=[]) (κ:=κ) (q:=aC false) (ρ1:=[.v (qv c),.v R]) (aU (fS fun _=>rfl) (nD (d:=d)))
 ·rw [wn,if_neg c0]
  refine gP (ρ1:=[.v (qv c),.v R]) (pV (xI (s:=false) (t:=false) rfl (c1 (decide_eq_false c0)) (bU (x:=R) (y:=eD) (fun _=>rfl) (fun _=>rfl) (NZ h))) kI) ?_
  have c2:∀{t:Bool},decide (c=1)=t→Ev (Cn (d+2)) (V×aF) (.cmp .eq (.var 0) (.tup [.int 1,.int 1])) [.v (qv c),.v R] (.bool t) [.v (qv c),.v R]:=fun e=>bU (x:=qv c) (y:=qv 1) (fun _=>rfl) (fun _=>rfl) fun K=>(YO (k:=fun t=>K (.bool t))).trans (congrArg (fun t=>K (.bool t)) e)
  by_cases e:c=1
  ·rw [if_pos e]
   exact xJ (c2 (decide_eq_true e)) fun κ=>dH (r:=[]) (κ:=κ) (q:=aC false) (ρ1:=[.v (qv c),.v R]) fun _=>rfl
  ·rw [if_neg e]
   refine JW h.tag fun t r hR h1 h2 h3=>?_
   exact gP (ρ1:=[.v (qv c),.v R]) (pV (c2 (decide_eq_false e)) kI) (dH (r:=[]) (κ:=aC false .none) (q:=aC false) (ρ1:=[.v (qv c),.v R]) (hK (cB (fun _=>rfl) (fK (hK (fS (aU (fS fun _=>rfl) (nD (d:=d))))) (jR (t:=false) (u:=.tup [R]) rfl (bU (x:=.str t) (y:=.str 3) (CT (x:=R) (fun _=>rfl) fun K=>hR.symm▸rfl) (fun _=>rfl) (YP h1 (by decide) (CX h3))) fun _=>rfl) fun _=>rfl))))
noncomputable def fl (kd:Nat)(p:V):List V:=match p with
 |.tup [.str t,.tup l]=>if t=kd then l else [p]
 |_=>[p]
structure IT (kd:Nat)(p:V):Prop where
 tag:∃t r,p=.tup (.str t::r)∧t<27∧(t=kd→∃l,r=[.tup l]∧l.length≤50)
theorem ap8 {kd:Nat}{l:List V}:fl kd (.tup [.str kd,.tup l])=l:=if_pos rfl
theorem abM {t kd:Nat}(h:t≠kd)(r:List V):fl kd (.tup (.str t::r))=[.tup (.str t::r)]:=by
 cases r with
 |nil=>rfl
 |cons x r=>cases r with
  |cons y r=>cases x<;>rfl
  |nil=>cases x with
   |tup l=>exact if_neg h
   |_=>rfl
noncomputable def sF (ps:List V)(kd:Nat)(s:List V)(x:aF):Fm:=[.v (.lst ps),.v (.str kd),.l s,x]
def agF (ps:List V)(kd n:Nat)(s:List V)(ρ:Fm):Prop:=s.length+50*n≤500∧∃x,ρ=sF ps kd s x
theorem VB {C:CF}{β:Type}{q:V→Fm→Option β}{kd:Nat}{ps s:List V}{p:V}(hk:kd<27)(h:IT kd p)(hs:s.length≤450):(fl kd p).length≤50∧Es C β q (dP (rN (dP cU.body 1)) 0) (sF ps kd s (.v p)) (sF ps kd (s++fl kd p) (.v p)):=by
 refine bY h.tag fun t r e ht hr=>?_
 subst e
 by_cases e:t=kd
 ·refine aD (hr e) fun l e2 hl=>?_
  subst e2 e
  refine (Eq.symm ap8)▸?_
  exact ⟨hl,NP (jR (t:=true) rfl (bU (x:=.str t) (y:=.str t) (fun _=>rfl) (fun _=>rfl) fun K=>(tM (k:=fun t=>K (.bool t)) ht hk).trans (congrArg (fun t=>K (.bool t)) (Nat.beq_refl t))) (lZ (x:=.tup l) (fun _=>rfl) fun K=>congrArg (cond · _ none) (Nat.ble_eq_true_of_le (Nat.le_trans hl (by decide))))) rfl rfl (by lia) rfl⟩
 ·refine (Eq.symm (abM e r))▸?_
  exact ⟨(by decide:1≤50),NP (jR (t:=false) rfl (bU (x:=.str t) (y:=.str kd) (fun _=>rfl) (fun _=>rfl) fun K=>(tM (k:=fun t=>K (.bool t)) ht hk).trans (congrArg (fun t=>K (.bool t)) (Bool.eq_false_iff.mpr fun g=>e (Nat.eq_of_beq_eq_true g)))) (fun _=>rfl)) rfl rfl (show s.length+1≤1000 by lia) rfl⟩
theorem FM {kd:Nat}:∀(l s:List V),l.foldl (fun s p=>s++fl kd p) s=s++l.flatMap (fl kd)
 |[],s=>(List.append_nil s).symm
 |a::l,s=>(FM l _).trans (List.append_assoc _ _ _)
theorem abN {d kd:Nat}{ps:List V}(hk:kd<27)(h:∀p∈ps,IT kd p)(hn:ps.length≤10):Cn (d+2) 74 [.v (.lst ps),.v (.str kd)]=some (.lst (ps.flatMap (fl kd)),.un):=by
 refine aD (kP (C:=Cn (d+1)) (q:=aC false) (xs:=[3]) (sr:=.val (.var 0)) (b:=rN (dP cU.body 1)) (ρ:=sF ps kd [] .un) (val:=id) (L:=ps) (s:=[]) (agF ps kd) (fun s p=>s++fl kd p) 4 rfl (fun K=>congrArg (fun l=>K l _) (List.map_id ps).symm) (fun _ _ _ g=>g.2.elim fun _ e=>e▸rfl) ⟨show 0+50*ps.length≤500 by lia,_,rfl⟩ fun p hp n s τ g=>?_) fun τ g e=>?_
 ·refine aT g.2 fun x e=>?_
  subst e
  refine aG (VB (C:=Cn (d+1)) (β:=V×aF) (q:=aC false) (ps:=ps) (s:=s) hk (h p hp) (by have:=g.1;lia)) fun h1 h2=>?_
  exact bW (sF ps kd s (.v p)) _ ⟨fun _=>rfl,⟨by have:=g.1;rw [List.length_append];lia,_,rfl⟩,zS h2⟩
 ·refine aT g.2 fun x e2=>?_
  subst e2
  refine (aa8.2 (Cn (d+1)) _ _).symm.trans ((e _).trans ?_)
  exact congrArg (fun l=>some (V.lst l,aF.un)) (FM ps [])
def Bd (r:Rat)(n:Nat):Prop:=∃m:Int,r=mkRat m 64∧m.natAbs≤n*2^14
theorem xN (m:Int)(d:Nat):(mkRat m d).num.natAbs≤m.natAbs:=by
 rw [Rat.num_mkRat]
 split
 ·exact Nat.zero_le _
 ·refine Nat.le_trans (Int.natAbs_ediv_le_natAbs _ _) (Nat.le_refl _)
theorem qT (m:Int){d:Nat}(hd:d≠0):(mkRat m d).den≤d:=by
 rw [Rat.den_mkRat,if_neg hd]
 exact Nat.div_le_self _ _
theorem Bd.sm {r:Rat}{n:Nat}(h:Bd r n)(hn:n≤16):Sm r:=by
 refine aD h fun m alN hm=>?_;subst alN
 constructor
 ·refine Nat.lt_of_le_of_lt (xN m 64) ?_
  have:n*2^14≤16*2^14:=Nat.mul_le_mul_right _ hn
  lia
 ·exact Nat.lt_of_le_of_lt (qT m (by decide)) (by decide)
theorem Bd.add {r s:Rat}{n k:Nat}(h:Bd r n)(g:Bd s k):Bd (r+s) (n+k):=by
 refine aD h fun m alO hm=>?_;subst alO
 refine aD g fun l alP hl=>?_;subst alP
 refine ⟨m+l,?_,?_⟩
 ·rw [Rat.mkRat_add_mkRat _ _ (by decide) (by decide),show m*(64:Nat)+l*(64:Nat)=(m+l)*(64:Nat) by rw [Int.add_mul],Rat.mkRat_mul_right (by decide)]
 ·rw [Nat.add_mul];exact Nat.le_trans (Int.natAbs_add_le _ _) (Nat.add_le_add hm hl)
theorem Bd.zero (n:Nat):Bd 0 n:=⟨0,by rw [Rat.zero_mkRat],Nat.zero_le _⟩
theorem Bd.mono {r:Rat}{n k:Nat}(h:Bd r n)(g:n≤k):Bd r k:=by
 refine aD h fun m e hm=>?_
 exact ⟨m,e,Nat.le_trans hm (Nat.mul_le_mul_right _ g)⟩
noncomputable def V.beq (a b:V):Bool:=(lK 8 a b).getD false
theorem OA {f:V→V→Option Bool}{h:V→Bool}(hf:∀a b,h a=true→h b=true→∃t,f a b=some t):∀{l m:List V},sM h l=true→sM h m=true→∃t,SP f l m=some t:=fun {l}=>by
 induction l with
 |nil=>intro m _ _;cases m<;>exact ⟨_,rfl⟩
 |cons x l ih=>
  intro m h1 h2
  cases m with
  |nil=>exact ⟨_,rfl⟩
  |cons y m=>
   refine iJ fun gG gH=>?_;refine aG (mY h1) fun a1 b1=>?_
   refine aG (mY h2) fun a2 b2=>?_
   refine aT (hf x y a1 a2) fun t e=>?_
   refine aT (ih b1 b2) fun u e2=>?_
   refine gH ?_;refine (show ∃t,(f x y).bind (fun t=>cond t (SP f l m) (some false))=some t from ?_)
   refine (Eq.symm e)▸?_;refine (Eq.symm e2)▸?_
   cases t<;>exact ⟨_,rfl⟩
theorem OB:∀(n:Nat) (a b:V),jV n a=true→jV n b=true→∃t,lK n a b=some t:=fun n=>by
 induction n with
 |zero=>
  intro a b h1 h2
  cases a<;>first|cases h1|skip
  all_goals (cases b<;>first|exact ⟨_,rfl⟩|cases h2)
 |succ n ih=>
  intro a b h1 h2
  cases a<;>first|cases h1|skip
  all_goals (cases b<;>first|exact ⟨_,rfl⟩|exact OA ih h1 h2|cases h2)
theorem FO {n:Nat}{x:V}(h:jV n x=true):jV (n+1) x=true:=KU n x h
theorem OC {a b:V}(ha:cV a=true)(hb:cV b=true):lK 8 a b=some (V.beq a b):=by
 refine aT (OB 8 a b (FO (jF ha).1) (FO (jF hb).1)) fun t e=>?_
 unfold V.beq
 refine (Eq.symm e)▸?_;rfl
noncomputable def dG:List (V×Rat)→V→Option Rat
 |[],_=>none
 |(a,x)::r,k=>if V.beq a k then some x else dG r k
noncomputable def nJ:List (V×Rat)→V→Rat→List (V×Rat)
 |[],k,c=>[(k,c)]
 |(a,x)::r,k,c=>if V.beq a k then (a,x+c)::r else (a,x)::nJ r k c
noncomputable def iI:List (V×Rat)→V→List (V×Rat)
 |[],_=>[]
 |(a,x)::r,k=>if V.beq a k then r else (a,x)::iI r k
noncomputable def em (m:List (V×Rat)):List (V×V):=m.map fun p=>(p.1,qv p.2)
theorem CY {a k:V}{x c:Rat}{r:List (V×Rat)}(h:V.beq a k=true):nJ ((a,x)::r) k c=(a,x+c)::r:=if_pos h
theorem xO {a k:V}{x c:Rat}{r:List (V×Rat)}(h:V.beq a k=false):nJ ((a,x)::r) k c=(a,x)::nJ r k c:=if_neg (Bool.eq_false_iff.mp h)
theorem xP {a k:V}{x:Rat}{r:List (V×Rat)}(h:V.beq a k=true):dG ((a,x)::r) k=some x:=if_pos h
theorem xQ {a k:V}{x:Rat}{r:List (V×Rat)}(h:V.beq a k=false):dG ((a,x)::r) k=dG r k:=if_neg (Bool.eq_false_iff.mp h)
theorem OD {a k:V}{x:Rat}{r:List (V×Rat)}(h:V.beq a k=true):iI ((a,x)::r) k=r:=if_pos h
theorem OE {a k:V}{x:Rat}{r:List (V×Rat)}(h:V.beq a k=false):iI ((a,x)::r) k=(a,x)::iI r k:=if_neg (Bool.eq_false_iff.mp h)
theorem boo {b:Bool}{M:Prop}(t:b=true→M)(f:b=false→M):M:=b.rec (motive:=fun c=>b=c→M) f t rfl
theorem fU {M:List (V×Rat)→Prop}(h0:M [])(h1:∀a x m,M m→M ((a,x)::m))(m:List (V×Rat)):M m:=List.rec h0 (fun p m ih=>Prod.rec (fun a x=>h1 a x m ih) p) m
theorem qU {β:Type}{a k:V}(ha:cV a=true)(hk:cV k=true){t:Bool}(e:V.beq a k=t)(f:Bool→Option β):(lK 8 a k).bind f=f t:=bB (OC ha hk) (congrArg f e)
theorem zW {β:Type}{q:Option V→Option β}{k:V}(hk:cV k=true){m:List (V×Rat)}:(∀p∈m,cV p.1=true)→jG k q (em m)=q ((dG m k).map qv):=
 fU (M:=fun m=>(∀p∈m,cV p.1=true)→jG k q (em m)=q ((dG m k).map qv)) (fun _=>rfl) (fun a x r ih h=>boo (b:=V.beq a k)
  (fun e=>by rw [xP e];exact qU (h _ (.head _)) hk e _)
  fun e=>by rw [xQ e];exact (qU (h _ (.head _)) hk e _).trans (ih fun p hp=>h p (.tail _ hp))) m
theorem VC {k:V}{c:Rat}(hk:cV k=true){m:List (V×Rat)}:(∀p∈m,cV p.1=true)→uI k (qv ((dG m k).getD 0+c)) (em m)=some (em (nJ m k c)):=
 fU (M:=fun m=>(∀p∈m,cV p.1=true)→uI k (qv ((dG m k).getD 0+c)) (em m)=some (em (nJ m k c))) (fun _=>congrArg (fun r=>some [(k,qv r)]) (Rat.zero_add c)) (fun a x r ih h=>boo (b:=V.beq a k)
  (fun e=>(qU (h _ (.head _)) hk e _).trans (by rw [xP e,CY e];rfl))
  fun e=>(qU (h _ (.head _)) hk e _).trans (by rw [xQ e,xO e];exact bB (ih fun p hp=>h p (.tail _ hp)) rfl)) m
theorem VD {k:V}(hk:cV k=true){m:List (V×Rat)}:(∀p∈m,cV p.1=true)→wL k (em m)=some (em (iI m k)):=
 fU (M:=fun m=>(∀p∈m,cV p.1=true)→wL k (em m)=some (em (iI m k))) (fun _=>rfl) (fun a x r ih h=>boo (b:=V.beq a k)
  (fun e=>by rw [OD e];exact qU (h _ (.head _)) hk e _)
  fun e=>by rw [OE e];exact (qU (h _ (.head _)) hk e _).trans (bB (ih fun p hp=>h p (.tail _ hp)) rfl)) m
theorem OF {m:List (V×Rat)}{k:V}{c:Rat}{n j:Nat}(hc:Bd c j)(hj:1≤j):(∀p∈m,cV p.1=true∧Bd p.2 n)→cV k=true→∀p∈nJ m k c,cV p.1=true∧Bd p.2 (n+j):=
 fU (M:=fun m=>(∀p∈m,cV p.1=true∧Bd p.2 n)→cV k=true→∀p∈nJ m k c,cV p.1=true∧Bd p.2 (n+j))
  (fun _ hk p hp=>List.eq_of_mem_singleton hp▸⟨hk,hc.mono (Nat.le_add_left _ _)⟩) (fun a x m ih h hk p hp=>boo (b:=V.beq a k)
  (fun e=>by
   rw [CY e] at hp
   cases hp with
   |head=>exact ⟨(h _ (.head _)).1,(h _ (.head _)).2.add hc⟩
   |tail _ hp=>exact ⟨(h _ (.tail _ hp)).1,(h _ (.tail _ hp)).2.mono (Nat.le_add_right _ _)⟩)
  fun e=>by
   rw [xO e] at hp
   cases hp with
   |head=>exact ⟨(h _ (.head _)).1,(h _ (.head _)).2.mono (Nat.le_add_right _ _)⟩
   |tail _ hp=>exact ih (fun p hp=>h p (.tail _ hp)) hk p hp) m
theorem OG (m:List (V×Rat))(k:V)(c:Rat):(nJ m k c).length≤m.length+1:=
 fU (M:=fun m=>(nJ m k c).length≤m.length+1) (Nat.le_refl _) (fun a x m ih=>boo (b:=V.beq a k) (fun e=>(CY (x:=x) (c:=c) (r:=m) e).symm▸Nat.le_succ _) fun e=>(xO (x:=x) (c:=c) (r:=m) e).symm▸Nat.succ_le_succ ih) m
theorem OH {m:List (V×Rat)}{k:V}{n:Nat}:(∀p∈m,cV p.1=true∧Bd p.2 n)→Bd ((dG m k).getD 0) n:=
 fU (M:=fun m=>(∀p∈m,cV p.1=true∧Bd p.2 n)→Bd ((dG m k).getD 0) n) (fun _=>Bd.zero n) (fun a x m ih h=>boo (b:=V.beq a k) (fun e=>(xP (x:=x) (r:=m) e).symm▸(h _ (.head _)).2) fun e=>(xQ (x:=x) (r:=m) e).symm▸ih fun p hp=>h p (.tail _ hp)) m
theorem VE {β:Type}{c:Rat}{k:V→Option β}:yX (qv c) 0 k=k (.int c.num):=rfl
theorem VF {β:Type}{c:Rat}{k:V→Option β}:yX (qv c) 1 k=k (.int c.den):=rfl
structure FP where
 c:Rat
 k:V
 v:V
noncomputable def kX (L:List FP):List (V×Rat):=L.foldl (fun m p=>nJ m p.k p.c) []
noncomputable def bO:List (V×Rat)→List V
 |[]=>[]
 |(k,x)::m=>if x=0 then bO m else wn x k::bO m
theorem sB {k:V}{x:Rat}{m:List (V×Rat)}(h:x=0):bO ((k,x)::m)=bO m:=if_pos h
theorem qA {k:V}{x:Rat}{m:List (V×Rat)}(h:x≠0):bO ((k,x)::m)=wn x k::bO m:=if_neg h
theorem zX (m:List (V×Rat)):(bO m).length≤m.length:=
 fU (M:=fun m=>(bO m).length≤m.length) (Nat.le_refl _) (fun k x m ih=>by
  by_cases e:x=0
  ·exact (sB (k:=k) (m:=m) e).symm▸Nat.le_succ_of_le ih
  ·exact (qA (k:=k) (m:=m) e).symm▸Nat.succ_le_succ ih) m
noncomputable def kR:List V→V
 |[]=>nv 0
 |[x]=>x
 |l=>.tup [.str 2,.tup l]
section
variable {C:CF}{β:Type}{ρ ρ1 ρ2:Fm}{x y z v:V}{a b e:E}{l:List V}{q:V→Fm→Option β}
noncomputable def tN (C:CF)(nv:Nat)(ifs:List E)(elt:E)(ρ:Fm)(x:V):Option (Option V):=
 jH nv x fun bs=>dR C glb ifs _ (ρ++bs) fun t _=>fD t fun c=>cond c (kE C glb elt _ (ρ++bs) fun y _=>some (some y)) (some none)
theorem qB {nv:Nat}{sr:Sr}{ifs:List E}(p:(aM ifs && aL e)=true)(hs:∀K:List V→Fm→Option β,jW C glb sr β ρ K=K l ρ1){w:List V}(hk:BH (tN C nv ifs e ρ1) l=some w)(hl:l.length≤1000)(hr:ρ1.length=ρ.length):Ev C β (.comp nv sr ifs e) ρ (.lst w) ρ1:=fun k=>
 (congrArg (cond · _ _) p).trans ((hs _).trans (bB hk ((congrArg (cond · _ none) (eN hl)).trans (congrArg (cond · _ none) ((congrArg (Nat.beq _) hr.symm).trans (Nat.beq_refl _))))))
theorem abP {c:E}(h:Ev C (Option V) c (ρ++[.v x,.v y]) (.bool false) ρ1):tN C 2 [c] e ρ (.tup [x,y])=some none:=
 (show kE C glb c (Option V) (ρ++[.v x,.v y]) (fun t _=>fD t fun c=>cond c (kE C glb e _ (ρ++[.v x,.v y]) fun y _=>some (some y)) (some none))=_ from h _)
theorem abQ {c:E}(h:Ev C (Option V) c (ρ++[.v x,.v y]) (.bool true) ρ1)(g:Ev C (Option V) e (ρ++[.v x,.v y]) z ρ2):tN C 2 [c] e ρ (.tup [x,y])=some (some z):=
 (show kE C glb c (Option V) (ρ++[.v x,.v y]) (fun t _=>fD t fun c=>cond c (kE C glb e _ (ρ++[.v x,.v y]) fun y _=>some (some y)) (some none))=_ from (h _).trans (g fun y _=>some (some y)))
theorem abR {c:E}(h:Ev C (Option V) c (ρ++[.v x]) (.bool false) ρ1):tN C 1 [c] e ρ x=some none:=
 (show kE C glb c (Option V) (ρ++[.v x]) (fun t _=>fD t fun c=>cond c (kE C glb e _ (ρ++[.v x]) fun y _=>some (some y)) (some none))=_ from h _)
theorem xR (g:Ev C (Option V) e (ρ++[.v x]) z ρ2):tN C 1 [] e ρ x=some (some z):=(show kE C glb e (Option V) (ρ++[.v x]) (fun y _=>some (some y))=_ from g _)
theorem YQ {f:V→Option (Option V)}(h:f x=some none){w:List V}(g:BH f l=some w):BH f (x::l)=some w:=bB h g
theorem zY {f:V→Option (Option V)}(h:f x=some (some y)){w:List V}(g:BH f l=some w):BH f (x::l)=some (y::w):=bB h (bB g rfl)
theorem abS {f:V→Option (Option V)}:(∀x∈l,f x=some none)→BH f l=some []:=by
 induction l with
 |nil=>exact fun _=>rfl
 |cons x r ih=>exact fun h=>YQ (h x (.head _)) (ih fun y hy=>h y (.tail _ hy))
theorem xS {i j:Nat}(h:Ev C β e ρ (.tup [x,y]) ρ1)(g:aZ [i,j] [.v x,.v y] ρ1=ρ2):Es C β q (.unp [i,j] e) ρ ρ2:=fun κ=>(h _).trans (congrArg κ g)
theorem VG {n:Nat}{kvs w:List (V×V)}(h:Ev C β e ρ v ρ1)(p:aL a=true)(ha:Ev C β a ρ1 x ρ1)(g:ρ1.at n=.d kvs)(hk:cV x=true)(hl:kvs.length≤1000)(hp:uI x v kvs=some w)(u:ρ1.set n (.d w)=ρ2):Es C β q (.setI n a e) ρ ρ2:=fun κ=>by
 refine (h _).trans ((congrArg (cond · _ none) p).trans ((ha _).trans ?_))
 rw [g]
 exact (congrArg (cond · _ none) hk).trans ((congrArg (cond · _ none) (eN hl)).trans (bB hp (congrArg κ u)))
theorem VH {n:Nat}{kvs:List (V×V)}{o:Option V}(p:(aL a && aL b)=true)(ha:Ev C β a ρ x ρ1)(hb:Ev C β b ρ y ρ2)(g:ρ.at n=.d kvs)(hk:cV x=true)(w:∀K:Option V→Option β,jG x K kvs=K o)(hz:o.getD y=z):Ev C β (.dget n a b) ρ z ρ:=fun k=>by
 refine (congrArg (cond · _ none) p).trans ((ha _).trans ((hb _).trans ?_))
 rw [g]
 exact (congrArg (cond · _ none) hk).trans ((w fun o=>k (o.getD y) ρ).trans (congrArg (k · ρ) hz))
theorem VI {n:Nat}{kvs r:List (V×V)}{o:Option V}(p:(aL a && aL b)=true)(ha:Ev C β a ρ x ρ1)(hb:Ev C β b ρ y ρ2)(g:ρ.at n=.d kvs)(hk:cV x=true)(hl:kvs.length≤1000)(w:∀K:Option V→Option β,jG x K kvs=K o)(hd:wL x kvs=some r)(hz:o.getD y=z){ρ3:Fm}(hr:ρ.set n (.d r)=ρ3):Ev C β (.dpop n a b) ρ z ρ3:=fun k=>by
 refine (congrArg (cond · _ none) p).trans ((ha _).trans ((hb _).trans ?_))
 rw [g]
 refine (congrArg (cond · _ none) hk).trans ((congrArg (cond · _ none) (eN hl)).trans ((w fun o=>(wL x kvs).bind fun w=>k (o.getD y) (ρ.set n (.d w))).trans (bB hd ?_)))
 exact hz▸hr▸rfl
theorem rI (h:l.length≤1000)(K:V→Option β):kU .len (.lst l) K=K (.int (.ofNat l.length)):=congrArg (cond · _ none) (eN h)
theorem VJ (h:l.length≤1000)(K:V→Option β):kU .tuple (.lst l) K=K (.tup l):=congrArg (cond · _ none) (eN h)
end
noncomputable def gF (ps:List V)(s1 s2 s3 s4 s5 s6:aF):Fm:=[.v (.lst ps),s1,s2,s3,s4,s5,s6]
noncomputable def gT (n:Nat):S:=dP cK.body n
theorem IU {C:CF}{ps:List V}{s1 s2 s3 s4 s5 s6:aF}{m:List (V×Rat)}:(∀p∈m,C 73 [.v (qv p.2),.v p.1]=some (wn p.2 p.1,.un))→
  BH (tN C 2 [.cmp .ne (.subN (.var 8) 0) (.int 0)] (.call 73 [.var 8,.var 7]) (gF ps s1 s2 s3 s4 s5 s6)) (nS (em m))=some (bO m):=by
 induction m with
 |nil=>exact fun _=>rfl
 |cons a m ih=>
  refine Prod.rec (fun k x h=>?_) a
  have ih:=ih fun p hp=>h p (.tail _ hp)
  have c:∀{t:Bool},mI x.num 0=t→Ev C (Option V) (.cmp .ne (.subN (.var 8) 0) (.int 0)) (gF ps s1 s2 s3 s4 s5 s6++[.v k,.v (qv x)]) (.bool (not t)) (gF ps s1 s2 s3 s4 s5 s6++[.v k,.v (qv x)]):=fun h=>bU (x:=.int x.num) (y:=.int 0) (fun _=>rfl) (fun _=>rfl) (NS h)
  by_cases e:x=0
  ·exact (sB (k:=k) (m:=m) e).symm▸YQ (x:=.tup [k,qv x]) (abP (c (pZ.trans (decide_eq_true e)))) ih
  ·exact (qA (k:=k) (m:=m) e).symm▸zY (x:=.tup [k,qv x]) (abQ (c (pZ.trans (decide_eq_false e))) (aU (cB (fun _=>rfl) fun _=>rfl) (h _ (.head _)))) ih
theorem IV (m:List (V×Rat)):(nS (em m)).length=m.length:=by
 induction m with
 |nil=>rfl
 |cons a m ih=>exact congrArg (· +1) ih
theorem OI {m:List (V×Rat)}{n:Nat}(h:m.length≤n):(em m).length≤n:=(List.length_map (as:=m) _).symm▸h
theorem OJ (o:Option Rat):(o.map qv).getD (.tup [.int 0,.int 1])=qv (o.getD 0):=by cases o<;>rfl
structure YR (d:Nat)(ps:List V)(L:List FP)(out:List V):Prop where
 flat:Cn (d+3) 74 [.v (.lst ps),.v (.str 2)]=some (.lst (L.map FP.v),.un)
 len:L.length≤10
 it:∀p∈L,Cn (d+3) 72 [.v p.v]=some (.tup [qv p.c,p.k],.un)∧cV p.k=true∧Bd p.c 1
 rest:∀p∈iI (kX L) eD,uR p.1
 tag:∀x∈bO (iI (kX L) eD),∃t r,x=.tup (.str t::r)∧t<27∧t≠2
 sort:Cn (d+3) 70 [.v (.lst (bO (iI (kX L) eD)))]=some (.lst out,.un)
 olen:out.length≤50
theorem agG {C:CF}{ps:List V}{s1 s2 s3 s4 s5:aF}{l:List V}{κ:Fm→Option (V×aF)}(h:l.length≤60):aW C glb [gT 6,gT 7] _ (gF ps s1 s2 s3 s4 s5 (.v (.lst l))) κ (aC false)=some (kR l,.un):=by
 refine iJ fun gG gH=>?_
 cases l with
 |nil=>exact gH rfl
 |cons x r=>cases r with
  |nil=>exact gH rfl
  |cons y r=>
   have hl:∀{β:Type},Ev C β (.bi1 .len (.var 6)) (gF ps s1 s2 s3 s4 s5 (.v (.lst (x::y::r)))) (.int (.ofNat (x::y::r).length)) (gF ps s1 s2 s3 s4 s5 (.v (.lst (x::y::r)))):=fun {_}=>lZ (x:=.lst (x::y::r)) (fun _=>rfl) (rI (Nat.le_trans h (by decide)))
   refine gH ?_
   exact gP (pV (bU (y:=.int 0) hl (fun _=>rfl) (zT (t:=false) rfl)) kI)<|
    dH (jR (t:=false) rfl (bU (y:=.int 1) hl (fun _=>rfl) (zT (t:=false) rfl)) (hK (cB (fun _=>rfl) (lZ (x:=.lst (x::y::r)) (fun _=>rfl) (VJ (Nat.le_trans h (by decide)))))))
theorem VK {C:CF}{β:Type}{q:V→Fm→Option β}{ps:List V}{m:List (V×Rat)}{p:FP}{s3 s4:aF}(h1:C 72 [.v p.v]=some (.tup [qv p.c,p.k],.un))(h2:cV p.k=true)(hm:∀p∈m,cV p.1=true)(hl:m.length≤10)(hr:C 2 [.v (qv ((dG m p.k).getD 0)),.v (qv p.c)]=some (qv ((dG m p.k).getD 0+p.c),.un)):
  qQ C β q (rN (gT 1)) (gF ps (.d (em m)) (.v p.v) s3 s4 .un .un) (gF ps (.d (em (nJ m p.k p.c))) (.v p.v) (.v (qv p.c)) (.v p.k) .un .un):=
 lH (xS (ρ2:=gF ps (.d (em m)) (.v p.v) (.v (qv p.c)) (.v p.k) .un .un) (aU (fS fun _=>rfl) h1) rfl)
  (VG (ρ1:=gF ps (.d (em m)) (.v p.v) (.v (qv p.c)) (.v p.k) .un .un) (aU (cB (VH (x:=p.k) (y:=.tup [.int 0,.int 1]) rfl (fun _=>rfl) (fun _=>rfl) rfl h2 (fun K=>zW h2 hm) (OJ _)) fun _=>rfl) hr) rfl (fun _=>rfl) rfl h2 (OI (Nat.le_trans hl (by decide))) (VC h2 hm) rfl)
def agH (ps:List V)(n:Nat)(m:List (V×Rat))(ρ:Fm):Prop:=((∀p∈m,cV p.1=true∧Bd p.2 (10 - n))∧m.length+n≤10)∧∃s2 s3 s4,ρ=gF ps (.d (em m)) s2 s3 s4 .un .un
theorem OL {d:Nat}{ps:List V}{L:List FP}{out:List V}(h:YR d ps L out){q:V→Fm→Option (V×aF)}:
  ∃τ,agH ps 0 (kX L) τ∧Es (Cn (d+3)) (V×aF) q (gT 1) (gF ps (.d []) .un .un .un .un .un) τ:=
 kP (val:=FP.v) (L:=L) (s:=[]) (ρ1:=gF ps (.d []) .un .un .un .un .un) (agH ps) (fun m p=>nJ m p.k p.c) 7 rfl (CU (aU (cB (fun _=>rfl) fun _=>rfl) h.flat) rfl)
  (fun _ _ _ g=>nK g.2 fun _ _ _ e=>e▸rfl) ⟨⟨(fun p hp=>by cases hp),(Nat.zero_add _).symm▸h.len⟩,_,_,_,rfl⟩ fun p hp n m τ g=>by
   refine iJ fun gG gH=>?_
   refine aG g.1 fun hm hl=>?_
   refine nK g.2 fun s2 s3 s4 e=>?_
   subst e
   refine iK (h.it p hp) fun h1 h2 h3=>?_
   have hb:=OH (k:=p.k) hm
   refine gH ?_
   refine bW (gF ps (.d (em m)) (.v p.v) s3 s4 .un .un) _ ⟨fun _=>rfl,⟨⟨fun q hq=>?_,?_⟩,_,_,_,rfl⟩,VK h1 h2 (fun p hp=>(hm p hp).1) (by lia) (NW (d:=d) (hb.sm (gX (by decide))) (h3.sm (by decide)))⟩
   ·exact aG (OF h3 (Nat.le_refl 1) hm h2 q hq) fun a b=>⟨a,b.mono (pX (Nat.le_trans (Nat.le_add_left _ _) hl))⟩
   ·refine Nat.le_trans (Nat.add_le_add_right (OG m p.k p.c) n) ?_;rw [Nat.add_assoc,Nat.add_comm 1 n];exact hl
theorem OM (m:List (V×Rat))(k:V):(iI m k).length≤m.length:=
 fU (M:=fun m=>(iI m k).length≤m.length) (Nat.le_refl _) (fun a x m ih=>boo (b:=V.beq a k) (fun e=>(OD (x:=x) (r:=m) e).symm▸Nat.le_succ _) fun e=>(OE (x:=x) (r:=m) e).symm▸Nat.succ_le_succ ih) m
theorem abT {d:Nat}{ps:List V}{L:List FP}{out:List V}(h:YR d ps L out):
  Cn (d+4) 75 [.v (.lst ps)]=some (kR (out++(if (dG (kX L) eD).getD 0≠0 then [nv ((dG (kX L) eD).getD 0)] else [])),.un):=by
 refine iJ fun gG gH=>?_
 refine aD (OL h (q:=aC false)) fun τ g e1=>?_
 refine aG g.1 fun hm hl=>?_
 refine nK g.2 fun s2 s3 s4 e=>?_
 subst e
 have hm':∀p∈kX L,cV p.1=true:=fun p hp=>(hm p hp).1
 have hd:=OM (kX L) eD
 have hf:=zX (iI (kX L) eD)
 have e2:Es (Cn (d+3)) (V×aF) (aC false) (gT 2) (gF ps (.d (em (kX L))) s2 s3 s4 .un .un) (gF ps (.d (em (iI (kX L) eD))) s2 s3 s4 (.v (qv ((dG (kX L) eD).getD 0))) .un):=
  cG (VI (x:=eD) (y:=.tup [.int 0,.int 1]) (ρ3:=gF ps (.d (em (iI (kX L) eD))) s2 s3 s4 .un .un) rfl (fun _=>rfl) (fun _=>rfl) rfl rfl (OI (by lia)) (fun K=>zW rfl hm') (VD rfl hm') (OJ _) rfl) rfl
 have e3:Es (Cn (d+3)) (V×aF) (aC false) (gT 3) (gF ps (.d (em (iI (kX L) eD))) s2 s3 s4 (.v (qv ((dG (kX L) eD).getD 0))) .un) (gF ps (.v (.dct (em (iI (kX L) eD)))) s2 s3 s4 (.v (qv ((dG (kX L) eD).getD 0))) (.v (.lst (bO (iI (kX L) eD))))):=
  cG (qB (ρ1:=gF ps (.v (.dct (em (iI (kX L) eD)))) s2 s3 s4 (.v (qv ((dG (kX L) eD).getD 0))) .un) rfl (fun _=>rfl) (IU fun p hp=>agE (h.rest p hp)) (by rw [IV];lia) rfl) rfl
 have e4:Es (Cn (d+3)) (V×aF) (aC false) (gT 4) (gF ps (.v (.dct (em (iI (kX L) eD)))) s2 s3 s4 (.v (qv ((dG (kX L) eD).getD 0))) (.v (.lst (bO (iI (kX L) eD))))) (gF ps (.v (.dct (em (iI (kX L) eD)))) s2 s3 s4 (.v (qv ((dG (kX L) eD).getD 0))) (.v (.lst (bO (iI (kX L) eD))))):=
  pV (bU (x:=.int 0) (y:=.int 0) (lZ (x:=.lst []) (qB (l:=bO (iI (kX L) eD)) rfl (fun _=>rfl) (abS fun x hx=>by
   refine bY (h.tag x hx) fun t r e h1 h2=>?_
   subst e
   exact abR (bU (x:=.str t) (y:=.str 2) (fun _=>rfl) (fun _=>rfl) fun K=>(tM (k:=fun t=>K (.bool t)) h1 (by decide)).trans (congrArg (fun t=>K (.bool t)) (Bool.eq_false_iff.mpr fun e=>h2 (Nat.eq_of_beq_eq_true e))))) (by lia) rfl) fun _=>rfl) (fun _=>rfl) fun _=>rfl) kI
 have ho:=h.olen
 have e5:Es (Cn (d+3)) (V×aF) (aC false) (gT 5) (gF ps (.v (.dct (em (iI (kX L) eD)))) s2 s3 s4 (.v (qv ((dG (kX L) eD).getD 0))) (.v (.lst (bO (iI (kX L) eD))))) (gF ps (.v (.dct (em (iI (kX L) eD)))) s2 s3 s4 (.v (qv ((dG (kX L) eD).getD 0))) (.v (.lst (out++(if (dG (kX L) eD).getD 0≠0 then [nv ((dG (kX L) eD).getD 0)] else []))))):=by
  by_cases e:(dG (kX L) eD).getD 0=0
  ·refine (if_neg (not_not_intro e)).symm▸?_
   exact cG (fK (aU (fS fun _=>rfl) h.sort) (jR (t:=false) (u:=.lst []) rfl (bU (x:=.int ((dG (kX L) eD).getD 0).num) (y:=.int 0) (fun _=>rfl) (fun _=>rfl) (NS (pZ.trans (decide_eq_true e)))) (fun _=>rfl)) fun K=>congrArg (cond · _ none) (eN (show out.length+0≤mH from Nat.le_trans (show out.length≤50 from ho) (by decide)))) rfl
  ·refine (if_pos e).symm▸?_
   exact cG (fK (aU (fS fun _=>rfl) h.sort) (jR (t:=true) (u:=.lst [nv ((dG (kX L) eD).getD 0)]) rfl (bU (x:=.int ((dG (kX L) eD).getD 0).num) (y:=.int 0) (fun _=>rfl) (fun _=>rfl) (NS (pZ.trans (decide_eq_false e)))) (tK (fS (aU (fS fun _=>rfl) (nD (d:=d+1)))))) fun K=>congrArg (cond · _ none) (eN (show out.length+1≤mH from Nat.le_trans (show out.length+1≤51 by lia) (by decide)))) rfl
 refine gH ?_
 refine (aa9.2 (Cn (d+3)) _).symm.trans (gP (s:=gT 0) (ρ1:=gF ps (.d []) .un .un .un .un .un) (fun _=>rfl) (gP e1 (gP e2 (gP e3 (gP e4 (gP e5 (agG ?_)))))))
 rw [List.length_append]
 by_cases e:(dG (kX L) eD).getD 0=0
 ·rw [if_neg (not_not_intro e)];exact Nat.le_trans ho (by decide)
 ·rw [if_pos e];exact Nat.le_trans (Nat.succ_le_succ ho) (by decide)
theorem agI (c:Rat){kd:Nat}(hk:kd≠0):IT kd (nv c):=⟨0,_,rfl,by decide,fun q=>absurd q.symm hk⟩
theorem sm1:Sm 1:=by constructor<;>decide
theorem FQ {d:Nat}{c:Rat}(hc:Sm c):Cn (d+3) 4 [.v (.tup [.int 1,.int 1]),.v (.tup [.int c.num,.int c.den])]=some (qv c,.un):=
 (NX (d:=d) sm1 hc).trans (by rw [Rat.one_mul])
noncomputable def sx:V:=.tup [.str 1,.str 17]
noncomputable def nk (k:Nat):V:=.tup [.str 0,.int k,.int 1]
noncomputable def rO:List V:=[sx,.tup [.str 2,.tup [sx,.tup [.str 0,.int 2,.int 1]]],.tup [.str 2,.tup [sx,.tup [.str 0,.int 1,.int 1]]],.tup [.str 2,.tup [sx,.tup [.str 0,.int 1,.int 2]]],
 .tup [.str 2,.tup [sx,.tup [.str 0,.int (-1),.int 2]]],.tup [.str 2,.tup [sx,.tup [.str 0,.int (-1),.int 1]]],.tup [.str 2,.tup [sx,.tup [.str 0,.int (-2),.int 1]]]]
noncomputable def rk (A:V)(k:Nat):V:=if k=1 then A else .tup [.str 4,A,nk k]
theorem ON {f:V→Option (Option V)}{x:V}{l:List V}:BH f (x::l)=(f x).bind fun o=>match o with
  |none=>BH f l
  |some y=>(BH f l).bind fun z=>some (y::z):=rfl
noncomputable def k3:List Nat:=[1,2,3]
noncomputable def fG (P s1 s2 s3 s4 s5:aF):Fm:=[P,s1,s2,s3,s4,s5,.un,.un,.un]
noncomputable def bG:List S:=[dP bI.body 0,dP bI.body 1]
noncomputable def bGr:List S:=bI.body.tail.tail
noncomputable def JU (p q:Int):V:=.tup [.str 0,.int p,.int q]
noncomputable def qI (p q:Int):V:=.tup [.int p,.int q]
noncomputable def VL (A:V)(k:Nat)(p q:Int)(r:V):Fm:=fG (.v (.lst [JU p q,rk A k])) (.v r) (.d [(A,nk k)]) (.v (rk A k)) (.v A) (.v (nk k))
theorem g1 (d:Nat)(β:Type)(p q:Int)(κ:Fm→Option β)(ψ:V→Fm→Option β):(rO.map fun A=>k3.map fun k=>aW (aX (d+25)) glb bG β (fG (.v (.lst [JU p q,rk A k])) .un .un .un .un .un) κ ψ)=
  rO.map fun A=>k3.map fun k=>(aX (d+25) 4 [.v (qI 1 1),.v (qI p q)]).bind fun r=>κ (VL A k p q r.1):=by kernel_rfl
theorem g1z (d:Nat)(β:Type)(p q:Int)(κ:Fm→Option β)(ψ:V→Fm→Option β):aW (aX (d+25)) glb bG β (fG (.v (.lst [JU p q,eD])) .un .un .un .un .un) κ ψ=
  (aX (d+25) 4 [.v (qI 1 1),.v (qI p q)]).bind fun r=>(aX (d+25) 4 [.v r.1,.v (qI 1 1)]).bind fun r=>κ (fG (.v (.lst [JU p q,eD])) (.v r.1) (.d []) (.v eD) .un .un):=by kernel_rfl
noncomputable def rG (d:Nat)(F:Fm):Option (V×aF):=aW (aX (d+25)) glb bGr _ F (aC false .none) (aC false)
theorem g2 (d n:Nat)(q:Int):(rO.map fun A=>k3.map fun k=>rG d (VL A k (.ofNat (n+1)) q (qI (.ofNat (n+1)) q)))=rO.map fun A=>k3.map fun k=>(aX (d+25) 73 [.v (qI (.ofNat (n+1)) q),.v (rk A k)]).bind fun r=>some (r.1,.un):=by kernel_rfl
theorem g3 (d n:Nat)(q:Int):(rO.map fun A=>k3.map fun k=>rG d (VL A k (.negSucc n) q (qI (.negSucc n) q)))=rO.map fun A=>k3.map fun k=>(aX (d+25) 73 [.v (qI (.negSucc n) q),.v (rk A k)]).bind fun r=>some (r.1,.un):=by kernel_rfl
theorem g4 (d:Nat)(q:Int):(rO.map fun A=>k3.map fun k=>rG d (VL A k 0 q (qI 0 q)))=rO.map fun A=>k3.map fun k=>some (nv 0,.un):=by kernel_rfl
theorem g2z (d n:Nat)(q:Int):rG d (fG (.v (.lst [JU (.ofNat (n+1)) q,eD])) (.v (qI (.ofNat (n+1)) q)) (.d []) (.v eD) .un .un)=some (JU (.ofNat (n+1)) q,.un):=by kernel_rfl
theorem g3z (d n:Nat)(q:Int):rG d (fG (.v (.lst [JU (.negSucc n) q,eD])) (.v (qI (.negSucc n) q)) (.d []) (.v eD) .un .un)=some (JU (.negSucc n) q,.un):=by kernel_rfl
theorem g4z (d:Nat)(q:Int):rG d (fG (.v (.lst [JU 0 q,eD])) (.v (qI 0 q)) (.d []) (.v eD) .un .un)=some (nv 0,.un):=by kernel_rfl
theorem OP:(rO.map fun A=>k3.map fun k=>(cV (rk A k),jV 20 (rk A k),lK 20 (rk A k) eD))=rO.map fun A=>k3.map fun k=>(true,true,some false):=by kernel_rfl
noncomputable def xT (v:V):Nat:=match v with
 |.tup l=>match l with
  |.str t::_=>t
  |_=>0
 |_=>0
noncomputable def YS (v:V):List V:=match v with
 |.tup l=>l.tail
 |_=>[]
theorem VM:(rO.map fun A=>k3.map fun k=>(rk A k,Nat.blt (xT (rk A k)) 27,Nat.beq (xT (rk A k)) 0,Nat.beq (xT (rk A k)) 3))=rO.map fun A=>k3.map fun k=>(.tup (.str (xT (rk A k))::YS (rk A k)),true,false,false):=by kernel_rfl
theorem CZ {k:Nat}(h1:1≤k)(h3:k≤3):k∈k3:=by
 rcases (by lia:k=1∨k=2∨k=3) with rfl|rfl|rfl
 ·exact .head _
 ·exact .tail _ (.head _)
 ·exact .tail _ (.tail _ (.head _))
theorem IW {α:Type}{f g:V→Nat→α}(h:(rO.map fun A=>k3.map fun k=>f A k)=rO.map fun A=>k3.map fun k=>g A k){A:V}{k:Nat}(hA:A∈rO)(hk:k∈k3):f A k=g A k:=ml (ml h A hA) k hk
theorem FR {A:V}{k:Nat}(hA:A∈rO)(hk:k∈k3):uR (rk A k):=by
 have h:=IW (f:=fun A k=>(cV (rk A k),jV 20 (rk A k),lK 20 (rk A k) eD)) (g:=fun _ _=>(true,true,some false)) OP hA hk
 have t:=IW (f:=fun A k=>(rk A k,Nat.blt (xT (rk A k)) 27,Nat.beq (xT (rk A k)) 0,Nat.beq (xT (rk A k)) 3)) (g:=fun A k=>(.tup (.str (xT (rk A k))::YS (rk A k)),true,false,false)) VM hA hk
 simp only [Prod.mk.injEq] at h t
 exact ⟨h.1,h.2.1,h.2.2,_,_,t.1,Nat.blt_eq.mp t.2.1,fun e=>(nomatch (e▸t.2.2.1:Nat.beq 0 0=false)),fun e=>(nomatch (e▸t.2.2.2:Nat.beq 3 3=false))⟩
theorem VN {d k:Nat}{A:V}{c:Rat}(hA:A∈rO)(hk:k∈k3)(hc:Sm c):Cn (d+27) 77 [.v (.lst [nv c,rk A k])]=some (wn c (rk A k),.un):=by
 have h1:(aX (d+25) 4 [.v (qI 1 1),.v (qI c.num c.den)])=some (qv c,.un):=FQ (d:=d+23) hc
 have hw:(aX (d+25) 73 [.v (qv c),.v (rk A k)])=some (wn c (rk A k),.un):=agE (d:=d+23) (FR hA hk)
 refine (UT.2 (aX (d+25)) _).symm.trans ?_
 refine (IW (f:=fun A k=>aW (aX (d+25)) glb bG _ (fG (.v (.lst [JU c.num c.den,rk A k])) .un .un .un .un .un) (fun F=>rG d F) (aC false)) (g:=fun A k=>(aX (d+25) 4 [.v (qI 1 1),.v (qI c.num c.den)]).bind fun r=>rG d (VL A k c.num c.den r.1)) (g1 d _ c.num c.den _ _) hA hk).trans ?_
 refine hM h1 ?_
 by_cases c0:c=0
 ·subst c0
  rw [wn,if_pos rfl]
  exact IW (f:=fun A k=>rG d (VL A k 0 1 (qI 0 1))) (g:=fun _ _=>some (nv 0,.un)) (g4 d 1) hA hk
 ·show rG d (VL A k c.num c.den (qI c.num c.den))=_
  have hn:c.num≠0:=fun e=>c0 (Rat.num_eq_zero.mp e)
  replace hw:(aX (d+25) 73 [.v (qI c.num c.den),.v (rk A k)])=some (wn c (rk A k),.un):=hw
  generalize (c.den:Int)=q at hw ⊢
  generalize c.num=p at hn hw ⊢
  cases p with
  |ofNat n=>cases n with
   |zero=>exact absurd rfl hn
   |succ n=>exact (IW (f:=fun A k=>rG d (VL A k (.ofNat (n+1)) q (qI (.ofNat (n+1)) q))) (g:=fun A k=>(aX (d+25) 73 [.v (qI (.ofNat (n+1)) q),.v (rk A k)]).bind fun r=>some (r.1,.un)) (g2 d n q) hA hk).trans (hM hw rfl)
  |negSucc n=>exact (IW (f:=fun A k=>rG d (VL A k (.negSucc n) q (qI (.negSucc n) q))) (g:=fun A k=>(aX (d+25) 73 [.v (qI (.negSucc n) q),.v (rk A k)]).bind fun r=>some (r.1,.un)) (g3 d n q) hA hk).trans (hM hw rfl)
theorem OQ {d:Nat}{c:Rat}(hc:Sm c):Cn (d+27) 77 [.v (.lst [nv c,eD])]=some (nv c,.un):=by
 have h1:(aX (d+25) 4 [.v (qI 1 1),.v (qI c.num c.den)])=some (qv c,.un):=FQ (d:=d+23) hc
 have h2:(aX (d+25) 4 [.v (qv c),.v (qI 1 1)])=some (qv c,.un):=(NX (d:=d+23) (s:=1) hc sm1).trans (by rw [Rat.mul_one])
 refine (UT.2 (aX (d+25)) _).symm.trans ?_
 refine (g1z d _ c.num c.den (fun F=>rG d F) (aC false)).trans (hM h1 (hM h2 ?_))
 show rG d (fG (.v (.lst [JU c.num c.den,eD])) (.v (qI c.num c.den)) (.d []) (.v eD) .un .un)=some (JU c.num c.den,.un)
 by_cases c0:c=0
 ·subst c0;exact g4z d 1
 ·have hn:c.num≠0:=fun e=>c0 (Rat.num_eq_zero.mp e)
  generalize (c.den:Int)=q
  generalize c.num=p at hn ⊢
  cases p with
  |ofNat n=>cases n with
   |zero=>exact absurd rfl hn
   |succ n=>exact g2z d n q
  |negSucc n=>exact g3z d n q
theorem OR {d:Nat}{c:Rat}(hc:Sm c):Cn (d+4) 79 [.v (nv c)]=some (nv c,.un):=by
 refine (show NN.1 (Cn (d+3)) _=_ from ?_)
 refine (?_:(Cn (d+3) 1 [.v (.int c.num),.v (.int c.den)]).bind _=_)
 rw [show Cn (d+3) 1 [.v (.int c.num),.v (.int c.den)]=_ from YM (d:=d+1) hc,aB]
 exact hM (nD (d:=d+1)) rfl
noncomputable def mono (A:V)(c:Rat)(k:Nat):V:=.tup [.str 3,.tup [nv c,.tup [.str 4,A,nk k]]]
noncomputable def pk (A:V)(c:Rat)(k:Nat):V:=if k=0 then nv c else wn c (rk A k)
theorem zZ {C:CF}{β:Type}{q:V→Fm→Option β}{x:V}:qQ C β q (cR.body.take 6) [.v (.tup [.str 3,x]),.un,.un] [.v (.tup [.str 3,x]),.v (.str 3),.un]∧qQ C β q (cR.body.take 6) [.v (.tup [.str 2,x]),.un,.un] [.v (.tup [.str 2,x]),.v (.str 2),.un]:=⟨fun _=>rfl,fun _=>rfl⟩
theorem vP {d:Nat}{A:V}{c:Rat}{k:Nat}(hA:A∈rO)(hk:k≤3)(hc:Sm c):Cn (d+30) 79 [.v (mono A c k)]=some (pk A c k,.un):=by
 have hY:Cn (d+29) 79 [.v (.tup [.str 4,A,nk k])]=some (if k=0 then eD else rk A k,.un):=by
  have all:(rO.map fun A=>(List.range 4).map fun k=>aX (d+28) 79 [.v (.tup [.str 4,A,nk k])])=rO.map fun A=>(List.range 4).map fun k=>some (if k=0 then eD else rk A k,.un):=by kernel_rfl
  exact ml (ml all A hA) k (List.mem_range.mpr (Nat.lt_succ_of_le hk))
 have h77:Cn (d+29) 77 [.v (.lst [nv c,if k=0 then eD else rk A k])]=some (pk A c k,.un):=by
  by_cases k0:k=0
  ·subst k0;exact OQ (d:=d+2) hc
  ·rw [if_neg k0,pk,if_neg k0];exact VN (d:=d+2) hA (CZ (Nat.pos_of_ne_zero k0) hk) hc
 refine (NN.2 (Cn (d+29)) _).symm.trans ((pW (b:=cR.body.drop 6) zZ.1).trans ?_)
 exact gP (cG (qB (l:=[nv c,.tup [.str 4,A,nk k]]) rfl (CU (v:=.tup [nv c,.tup [.str 4,A,nk k]]) (fun _=>rfl) rfl) (zY (xR (aU (fS fun _=>rfl) (OR (d:=d+25) hc))) (zY (xR (aU (fS fun _=>rfl) hY)) rfl)) (show 2≤1000 by decide) rfl) rfl)<|
  gP (s:=dP cR.body 7) (ρ1:=[.v (mono A c k),.v (.str 3),.v (.lst [nv c,if k=0 then eD else rk A k])]) (fun _=>rfl)<|
  dH (r:=[]) (κ:=aC false .none) (q:=aC false) (ρ1:=[.v (mono A c k),.v (.str 3),.v (.lst [nv c,if k=0 then eD else rk A k])]) (jR (t:=true) rfl (fun _=>rfl) (aU (fS fun _=>rfl) h77))
noncomputable def rJ:List Rat:=[0,2,1,mkRat 1 2,mkRat (-1) 2, -1, -2]
noncomputable def iR (a:Rat):V:=if a=0 then sx else .tup [.str 2,.tup [sx,nv a]]
theorem sC {a:Rat}(h:a∈rJ):iR a∈rO:=by
 have:∀a∈rJ,∃i:Nat,rO[i]? =some (iR a):=by
  intro a ha
  simp only [rJ,List.mem_cons,List.not_mem_nil,or_false] at ha
  rcases ha with rfl|rfl|rfl|rfl|rfl|rfl|rfl
  ·exact ⟨0,by kernel_rfl⟩
  ·exact ⟨1,by kernel_rfl⟩
  ·exact ⟨2,by kernel_rfl⟩
  ·exact ⟨3,by kernel_rfl⟩
  ·exact ⟨4,by kernel_rfl⟩
  ·exact ⟨5,by kernel_rfl⟩
  ·exact ⟨6,by kernel_rfl⟩
 obtain ⟨i,hi⟩:=this a h
 exact List.mem_of_getElem? hi
def tO (a:Rat)(k:Nat)(c:Rat):Prop:=k=1∧c=1∧a≠0
noncomputable instance (a:Rat) (k:Nat) (c:Rat):Decidable (tO a k c):=by unfold tO;exact inferInstance
noncomputable def hU (a:Rat)(k:Nat)(c:Rat):Rat:=if c=0 then 0 else if tO a k c then a else 0
noncomputable def qC (a:Rat)(k:Nat)(c:Rat):List (V×Rat):=if c=0 then [] else if tO a k c then [(sx,1)] else [(rk (iR a) k,c)]
noncomputable def JV (a:Rat)(k:Nat)(c:Rat):List FP:=if c=0 then [⟨0,eD,nv 0⟩] else if tO a k c then [⟨1,sx,sx⟩,⟨a,eD,nv a⟩] else [⟨c,rk (iR a) k,wn c (rk (iR a) k)⟩]
noncomputable def qV (a:Rat):Nat→List Rat→List FP
 |_,[]=>[]
 |k,c::cs=>JV a k c++qV a (k+1) cs
noncomputable def jS (a:Rat):Nat→List Rat→List (V×Rat)
 |_,[]=>[]
 |k,c::cs=>qC a k c++jS a (k+1) cs
noncomputable def tP (a:Rat):Nat→List Rat→Rat→Rat
 |_,[],N=>N
 |k,c::cs,N=>tP a (k+1) cs (N+hU a k c)
def tQ (a:Rat)(k:Nat)(v:V):Prop:=(v=sx∧2≤k)∨∃j,1≤j∧j<k∧v=rk (iR a) j
theorem FS {a:Rat}(h:a∈rJ):∀k,1≤k→k≤3→V.beq eD (rk (iR a) k)=false∧(2≤k→V.beq sx (rk (iR a) k)=false)∧∀j,1≤j→j<k→V.beq (rk (iR a) j) (rk (iR a) k)=false:=by
 have:∀a∈rJ,V.beq eD (rk (iR a) 1)=false∧V.beq eD (rk (iR a) 2)=false∧V.beq eD (rk (iR a) 3)=false∧V.beq sx (rk (iR a) 2)=false∧V.beq sx (rk (iR a) 3)=false∧
   V.beq (rk (iR a) 1) (rk (iR a) 2)=false∧V.beq (rk (iR a) 1) (rk (iR a) 3)=false∧V.beq (rk (iR a) 2) (rk (iR a) 3)=false:=by decide+kernel
 refine adR (this a h) fun h1 h2 h3 h4 h5 h6 h7 h8=>?_
 intro k k1 k3
 have hk:k=1∨k=2∨k=3:=by lia
 rcases hk with rfl|rfl|rfl
 ·exact ⟨h1,fun q=>absurd q (by decide),fun j j1 j2=>by lia⟩
 ·refine ⟨h2,fun _=>h4,fun j j1 j2=>?_⟩
  obtain rfl:j=1:=by lia
  exact h6
 ·refine ⟨h3,fun _=>h5,fun j j1 j2=>?_⟩
  have:j=1∨j=2:=by lia
  rcases this with rfl|rfl
  ·exact h7
  ·exact h8
theorem SL {a c:Rat}{k:Nat}{M:Prop}(h0:c=0→M)(h1:c≠0→tO a k c→M)(h2:c≠0→¬tO a k c→M):M:=(Classical.em (c=0)).elim h0 fun e=>(Classical.em (tO a k c)).elim (h1 e) (h2 e)
theorem OS {m:List (V×Rat)}{k:V}{c:Rat}:(∀p∈m,V.beq p.1 k=false)→nJ m k c=m++[(k,c)]:=
 fU (M:=fun m=>(∀p∈m,V.beq p.1 k=false)→nJ m k c=m++[(k,c)]) (fun _=>rfl) (fun a x m ih h=>(xO (h _ (.head _))).trans (congrArg ((a,x):: ·) (ih fun p hp=>h p (.tail _ hp)))) m
theorem AB {a:Rat}{k:Nat}{v:V}(h:tQ a k v):tQ a (k+1) v:=h.elim (fun g=>.inl ⟨g.1,Nat.le_succ_of_le g.2⟩) fun g=>iA g fun j q1 q2 e=>.inr ⟨j,q1,Nat.lt_succ_of_lt q2,e⟩
theorem VO {a:Rat}{v:V}(h:tQ a 1 v):False:=h.elim (fun g=>absurd g.2 (by decide)) fun g=>iA g fun j q1 q2 _=>absurd q2 (Nat.not_lt.mpr q1)
theorem OT {a:Rat}(ha:a∈rJ){k:Nat}(k1:1≤k)(k3:k≤3){v:V}(h:tQ a k v):V.beq v (rk (iR a) k)=false:=
 iK (FS ha k k1 k3) fun _ h2 h3=>h.elim (fun g=>g.1▸h2 g.2) fun g=>iA g fun j q1 q2 e=>e▸h3 j q1 q2
noncomputable def OU (m:List (V×Rat))(p:FP):List (V×Rat):=nJ m p.k p.c
theorem VP {a:Rat}(ha:a∈rJ){k:Nat}{c N:Rat}{R:List (V×Rat)}(k1:1≤k)(k3:k≤3)(hR:∀p∈R,tQ a k p.1):
  (JV a k c).foldl OU ((eD,N)::R)=(eD,N+hU a k c)::(R++qC a k c)∧∀p∈R++qC a k c,tQ a (k+1) p.1:=by
 unfold JV hU qC
 refine SL (a:=a) (k:=k) (c:=c) (fun c0=>?_) (fun c0 s=>?_) (fun c0 s=>?_)
 ·rw [if_pos c0,if_pos c0,if_pos c0,List.append_nil]
  exact ⟨rfl,fun p hp=>AB (hR p hp)⟩
 ·rw [if_neg c0,if_neg c0,if_neg c0,if_pos s,if_pos s,if_pos s]
  cases R with
  |nil=>exact ⟨rfl,fun p hp=>List.eq_of_mem_singleton hp▸.inl ⟨rfl,Nat.succ_le_succ k1⟩⟩
  |cons p R=>exact (VO (s.1▸hR p (.head _))).elim
 ·rw [if_neg c0,if_neg c0,if_neg c0,if_neg s,if_neg s,if_neg s]
  refine ⟨(OS fun p hp=>?_).trans ?_,fun p hp=>?_⟩
  ·cases hp with
   |head=>exact (FS ha k k1 k3).1
   |tail _ hp=>exact OT ha k1 k3 (hR p hp)
  ·rw [Rat.add_zero];rfl
  ·exact (List.mem_append.mp hp).elim (fun hp=>AB (hR p hp)) fun hp=>List.eq_of_mem_singleton hp▸.inr ⟨k,k1,Nat.lt_succ_self k,rfl⟩
theorem OV {a:Rat}(ha:a∈rJ){cs:List Rat}:∀{k:Nat} {N:Rat} {R:List (V×Rat)},1≤k→k+cs.length≤4→(∀p∈R,tQ a k p.1)→
  (qV a k cs).foldl OU ((eD,N)::R)=(eD,tP a k cs N)::(R++jS a k cs):=by
 induction cs with
 |nil=>exact fun {k N R} _ _ _=>congrArg ((eD,N):: ·) (List.append_nil R).symm
 |cons c cs ih=>
  intro k N R k1 hk hR
  replace hk:k+(cs.length+1)≤4:=hk
  refine aG (VP ha (c:=c) (N:=N) k1 (by lia) hR) fun e h=>?_
  refine List.foldl_append.trans ((congrArg (fun m=>(qV a (k+1) cs).foldl OU m) e).trans ((ih (by lia) (by lia) h).trans ?_))
  exact congrArg ((eD,tP a (k+1) cs (N+hU a k c)):: ·) (List.append_assoc _ _ _)
theorem VQ {a:Rat}(ha:a∈rJ){c0:Rat}{cs:List Rat}(h:cs.length≤3):kX (⟨c0,eD,nv c0⟩::qV a 1 cs)=(eD,tP a 1 cs c0)::jS a 1 cs:=by
 have:=OV ha (cs:=cs) (k:=1) (N:=c0) (R:=[]) (Nat.le_refl _) (by lia) (fun p hp=>by cases hp)
 exact this
theorem VR {a:Rat}{cs:List Rat}:∀{k:Nat} {N:Rat},2≤k→tP a k cs N=N:=by
 induction cs with
 |nil=>exact fun _=>rfl
 |cons c cs ih=>
  intro k N hk
  have:hU a k c=0:=by
   unfold hU
   exact SL (a:=a) (k:=k) (c:=c) (fun c0=>if_pos c0) (fun _ s=>absurd (s.1▸hk) (by decide)) fun c0 s=>(if_neg c0).trans (if_neg s)
  exact (ih (k:=k+1) (N:=N+hU a k c) (Nat.le_succ_of_le hk)).trans (this.symm▸Rat.add_zero N)
noncomputable def oX (p q:Int):V:=.tup [.str 0,.int p,.int q]
noncomputable def sh (A:V)(k s:Nat)(p q:Int):List V:=match s with
 |0=>[]
 |1=>[rk A k]
 |2=>[.tup [.str 3,.tup [oX p q,rk A k]]]
 |_=>[sx]
noncomputable def c4:List Nat:=[0,1,2,3]
noncomputable def c3:List Nat:=[0,1,2]
noncomputable def shB (A:V)(x:Nat)(a b c:List V):List V:=if x=3∧xT A=2 then a++(c++b) else c++(b++a)
theorem OW (d:Nat)(p1 q1 p2 q2 p3 q3:Int):(rO.map fun A=>c4.map fun x=>c3.map fun y=>c3.map fun z=>aX (d+30) 70 [.v (.lst (sh A 1 x p1 q1++sh A 2 y p2 q2++sh A 3 z p3 q3))])=rO.map fun A=>c4.map fun x=>c3.map fun y=>c3.map fun z=>some (.lst (shB A x (sh A 1 x p1 q1) (sh A 2 y p2 q2) (sh A 3 z p3 q3)),.un):=by kernel_rfl
noncomputable def qJ (a:Rat)(k:Nat)(c:Rat):List V:=if c=0 then [] else if tO a k c then [sx] else [wn c (rk (iR a) k)]
noncomputable def YT (a:Rat)(k:Nat)(c:Rat):Nat:=if c=0 then 0 else if tO a k c then 3 else if c=1 then 1 else 2
theorem DA {a:Rat}{k:Nat}{c:Rat}:qJ a k c=sh (iR a) k (YT a k c) c.num c.den:=by
 unfold qJ YT
 refine SL (a:=a) (k:=k) (c:=c) (fun c0=>?_) (fun c0 s=>?_) (fun c0 s=>?_)
 ·rw [if_pos c0,if_pos c0];rfl
 ·rw [if_neg c0,if_neg c0,if_pos s,if_pos s];rfl
 ·rw [if_neg c0,if_neg c0,if_neg s,if_neg s,wn,if_neg c0]
  by_cases e:c=1
  ·rw [if_pos e,if_pos e];rfl
  ·rw [if_neg e,if_neg e];rfl
theorem IX {m n:List (V×Rat)}:bO (m++n)=bO m++bO n:=
 fU (M:=fun m=>bO (m++n)=bO m++bO n) rfl (fun k x m ih=>(Classical.em (x=0)).elim (fun e=>(sB (m:=m++n) e).trans (ih.trans (congrArg (· ++bO n) (sB (m:=m) e).symm)))
  fun e=>(qA (m:=m++n) e).trans ((congrArg (wn x k:: ·) ih).trans (congrArg (· ++bO n) (qA (m:=m) e).symm))) m
theorem IY {a:Rat}{k:Nat}{c:Rat}:bO (qC a k c)=qJ a k c:=by
 unfold qC qJ
 refine SL (a:=a) (k:=k) (c:=c) (fun c0=>?_) (fun c0 s=>?_) (fun c0 s=>?_)
 ·rw [if_pos c0,if_pos c0];rfl
 ·rw [if_neg c0,if_neg c0,if_pos s,if_pos s];rfl
 ·rw [if_neg c0,if_neg c0,if_neg s,if_neg s];exact qA c0
theorem jT {a:Rat}{k:Nat}:qJ a k 0=[]:=by unfold qJ;rw [if_pos rfl]
theorem vQ {a:Rat}{cs:List Rat}(h:cs.length≤3):bO (jS a 1 cs)=qJ a 1 (cs.getD 0 0)++qJ a 2 (cs.getD 1 0)++qJ a 3 (cs.getD 2 0):=by
 have z:∀{k:Nat},qJ a k 0=[]:=jT
 have e:∀(k:Nat) (c:Rat) (cs:List Rat),bO (jS a k (c::cs))=qJ a k c++bO (jS a (k+1) cs):=fun k c cs=>IX.trans (congrArg (· ++bO (jS a (k+1) cs)) IY)
 have n:∀k,bO (jS a k [])=[]:=fun _=>rfl
 cases cs with
 |nil=>exact (z (k:=1)).symm▸(z (k:=2)).symm▸(z (k:=3)).symm▸rfl
 |cons b cs=>cases cs with
  |nil=>rw [e,n];exact (z (k:=2)).symm▸(z (k:=3)).symm▸(List.append_nil _).symm
  |cons c cs=>cases cs with
   |nil=>rw [e,e,n,List.append_nil];exact (z (k:=3)).symm▸(List.append_nil _).symm
   |cons f cs=>cases cs with
    |nil=>rw [e,e,e,n,List.append_nil];exact (List.append_assoc _ _ _).symm
    |cons g cs=>exact absurd (Nat.le_of_succ_le_succ (Nat.le_of_succ_le_succ (Nat.le_of_succ_le_succ h))) (Nat.not_succ_le_zero _)
noncomputable def qD (a c1 c2 c3:Rat):List V:=if tO a 1 c1 then qJ a 1 c1++(qJ a 3 c3++qJ a 2 c2) else qJ a 3 c3++(qJ a 2 c2++qJ a 1 c1)
theorem DB {a:Rat}{k:Nat}{c:Rat}:YT a k c∈c4∧(2≤k→YT a k c∈c3)∧(YT a k c=3↔c≠0∧tO a k c):=by
 unfold YT
 by_cases h:c=0
 ·refine (Eq.symm (if_pos h))▸?_;exact ⟨by decide+kernel,fun _=>by decide+kernel,⟨nofun,fun q=>absurd h q.1⟩⟩
 ·refine (Eq.symm (if_neg h))▸?_
  by_cases g:tO a k c
  ·refine (Eq.symm (if_pos g))▸?_;exact ⟨by decide+kernel,fun hk=>absurd g.1 (fun e=>by rw [e] at hk;exact absurd hk (by decide)),⟨fun _=>⟨h,g⟩,fun _=>rfl⟩⟩
  ·refine (Eq.symm (if_neg g))▸?_
   by_cases e:c=1
   ·refine (Eq.symm (if_pos e))▸?_;exact ⟨by decide+kernel,fun _=>by decide+kernel,⟨nofun,fun q=>absurd q.2 g⟩⟩
   ·refine (Eq.symm (if_neg e))▸?_;exact ⟨by decide+kernel,fun _=>by decide+kernel,⟨nofun,fun q=>absurd q.2 g⟩⟩
theorem OX {a c1 c2 c3:Rat}(ha:a∈rJ){d:Nat}:Cn (d+31) 70 [.v (.lst (qJ a 1 c1++qJ a 2 c2++qJ a 3 c3))]=some (.lst (qD a c1 c2 c3),.un):=by
 refine iK (DB (a:=a) (k:=1) (c:=c1)) fun m1 _ k1=>?_
 have h:=ml (ml (ml (ml (OW d c1.num c1.den c2.num c2.den c3.num c3.den) _ (sC ha)) _ m1) _ (DB.2.1 (Nat.le_refl 2):YT a 2 c2∈_)) _ (DB.2.1 (by decide):YT a 3 c3∈_)
 rw [←DA, ←DA, ←DA] at h
 refine (show Cn (d+31) 70 _=_ from h).trans ?_
 unfold shB qD
 by_cases s:tO a 1 c1
 ·have c0:c1≠0:=fun e=>by have:=s.2.1;rw [e] at this;exact absurd this (by decide)
  rw [if_pos s,if_pos ⟨k1.mpr ⟨c0,s⟩,by rw [iR,if_neg s.2.2];rfl⟩]
 ·rw [if_neg s,if_neg fun q=>s (k1.mp q.1).2]
theorem FT {a:Rat}(ha:a∈rJ){k:Nat}(k1:1≤k)(k3:k≤3):uR (rk (iR a) k):=FR (sC ha) (CZ k1 k3)
theorem FU:uR sx:=⟨rfl,rfl,rfl,1,_,rfl,by decide,by decide,by decide⟩
theorem OY {a:Rat}(ha:a∈rJ){k:Nat}{c:Rat}(k1:1≤k)(k3:k≤3):∀p∈qC a k c,uR p.1:=by
 unfold qC
 refine SL (a:=a) (k:=k) (c:=c) (fun c0=>?_) (fun c0 s=>?_) (fun c0 s=>?_)
 ·rw [if_pos c0];exact fun _ hp=>(List.not_mem_nil hp).elim
 ·rw [if_neg c0,if_pos s];exact fun p hp=>List.eq_of_mem_singleton hp▸FU
 ·rw [if_neg c0,if_neg s];exact fun p hp=>List.eq_of_mem_singleton hp▸FT ha k1 k3
theorem DC {a:Rat}(ha:a∈rJ){cs:List Rat}:∀{k:Nat},1≤k→k+cs.length≤4→∀p∈jS a k cs,uR p.1:=by
 induction cs with
 |nil=>exact fun _ _ _ hp=>(List.not_mem_nil hp).elim
 |cons c cs ih=>
  intro k k1 hk p hp
  replace hk:k+(cs.length+1)≤4:=hk
  exact (List.mem_append.mp (show p∈qC a k c++jS a (k+1) cs from hp)).elim (OY ha k1 (by lia) p) (ih (by lia) (by lia) p)
theorem FV {a:Rat}{k:Nat}{c:Rat}:∀x∈qJ a k c,∃t r,x=.tup (.str t::r)∧t<27∧t≠2:=by
 unfold qJ
 refine SL (a:=a) (k:=k) (c:=c) (fun c0=>?_) (fun c0 s=>?_) (fun c0 s=>?_)
 ·rw [if_pos c0];exact fun _ hp=>(List.not_mem_nil hp).elim
 ·rw [if_neg c0,if_pos s];exact fun p hp=>List.eq_of_mem_singleton hp▸bW 1 _ ⟨rfl,by decide,by decide⟩
 ·rw [if_neg c0,if_neg s,wn,if_neg c0]
  by_cases c1:c=1
  ·rw [if_pos c1,rk]
   by_cases k1:k=1
   ·rw [if_pos k1,iR,if_pos (Classical.byContradiction fun h=>s ⟨k1,c1,h⟩)]
    exact fun p hp=>List.eq_of_mem_singleton hp▸bW 1 _ ⟨rfl,by decide,by decide⟩
   ·rw [if_neg k1]
    exact fun p hp=>List.eq_of_mem_singleton hp▸bW 4 _ ⟨rfl,by decide,by decide⟩
  ·rw [if_neg c1]
   exact fun p hp=>List.eq_of_mem_singleton hp▸bW 3 _ ⟨rfl,by decide,by decide⟩
noncomputable def gQ (A:V):Nat→List Rat→List V
 |_,[]=>[]
 |k,c::cs=>mono A c k::gQ A (k+1) cs
noncomputable def xU (A:V):Nat→List Rat→List V
 |_,[]=>[]
 |k,c::cs=>pk A c k::xU A (k+1) cs
noncomputable def fW (a:Rat)(cs:List Rat):V:=kR (qD a (cs.getD 1 0) (cs.getD 2 0) (cs.getD 3 0)++(if cs.getD 0 0+hU a 1 (cs.getD 1 0)≠0 then [nv (cs.getD 0 0+hU a 1 (cs.getD 1 0))] else []))
theorem agJ {a:Rat}{k:Nat}(h:k=1→a=0):IT 2 (rk (iR a) k)∧fl 2 (rk (iR a) k)=[rk (iR a) k]:=by
 unfold rk
 by_cases kk:k=1
 ·rw [if_pos kk,iR,if_pos (h kk)];exact ⟨⟨1,_,rfl,by decide,fun q=>absurd q (by decide)⟩,rfl⟩
 ·rw [if_neg kk];exact ⟨⟨4,_,rfl,by decide,fun q=>absurd q (by decide)⟩,abM (by decide) _⟩
theorem agK {a:Rat}{k:Nat}{c:Rat}(k1:1≤k):IT 2 (pk (iR a) c k)∧fl 2 (pk (iR a) c k)=(JV a k c).map FP.v:=by
 unfold pk JV wn
 rw [if_neg (Nat.pos_iff_ne_zero.mp k1)]
 refine SL (a:=a) (k:=k) (c:=c) (fun c0=>?_) (fun c0 s=>?_) (fun c0 s=>?_)
 ·rw [if_pos c0,if_pos c0];exact ⟨agI 0 (by decide),rfl⟩
 ·rw [if_neg c0,if_neg c0,if_pos s,if_pos s.2.1,rk,if_pos s.1,iR,if_neg s.2.2]
  exact ⟨⟨2,_,rfl,by decide,fun _=>⟨_,rfl,Nat.le_of_ble_eq_true rfl⟩⟩,rfl⟩
 ·rw [if_neg c0,if_neg c0,if_neg s]
  by_cases c1:c=1
  ·rw [if_pos c1];exact agJ fun kk=>Classical.byContradiction fun h=>s ⟨kk,c1,h⟩
  ·rw [if_neg c1];exact ⟨⟨3,_,rfl,by decide,fun q=>absurd q (by decide)⟩,abM (by decide) _⟩
def agL (d:Nat)(p:FP):Prop:=Cn (d+2) 72 [.v p.v]=some (.tup [qv p.c,p.k],.un)∧cV p.k=true∧Bd p.c 1
theorem agM {a:Rat}(ha:a∈rJ){k:Nat}{c:Rat}(k1:1≤k)(k3:k≤3)(hc:Bd c 1)(hb:Bd a 1){d:Nat}:∀p∈JV a k c,agL d p:=by
 unfold JV
 refine SL (a:=a) (k:=k) (c:=c) (fun c0=>?_) (fun c0 s=>?_) (fun c0 s=>?_)
 ·rw [if_pos c0];exact fun p hp=>List.eq_of_mem_singleton hp▸⟨xM,rfl,Bd.zero 1⟩
 ·rw [if_neg c0,if_pos s]
  intro p hp
  cases hp with
  |head=>exact ⟨zV FU,rfl,⟨64,by decide+kernel,by decide⟩⟩
  |tail _ hp=>exact List.eq_of_mem_singleton hp▸⟨xM,rfl,hb⟩
 ·rw [if_neg c0,if_neg s]
  have hr:=FT ha k1 k3
  exact fun p hp=>List.eq_of_mem_singleton hp▸⟨abL c0 hr,hr.key,hc⟩
theorem VS {a:Rat}{k:Nat}{c:Rat}:(JV a k c).length≤2:=by
 unfold JV
 exact SL (a:=a) (k:=k) (c:=c) (fun c0=>(if_pos c0).symm▸(by decide:1≤2)) (fun c0 s=>(if_neg c0).symm▸(if_pos s).symm▸Nat.le_refl 2) fun c0 s=>(if_neg c0).symm▸(if_neg s).symm▸(by decide:1≤2)
theorem VT {a:Rat}(ha:a∈rJ)(hb:Bd a 1){d:Nat}{cs:List Rat}:∀{k:Nat},1≤k→k+cs.length≤4→(∀c∈cs,Bd c 1)→(∀p∈qV a k cs,agL d p)∧
  (∀p∈xU (iR a) k cs,IT 2 p)∧(xU (iR a) k cs).flatMap (fl 2)=(qV a k cs).map FP.v∧(qV a k cs).length≤2*cs.length∧(xU (iR a) k cs).length=cs.length:=by
 induction cs with
 |nil=>exact fun _ _ _=>⟨fun p hp=>(by cases hp),fun p hp=>(by cases hp),rfl,Nat.le_refl _,rfl⟩
 |cons c cs ih=>
  intro k k1 hk h
  replace hk:k+(cs.length+1)≤4:=hk
  refine iJ fun gG gH=>?_
  refine XT (ih (k:=k+1) (by lia) (by lia) fun c hc=>h c (.tail _ hc)) fun h1 h2 h3 h4 h5=>?_
  refine aG (agK (a:=a) (c:=c) k1) fun g1 g2=>?_
  refine gH ?_
  refine ⟨fun p hp=>?_,fun p hp=>?_,?_,?_,congrArg (· +1) h5⟩
  ·cases List.mem_append.mp (show p∈JV a k c++qV a (k+1) cs from hp) with
   |inl hp=>exact agM ha k1 (by lia) (h c (.head _)) hb p hp
   |inr hp=>exact h1 p hp
  ·cases hp with
   |head=>exact g1
   |tail _ hp=>exact h2 p hp
  ·refine (?_:fl 2 (pk (iR a) c k)++(xU (iR a) (k+1) cs).flatMap (fl 2)=(JV a k c++qV a (k+1) cs).map FP.v)
   rw [g2,h3,List.map_append]
  ·refine (?_:(JV a k c++qV a (k+1) cs).length≤2*(cs.length+1))
   have:=VS (a:=a) (k:=k) (c:=c)
   rw [List.length_append];lia
theorem nE (a:Rat)(k:Nat)(c:Rat):(qJ a k c).length≤1:=by
 unfold qJ
 exact SL (a:=a) (k:=k) (c:=c) (fun c0=>(if_pos c0).symm▸Nat.zero_le 1) (fun c0 s=>(if_neg c0).symm▸(if_pos s).symm▸Nat.le_refl 1) fun c0 s=>(if_neg c0).symm▸(if_neg s).symm▸Nat.le_refl 1
theorem agN {l m n:List V}(a:l.length≤1)(b:m.length≤1)(c:n.length≤1):(l++(m++n)).length≤3:=by rw [List.length_append,List.length_append];lia
theorem OZ (a c1 c2 c3:Rat):(qD a c1 c2 c3).length≤3:=by
 unfold qD
 by_cases s:tO a 1 c1
 ·exact (if_pos s).symm▸agN (nE _ _ _) (nE _ _ _) (nE _ _ _)
 ·exact (if_neg s).symm▸agN (nE _ _ _) (nE _ _ _) (nE _ _ _)
theorem abU {a:Rat}(ha:a∈rJ)(hb:Bd a 1){c0:Rat}{cs:List Rat}(hn:cs.length≤3)(h:∀c∈c0::cs,Bd c 1){d:Nat}:Cn (d+32) 75 [.v (.lst (xU (iR a) 0 (c0::cs)))]=some (fW a (c0::cs),.un):=by
 refine XT (VT (d:=d+29) ha hb (cs:=cs) (k:=1) (Nat.le_refl _) (by lia) fun c hc=>h c (.tail _ hc)) fun h1 h2 h3 h4 h5=>?_
 have hm:=VQ ha (c0:=c0) hn
 have hd:iI (kX (⟨c0,eD,nv c0⟩::qV a 1 cs)) eD=jS a 1 cs:=by refine (Eq.symm hm)▸?_;rfl
 have hl:(dG (kX (⟨c0,eD,nv c0⟩::qV a 1 cs)) eD).getD 0=tP a 1 cs c0:=by refine (Eq.symm hm)▸?_;rfl
 have hN:tP a 1 cs c0=c0+hU a 1 (cs.getD 0 0):=by
  cases cs with
  |nil=>exact (Rat.add_zero c0).symm.trans (congrArg (c0+ ·) (show 0=hU a 1 0 from (if_pos rfl).symm))
  |cons b cs=>exact VR (a:=a) (cs:=cs) (k:=2) (N:=c0+hU a 1 b) (Nat.le_refl 2)
 refine (abT (d:=d+28) (L:=⟨c0,eD,nv c0⟩::qV a 1 cs) (out:=qD a (cs.getD 0 0) (cs.getD 1 0) (cs.getD 2 0)) ⟨?_,?_,?_,?_,?_,?_,?_⟩).trans ?_
 ·refine (abN (d:=d+29) (by decide) ?_ ?_).trans ?_
  ·intro p hp
   cases hp with
   |head=>exact agI c0 (by decide)
   |tail _ hp=>exact h2 p hp
  ·exact (show (xU (iR a) 1 cs).length+1≤10 by rw [h5];lia)
  ·exact congrArg (fun l=>some (V.lst (nv c0::l),aF.un)) h3
 ·refine (Eq.symm List.length_cons)▸?_;lia
 ·intro p hp
  cases hp with
  |head=>exact ⟨xM (d:=d+29),rfl,h c0 (.head _)⟩
  |tail _ hp=>exact h1 p hp
 ·refine (Eq.symm hd)▸?_;exact DC ha (Nat.le_refl _) (by lia)
 ·refine (Eq.symm hd)▸?_;refine (Eq.symm (vQ hn))▸?_
  intro x hx
  rcases List.mem_append.mp hx with hx|hx
  ·rcases List.mem_append.mp hx with hx|hx<;>exact FV x hx
  ·exact FV x hx
 ·refine (Eq.symm hd)▸?_;refine (Eq.symm (vQ hn))▸?_
  exact OX ha (d:=d)
 ·have:=OZ a (cs.getD 0 0) (cs.getD 1 0) (cs.getD 2 0);lia
 ·refine (Eq.symm hl)▸?_;refine (Eq.symm hN)▸?_;rfl
theorem vR {A:V}{cs:List Rat}:∀{k:Nat},(gQ A k cs).length=cs.length:=by
 induction cs with
 |nil=>exact rfl
 |cons c cs ih=>exact congrArg (· +1) ih
theorem IZ {A:V}(hA:A∈rO){d:Nat}{s1 s2 s3:aF}{cs:List Rat}:∀{k:Nat},k+cs.length≤4→(∀c∈cs,Bd c 1)→BH (tN (Cn (d+30)) 1 [] (.call 79 [.var 3]) [s1,s2,s3]) (gQ A k cs)=some (xU A k cs):=by
 induction cs with
 |nil=>exact fun _ _=>rfl
 |cons c cs ih=>
  intro k hk h
  replace hk:k+(cs.length+1)≤4:=hk
  exact zY (xR (aU (fS fun _=>rfl) (vP hA (by lia) ((h c (.head _)).sm (by decide))))) (ih (by lia) fun c hc=>h c (.tail _ hc))
theorem AC {a:Rat}(ha:a∈rJ)(hb:Bd a 1){cs:List Rat}(hn:cs.length≤4)(h:∀c∈cs,Bd c 1){d:Nat}:Cn (d+40) 79 [.v (.tup [.str 2,.tup (gQ (iR a) 0 cs)])]=some (fW a cs,.un):=by
 cases cs with
 |nil=>
  have:fW a []=nv 0:=by
   have e:qD a 0 0 0=[]:=by unfold qD;rw [jT,jT,jT];split<;>rfl
   have n:hU a 1 0=0:=by unfold hU;rw [if_pos rfl]
   rw [fW,List.getD_nil,List.getD_nil,List.getD_nil,List.getD_nil,e,n,if_neg (by rw [Rat.add_zero];exact not_not_intro rfl)];rfl
  refine (Eq.symm this)▸?_
  exact cO (d:=d+39) (by kernel_rfl)
 |cons c0 cs=>
  have hl:(gQ (iR a) 0 (c0::cs)).length≤1000:=vR▸Nat.le_trans hn (by decide)
  refine (NN.2 (Cn (d+39)) _).symm.trans ((pW (b:=cR.body.drop 6) zZ.2).trans ?_)
  exact gP (cG (qB (l:=gQ (iR a) 0 (c0::cs)) rfl (CU (v:=.tup (gQ (iR a) 0 (c0::cs))) (fun _=>rfl) rfl) (IZ (sC ha) (d:=d+9) (k:=0) (by lia) h) hl rfl) rfl)<|
   xJ (fun _=>rfl) fun κ=>dH (r:=[]) (κ:=κ) (q:=aC false) (ρ1:=[.v (.tup [.str 2,.tup (gQ (iR a) 0 (c0::cs))]),.v (.str 2),.v (.lst (xU (iR a) 0 (c0::cs)))]) (aU (fS fun _=>rfl) (abU (d:=d+7) ha hb (Nat.le_of_succ_le_succ hn) h))
noncomputable def mB:List Rat:=[-2, -1,mkRat (-1) 2,0,mkRat 1 2,1,2]
noncomputable def pw (a:Rat)(k j:Nat):Rat:=(([[1],[a,1],[a*a,2*a,1],[a*a*a,3*(a*a),3*a,1]]:List (List Rat)).getD k []).getD j 0
theorem FW {α:Rat}{t k:Nat}(h:t<k):pw α t k=0:=by
 have get:∀(l:List Rat),l.length≤k→l.getD k 0=0:=fun l hl=>by rw [List.getD_eq_getElem?_getD,List.getElem?_eq_none hl];rfl
 match t,h with
 |0,h=>exact get [1] h
 |1,h=>exact get [α,1] h
 |2,h=>exact get [α*α,2*α,1] h
 |3,h=>exact get [α*α*α,3*(α*α),3*α,1] h
 |t+4,_=>rfl
noncomputable def cfs:List Rat:=[-2, -1,1,2]
noncomputable def PA (a:Rat):V:=.tup [.str 17,.tup [.int 0,.lst [qv a,.tup [.int 1,.int 1]]]]
noncomputable def abV (v:V)(f:List V→Bool):Bool:=match v with
 |.tup l=>f l
 |_=>false
noncomputable def VU (v:V)(f:Int→Bool):Bool:=match v with
 |.int i=>f i
 |_=>false
noncomputable def agO (v:V)(f:List V→Bool):Bool:=match v with
 |.lst l=>f l
 |_=>false
noncomputable def c2B (l:List V)(f:V→V→Bool):Bool:=match l with
 |[]=>false
 |a::l=>match l with
  |[]=>false
  |b::l=>match l with
   |[]=>f a b
   |_::_=>false
theorem PB {v:V}{f:List V→Bool}(h:abV v f=true):∃l,v=.tup l∧f l=true:=by
 cases v with
 |tup l=>exact ⟨l,rfl,h⟩
 |_=>exact (Bool.false_ne_true h).elim
theorem DD {v:V}{f:Int→Bool}(h:VU v f=true):∃l,v=.int l∧f l=true:=by
 cases v with
 |int l=>exact ⟨l,rfl,h⟩
 |_=>exact (Bool.false_ne_true h).elim
theorem abW {v:V}{f:List V→Bool}(h:agO v f=true):∃l,v=.lst l∧f l=true:=by
 cases v with
 |lst l=>exact ⟨l,rfl,h⟩
 |_=>exact (Bool.false_ne_true h).elim
theorem YU {l:List V}{f:V→V→Bool}(h:c2B l f=true):∃a b,l=[a,b]∧f a b=true:=by
 cases l with
 |nil=>exact (Bool.false_ne_true h).elim
 |cons a l=>cases l with
  |nil=>exact (Bool.false_ne_true h).elim
  |cons b l=>cases l with
   |nil=>exact bW a b ⟨rfl,h⟩
   |cons _ _=>exact (Bool.false_ne_true h).elim
noncomputable def q2B (v:V)(f:Int→Int→Bool):Bool:=abV v fun l=>c2B l fun a b=>VU a fun i=>VU b fun j=>f i j
theorem YV {v:V}{f:Int→Int→Bool}(h:q2B v f=true):∃i j,v=.tup [.int i,.int j]∧f i j=true:=by
 refine aD (PB h) fun l e h=>?_
 refine dI (YU h) fun a b e2 h=>?_
 refine aD (DD h) fun i e3 h=>?_
 refine aD (DD h) fun j e4 h=>?_
 exact bW i j ⟨by rw [e,e2,e3,e4],h⟩
noncomputable def isQ (v:V):Bool:=q2B v fun _ _=>true
noncomputable def nG:V:=.tup [.int 0,.int 1]
noncomputable def isR (v:V)(r:Rat):Bool:=q2B v fun i j=>decide (i=r.num) && decide (j=r.den)
noncomputable def abX (l:List V)(m:List Rat):Bool:=List.rec (motive:=fun _=>List Rat→Bool) (fun m=>m.isEmpty) (fun v _ ih m=>match m with
 |[]=>false
 |r::m=>isR v r && ih m) l m
theorem abY {v:V}{r:Rat}(h:isR v r=true):v=qv r:=by
 refine dI (YV h) fun i j e h=>?_
 refine aG (iQ h) fun h1 h2=>?_
 rw [e,of_decide_eq_true h1,of_decide_eq_true h2];rfl
theorem VV {l:List V}:∀{m:List Rat},abX l m=true→l=m.map qv:=by
 induction l with
 |nil=>intro m h;cases m with
  |nil=>rfl
  |cons r m=>cases h
 |cons v l ih=>intro m h;cases m with
  |nil=>cases h
  |cons r m=>
   refine aG (iQ (show (isR v r && abX l m)=true from h)) fun h1 h2=>?_
   refine (Eq.symm (abY h1))▸?_;refine (Eq.symm (ih h2))▸?_;rfl
noncomputable def PC (v:V)(n:Nat)(f:Nat→Rat):Bool:=abV v fun l=>c2B l fun a b=>VU a fun i=>agO b fun m=>decide (.ofNat i.toNat=i) && (m.all isQ && (Nat.ble n (i.toNat+m.length) && (Nat.ble (i.toNat+m.length) 20 && abX ((List.replicate i.toNat nG++m).take n) ((List.range n).map f))))
noncomputable def okR (o:Option (V×aF))(f:V→Bool):Bool:=match o with
 |some r=>match r.2 with
  |.un=>f r.1
  |_=>false
 |none=>false
theorem agP {o:Option (V×aF)}{f:V→Bool}(h:okR o f=true):∃v,o=some (v,.un)∧f v=true:=by
 cases o with
 |none=>exact (Bool.false_ne_true h).elim
 |some r=>cases r with
  |mk v s=>cases s with
   |un=>exact ⟨v,rfl,h⟩
   |_=>exact (Bool.false_ne_true h).elim
noncomputable def tR (d n:Nat):Bool:=mB.all fun a=>cfs.all fun c=>k3.all fun k=>okR (aX (d+20) 42 [.v (wn c (rk sx k)),.v (.int n),.v (PA a)]) fun v=>PC v n fun j=>c*pw a k j
theorem agQ (d:Nat):tR d 3=true:=by kernel_rfl
theorem agR (d:Nat):tR d 4=true:=by kernel_rfl
theorem agS (d:Nat):tR d 5=true:=by kernel_rfl
theorem agT (d:Nat):tR d 6=true:=by kernel_rfl
structure mD (v:V)(n:Nat)(f:Nat→Rat):Prop where
 ex:∃low m,v=.tup [.int (.ofNat low),.lst m]∧(∀x∈m,∃i j,x=.tup [.int i,.int j])∧n≤low+m.length∧low+m.length≤20∧(List.replicate low nG++m).take n=(List.range n).map fun j=>qv (f j)
theorem abZ {x:V}(h:isQ x=true):∃i j,x=.tup [.int i,.int j]:=dI (YV h) fun _ _ e _=>bW _ _ e
theorem VW {v:V}{n:Nat}{f:Nat→Rat}(h:PC v n f=true):mD v n f:=by
 refine aD (PB h) fun l e h=>?_
 refine dI (YU h) fun a b e2 h=>?_
 refine aD (DD h) fun i e3 h=>?_
 refine aD (abW h) fun m e4 h=>?_
 refine aG (iQ h) fun h0 h=>?_
 refine aG (iQ h) fun h1 h=>?_
 refine aG (iQ h) fun h2 h=>?_
 refine aG (iQ h) fun h3 h4=>?_
 exact ⟨i.toNat,m,by rw [e,e2,e3,e4,of_decide_eq_true h0],fun x hx=>abZ (List.all_eq_true.mp h1 x hx),Nat.le_of_ble_eq_true h2,Nat.le_of_ble_eq_true h3,(VV h4).trans List.map_map⟩
theorem aqD {a c:Rat}{k n:Nat}(ha:a∈mB)(hc:c∈cfs)(hk:k=1∨k=2∨k=3)(hn:n=3∨n=4∨n=5∨n=6){d:Nat}:∃v,Cn (d+21) 42 [.v (wn c (rk sx k)),.v (.int n),.v (PA a)]=some (v,.un)∧mD v n fun j=>c*pw a k j:=by
 have h:tR d n=true:=by
  rcases hn with rfl|rfl|rfl|rfl
  ·exact agQ d
  ·exact agR d
  ·exact agS d
  ·exact agT d
 refine aD (agP (List.all_eq_true.mp (List.all_eq_true.mp (List.all_eq_true.mp h a ha) c hc) k (CZ (by lia) (by lia)))) fun v e h=>?_
 exact ⟨v,cO e,VW h⟩
theorem PD {g:V→Option (Option V)}{r:Nat→V}(j:Nat):∀i,(∀t,i≤t→t<i+j→g (.int (.ofNat t))=some (some (r t)))→BH g (upTo j (.ofNat i))=some ((List.range' i j).map r):=by
 induction j with
 |zero=>exact fun _ _=>rfl
 |succ j ih=>exact fun i h=>zY (l:=upTo j (.ofNat (i+1))) (h i (Nat.le_refl _) (by lia)) (ih (i+1) fun t h1 h2=>h t (by lia) (by lia))
noncomputable def qL (n:Nat)(f:Nat→Rat):List V:=(List.range n).map fun j=>qv (f j)
theorem oY {n:Nat}{f:Nat→Rat}:(qL n f).length=n:=by rw [qL,List.length_map,List.length_range]
theorem DE {n:Nat}{f:Nat→Rat}{j:Nat}(h:j<n):(qL n f)[j]? =some (qv (f j)):=by
 rw [qL,List.getElem?_map,List.getElem?_range h];rfl
theorem gY {β:Type}{l:List V}{t:Nat}{x:V}{k:V→Option β}(h:l[t]? =some x)(ht:t≤1000):sP (.lst l) (.int (.ofNat t)) k=k x:=by
 refine (?_:cond (Nat.ble t 1000) ((HA l t).bind k) none=_)
 rw [eN ht,pK,h];rfl
theorem qE {i j:Nat}(h:j≤i):Nat.blt i j=false:=by
 cases e:Nat.blt i j
 ·rfl
 ·rw [Nat.blt_eq] at e;lia
theorem sD {β:Type}{n:Nat}(h:n<1000){k:List V→Option β}:BI 0 (.ofNat n) k=k (upTo n 0):=by
 refine (?_:cond (Nat.blt n 1000) (cond true (cond true (cond true (k (upTo (Int.toNat (Int.sub (.ofNat n) 0)) 0)) none) none) none) none=_)
 refine (Eq.symm (Nat.blt_eq.mpr h))▸?_
 refine (Eq.symm (show Int.sub (.ofNat n) 0=.ofNat n from Int.sub_zero (.ofNat n)))▸?_;rfl
section
variable {C:CF}{β:Type}{a b e:E}{ρ ρ1 ρ2:Fm}{x y z:V}{n low:Nat}
theorem PE {o:B2}(h:Ev C β a ρ x ρ1)(g:Ev C β b ρ1 y ρ2)(w:∀K:V→Option β,EL o x y K=K z):Ev C β (.bi2 o a b) ρ z ρ2:=fun _=>(h _).trans ((g _).trans (w _))
theorem YW {i j:Int}(h:pF j i=false)(K:V→Option β):EL .min (.int i) (.int j) K=K (.int i):=congrArg (fun t=>K (cond t (.int j) (.int i))) h
theorem VX (h:Ev C β e ρ (.int (.ofNat n)) ρ1)(hn:n<1000)(K:List V→Fm→Option β):jW C glb (.rng1 e) β ρ K=K (upTo n 0) ρ1:=(h _).trans (sD hn)
theorem PF (h:low≤20)(K:V→Option β):KF (.lst [nG]) (.int (.ofNat low)) K=K (.lst (List.replicate low nG)):=
 congrArg (cond · (cond true (K (.lst (List.replicate low nG))) none) none) (Nat.blt_eq.mpr (by lia:low<1000))
theorem PG {l m:List V}(h:l.length+m.length≤20)(K:V→Option β):KD (.lst l) (.lst m) K=K (.lst (l++m)):=congrArg (cond · _ none) (eN (Nat.le_trans h (by decide)))
end
theorem ab0 {d n:Nat}{m:List V}{F f:Nat→Rat}(hm:m.take n=qL n f)(hn:n≤20)(hl:m.length≤20)(hs:∀j,j<n→Sm (F j)∧Sm (f j)):
  Cn (d+4) 22 [.v (.lst (qL n F)),.v (.lst m)]=some (.lst (qL n fun j=>F j+f j),.un):=by
 have hnm:n≤m.length:=by
  have:=congrArg List.length hm
  rw [List.length_take,oY] at this;lia
 have hg:∀j,j<n→m[j]? =some (qv (f j)):=fun j hj=>((List.getElem?_take_of_lt hj).symm.trans (congrArg (·[j]?) hm)).trans (DE hj)
 refine (aaV.2 (Cn (d+3)) _ _).symm.trans (dH (r:=[]) (ρ1:=[.v (.lst (qL n F)),.v (.lst m)]) (κ:=aC false .none) (q:=aC false) ?_)
 refine qB (l:=upTo n 0) (ρ1:=[.v (.lst (qL n F)),.v (.lst m)]) rfl (VX (PE (x:=.int (.ofNat n)) (y:=.int (.ofNat m.length)) (lZ (x:=.lst (qL n F)) (fun _=>rfl) fun K=>(rI (by rw [oY];lia) K).trans (congrArg (fun n=>K (.int (.ofNat n))) oY)) (lZ (x:=.lst m) (fun _=>rfl) (rI (by lia))) (YW (qE hnm))) (by lia))
  ((PD (r:=fun j=>qv (F j+f j)) n 0 fun t _ h2=>xR (ρ2:=[.v (.lst (qL n F)),.v (.lst m),.v (.int (.ofNat t))]) ?_).trans (congrArg (fun l=>some (l.map fun j=>qv (F j+f j))) List.range_eq_range'.symm)) (by rw [tE];lia) rfl
 exact aU (cB (qR (x:=.lst (qL n F)) (y:=.int (.ofNat t)) (fun _=>rfl) (fun _=>rfl) fun K=>gY (DE (by lia)) (by lia)) (qR (x:=.lst m) (y:=.int (.ofNat t)) (fun _=>rfl) (fun _=>rfl) fun K=>gY (hg t (by lia)) (by lia))) (NW (hs t (by lia)).1 (hs t (by lia)).2)
theorem AD {d low:Nat}{m:List V}(h:low+m.length≤20):Cn (d+2) 32 [.v (.tup [.int (.ofNat low),.lst m]),.v (.int 0)]=some (.tup [.int 0,.lst (List.replicate low nG++m)],.un):=
 (aaW.2 (Cn (d+1)) _ _).symm.trans<|dH (r:=[]) (ρ1:=[.v (.tup [.int (.ofNat low),.lst m]),.v (.int 0)]) (κ:=aC false .none) (q:=aC false)<|
  hK (cB (fun _=>rfl) (fK (y:=.lst m) (fK (tK (fS (x:=nG) fun _=>rfl)) (oV (i:=.ofNat low) (j:=0) (fun _=>rfl) (fun _=>rfl)) fun K=>(congrArg (fun i=>KF (.lst [nG]) (.int i) K) (Int.sub_zero (.ofNat low))).trans (PF (by lia) K)) (fun _=>rfl) (PG (by rw [List.length_replicate];exact h))))
theorem ab1 {d n:Nat}{v:V}{F f:Nat→Rat}(hv:mD v n f)(hn:n≤20)(hs:∀j,j<n→Sm (F j)∧Sm (f j)):
  Cn (d+5) 33 [.v (.tup [.int 0,.lst (qL n F)]),.v v]=some (.tup [.int 0,.lst (qL n fun j=>F j+f j)],.un):=
 mF hv.ex fun low m e h1 h2 h3 h4=>e▸
 (aaX.2 (Cn (d+4)) _ _).symm.trans (gP (s:=dP mK.body 0) (ρ1:=[.v (.tup [.int 0,.lst (qL n F)]),.v (.tup [.int (.ofNat low),.lst m]),.v (.int 0)]) (cG (PE (x:=.int 0) (y:=.int (.ofNat low)) (fun _=>rfl) (fun _=>rfl) (YW (qE (Nat.zero_le low)))) rfl)<|
  dH (r:=[]) (ρ1:=[.v (.tup [.int 0,.lst (qL n F)]),.v (.tup [.int (.ofNat low),.lst m]),.v (.int 0)]) (κ:=aC false .none) (q:=aC false)<|
  hK (cB (fun _=>rfl) (aU (cB (CT (aU (cB (fun _=>rfl) fun _=>rfl) (AD (d:=d+2) (low:=0) (by rw [oY];lia))) fun _=>rfl) (CT (aU (cB (fun _=>rfl) fun _=>rfl) (AD (d:=d+2) h3)) fun _=>rfl)) (ab0 (d:=d) h4 hn (by rw [List.length_append,List.length_replicate];exact h3) hs))))
theorem mD.low0 {n:Nat}{f:Nat→Rat}(hn:n≤20):mD (.tup [.int 0,.lst (qL n f)]) n f:=by
 refine ⟨0,qL n f,rfl,?_,by refine (Eq.symm oY)▸?_;lia,by refine (Eq.symm oY)▸?_;lia,?_⟩
 ·intro x hx
  rw [qL,List.mem_map] at hx
  obtain ⟨j,_,rfl⟩:=hx
  exact (bW _ _ rfl)
 ·rw [List.replicate_zero,List.nil_append]
  exact List.take_of_length_le (by rw [oY];exact Nat.le_refl _)
noncomputable def cst (c:Rat)(j:Nat):Rat:=if j=0 then c else 0
theorem AE {c:Rat}{n d:Nat}{a:V}(hn:n=3∨n=4∨n=5∨n=6):Cn (d+21) 42 [.v (nv c),.v (.int n),.v a]=some (.tup [.int 0,.lst (qL n (cst c))],.un):=by
 have:∀p q:Int,aX (d+20) 42 [.v (oX p q),.v (.int 3),.v a]=some (.tup [.int 0,.lst [.tup [.int p,.int q],nG,nG]],.un)∧
   aX (d+20) 42 [.v (oX p q),.v (.int 4),.v a]=some (.tup [.int 0,.lst [.tup [.int p,.int q],nG,nG,nG]],.un)∧
   aX (d+20) 42 [.v (oX p q),.v (.int 5),.v a]=some (.tup [.int 0,.lst [.tup [.int p,.int q],nG,nG,nG,nG]],.un)∧
   aX (d+20) 42 [.v (oX p q),.v (.int 6),.v a]=some (.tup [.int 0,.lst [.tup [.int p,.int q],nG,nG,nG,nG,nG]],.un):=fun p q=>⟨by kernel_rfl,by kernel_rfl,by kernel_rfl,by kernel_rfl⟩
 refine yU (this c.num c.den) fun h3 h4 h5 h6=>?_
 rcases hn with rfl|rfl|rfl|rfl
 ·exact (cO h3).trans rfl
 ·exact (cO h4).trans rfl
 ·exact (cO h5).trans rfl
 ·exact (cO h6).trans rfl
theorem VY {n d:Nat}(hn:n=3∨n=4∨n=5∨n=6):Cn (d+21) 31 [.v nG,.v (.int n)]=some (.tup [.int 0,.lst (qL n fun _=>0)],.un):=by
 rcases hn with rfl|rfl|rfl|rfl
 ·exact cO (d:=d+20) (by kernel_rfl)
 ·exact cO (d:=d+20) (by kernel_rfl)
 ·exact cO (d:=d+20) (by kernel_rfl)
 ·exact cO (d:=d+20) (by kernel_rfl)
structure yT where
 v:V
 f:Nat→Rat
noncomputable def fT (t n a:V)(s3 s4 s5:aF):Fm:=[.v t,.v n,.v a,s3,s4,s5]
noncomputable def oT:List S:=gR.body
noncomputable def sT0 (L:List yT):V:=.tup [.str 2,.tup (L.map yT.v)]
theorem VZ {C:CF}{β:Type}{q:V→Fm→Option β}{vs:List V}{n a F F' v one:V}{s5:aF}(h42:C 42 [.v one,.v n,.v a]=some (v,.un))(h33:C 33 [.v F,.v v]=some (F',.un)):
  qQ C β q (rN (dP oT 6)) (fT (.tup [.str 2,.tup vs]) n a (.v F) (.v one) s5) (fT (.tup [.str 2,.tup vs]) n a (.v F') (.v one) (.v v)):=
 lH (cG (aU (fun _=>rfl) h42) rfl) (cG (fun _=>bB (bB h33 rfl) rfl) rfl)
noncomputable def ab3 (F:Nat→Rat)(p:yT)(j:Nat):Rat:=F j+p.f j
def aqE (L:List yT)(n:Nat)(a:V)(c:Nat)(F:Nat→Rat)(ρ:Fm):Prop:=(c≤8∧∀j,Bd (F j) (8 - c))∧∃s4 s5,ρ=fT (sT0 L) (.int n) a (.v (.tup [.int 0,.lst (qL n F)])) s4 s5
theorem PH {d n:Nat}{a:V}{L:List yT}(hn:n=3∨n=4∨n=5∨n=6)(hL:L.length≤8)(h:∀p∈L,(∀j,Bd (p.f j) 1)∧∃v,Cn (d+21) 42 [.v p.v,.v (.int n),.v a]=some (v,.un)∧mD v n p.f):
  Cn (d+22) 42 [.v (.tup [.str 2,.tup (L.map yT.v)]),.v (.int n),.v a]=some (.tup [.int 0,.lst (qL n (L.foldl (fun F p=>fun j=>F j+p.f j) fun _=>0))],.un):=
 aD (kP (C:=Cn (d+21)) (q:=aC false) (xs:=[4]) (sr:=.val (.subN (.var 0) 1)) (b:=rN (dP oT 6)) (ρ:=fT (sT0 L) (.int n) a (.v (.tup [.int 0,.lst (qL n fun _=>0)])) .un .un) (val:=yT.v) (L:=L) (s:=fun _=>(0:Rat)) (aqE L n a) ab3 6 rfl (fun _=>rfl) (fun _ _ _ g=>bD g.2 fun _ _ e=>e▸rfl) ⟨⟨hL,fun j=>Bd.zero _⟩,_,_,rfl⟩ fun p hp c F ρ g=>
  bD g.2 fun s4 s5 e1=>aD (h p hp).2 fun v e ht=>bW (fT (sT0 L) (.int n) a (.v (.tup [.int 0,.lst (qL n F)])) (.v p.v) s5) (fT (sT0 L) (.int n) a (.v (.tup [.int 0,.lst (qL n (ab3 F p))])) (.v p.v) (.v v)) (e1.symm▸⟨fun _=>rfl,⟨⟨Nat.le_of_succ_le g.1.1,fun j=>((g.1.2 j).add ((h p hp).1 j)).mono (pX g.1.1)⟩,_,_,rfl⟩,VZ (vs:=L.map yT.v) (s5:=s5) e (ab1 (d:=d+16) ht (by lia) fun j _=>⟨(g.1.2 j).sm (gX (by decide)),((h p hp).1 j).sm (by decide)⟩)⟩)) fun τ g e=>bD g.2 fun s4 s5 e1=>
 (aa0.2 (Cn (d+21)) _ _ _).symm.trans ((pW (a:=oT.take 7) (b:=[dP oT 7]) (ρ1:=fT (sT0 L) (.int n) a (.v (.tup [.int 0,.lst (qL n (L.foldl ab3 fun _=>0))])) s4 s5) (fF (fun _=>rfl) (fF (fun _=>rfl) (fF (fun _=>rfl) (fF (fun _=>rfl) (fF (fun _=>rfl) (lH (cG (aU (fun _=>rfl) (VY (d:=d) hn)) rfl) (e1▸e)))))))).trans rfl)
noncomputable def SM (x:V):Bool:= @decide (x=nG) (Classical.propDecidable _)
theorem FX {x:V}:SM x=true↔x=nG:= @decide_eq_true_iff _ (Classical.propDecidable _)
theorem WA {i j:Int}:SM (.tup [.int i,.int j])=(decide (i=0) && decide (j=1)):=by
 rw [Bool.eq_iff_iff,FX,Bool.and_eq_true,decide_eq_true_iff,decide_eq_true_iff]
 exact ⟨fun h=>by cases h;exact ⟨rfl,rfl⟩,fun ⟨a,b⟩=>by refine (Eq.symm a)▸?_;refine (Eq.symm b)▸?_;rfl⟩
noncomputable def tz:List V→Nat
 |[]=>0
 |x::r=>if SM x then tz r+1 else 0
theorem ab4 {x:V}{r:List V}(h:SM x=true):tz (x::r)=tz r+1:=if_pos h
theorem ab5 {x:V}{r:List V}(h:¬SM x=true):tz (x::r)=0:=if_neg h
theorem agV (m:List V):tz m≤m.length:=by
 induction m with
 |nil=>exact Nat.le_refl _
 |cons x r ih=>
  by_cases h:SM x=true
  ·exact (ab4 (r:=r) h).symm▸Nat.succ_le_succ ih
  ·exact (ab5 (r:=r) h).symm▸Nat.zero_le _
theorem WB (m:List V):m.take (tz m)=List.replicate (tz m) nG:=by
 induction m with
 |nil=>rfl
 |cons x r ih=>
  by_cases h:SM x=true
  ·refine (ab4 (r:=r) h).symm▸?_
   exact (congrArg (x:: ·) ih).trans (congrArg (· ::List.replicate (tz r) nG) (FX.mp h))
  ·exact (ab5 (r:=r) h).symm▸rfl
theorem PI {C:CF}{β:Type}{q:V→Fm→Option β}{s:aF}{κ:Fm→Option β}{m:List V}:∀{n low:Nat},(∀x∈m,∃i j,x=.tup [.int i,.int j])→m.length≤20→m.length<n→
  wM (wS C β q (.and [.cmp .gt (.bi1 .len (.var 2)) (.int 0),.cmp .eq (.subN (.var 2) 0) (.glob 0)]) [.unpE [1,2] [.e (.bin .add (.var 1) (.int 1)),.e (.slcLo (.var 2) (.int 1))]] 3) κ n [s,.v (.int (.ofNat low)),.v (.lst m)]=κ [s,.v (.int (.ofNat (low+tz m))),.v (.lst (m.drop (tz m)))]:=by
 induction m with
 |nil=>
  intro n low _ _ hn
  cases n with
  |zero=>exact absurd hn (Nat.lt_irrefl 0)
  |succ n=>exact YK (ρ1:=[s,.v (.int (.ofNat low)),.v (.lst [])]) rfl fun _=>rfl
 |cons x r ih=>
  intro n low hm hl hn
  cases n with
  |zero=>exact absurd hn (Nat.not_lt_zero _)
  |succ n=>
   replace hl:r.length+1≤20:=hl
   refine bD (hm x (.head _)) fun i j e=>?_
   have ht:Ev C β (.and [.cmp .gt (.bi1 .len (.var 2)) (.int 0),.cmp .eq (.subN (.var 2) 0) (.glob 0)]) [s,.v (.int (.ofNat low)),.v (.lst (x::r))] (.bool (SM x)) [s,.v (.int (.ofNat low)),.v (.lst (x::r))]:=
    FH (s:=true) (t:=SM x) rfl (bU (x:=.int (.ofNat (r.length+1))) (y:=.int 0) (lZ (x:=.lst (x::r)) (fun _=>rfl) (rI (show r.length+1≤1000 by lia))) (fun _=>rfl) fun _=>rfl)
     fun _=>bU (x:=x) (y:=nG) (fun _=>rfl) (fun _=>rfl) fun K=>by
      subst e
      exact (YN (k:=fun t=>K (.bool t))).trans (congrArg (fun t=>K (.bool t)) (by rw [hH,hH,WA]))
   by_cases h:SM x=true
   ·refine (ab4 (r:=r) h).symm▸?_
    refine (agA (ρ2:=[s,.v (.int (.ofNat (low+1))),.v (.lst r)]) rfl (h▸ht) (zS fun κ=>?_)).trans ((ih (fun y hy=>hm y (.tail _ hy)) (by lia) (Nat.lt_of_succ_lt_succ hn)).trans ?_)
    ·refine fE (i:=.ofNat low) (j:=1) (z:=.ofNat (low+1)) (fun _=>rfl) (fun _=>rfl) rfl _|>.trans ?_
     exact bB (show BF (.lst (x::r)) (.int 1)=some (.lst r) from if_pos ⟨by decide,Nat.le_trans (show r.length+1≤21 by lia) (by decide)⟩) rfl
    ·exact congrArg (fun n=>κ [s,.v (.int (.ofNat n)),.v (.lst (r.drop (tz r)))]) (show low+1+tz r=low+(tz r+1) by lia)
   ·refine (ab5 (r:=r) h).symm▸?_
    exact YK rfl ((Bool.eq_false_iff.mpr h)▸ht)
theorem FY {d low:Nat}{m:List V}(hm:∀x∈m,∃i j,x=.tup [.int i,.int j])(hl:m.length≤20):Cn (d+2) 35 [.v (.tup [.int (.ofNat low),.lst m])]=some (.tup [.int (.ofNat (low+tz m)),.lst (m.drop (tz m))],.un):=
 (aaY.2 (Cn (d+1)) _).symm.trans<|gP (s:=dP iX.body 0) (ρ1:=[.v (.tup [.int (.ofNat low),.lst m]),.v (.int (.ofNat low)),.v (.lst m)]) (fun _=>rfl)<|
  gP (s:=dP iX.body 1) (abD rfl (fun κ=>PI hm hl (by lia)) rfl) rfl
theorem AF (low:Nat)(m:List V):List.replicate (low+tz m) nG++m.drop (tz m)=List.replicate low nG++m:=by
 rw [←List.replicate_append_replicate,List.append_assoc, ←WB,List.take_append_drop]
section
variable {C:CF}{β:Type}{a b:E}{ρ ρ1 ρ2:Fm}{x y z:V}{i j:Int}{q:V→Fm→Option β}{κ:Fm→Option β}
theorem PJ {t:Bool}(h:pF i j=t)(K:V→Option β):bQ .lt (.int i) (.int j) K=K (.bool t):=congrArg (fun t=>K (.bool t)) h
theorem PK {t:Bool}(h:pF i j=t)(K:V→Option β):bQ .ge (.int i) (.int j) K=K (.bool (not t)):=congrArg (fun t=>K (.bool (not t))) h
theorem agW (h:pF i j=false)(K:V→Option β):EL .max (.int i) (.int j) K=K (.int i):=congrArg (fun t=>K (cond t (.int j) (.int i))) h
theorem PL (h:Ev C β a ρ x ρ1)(g:Ev C β b ρ1 y ρ2)(w:nT x y=some z):Ev C β (.slcHi a b) ρ z ρ2:=fun _=>(h _).trans ((g _).trans (bB w rfl))
theorem ab6 {A r:List S}{w:Option β}(h:Ev C β a ρ (.bool true) ρ1)(g:∀κ:Fm→Option β,aW C glb A β ρ1 κ q=w):aW C glb (.whl a A::r) β ρ κ q=w:=(jC rfl).trans ((h _).trans (g _))
end
theorem ab7 {d n e:Nat}{v:V}{f:Nat→Rat}(hv:mD v n f)(he:e≤n):Cn (d+3) 38 [.v v,.v (.int (.ofNat e))]=some (.lst (qL e f),.un):=by
 refine iJ fun gG gH=>?_
 refine mF hv.ex fun low m e0 h1 h2 h3 h4=>?_
 have hd:(m.drop (tz m)).length=m.length - tz m:=List.length_drop
 have ht:=agV m
 have h9:nT (.lst (List.replicate (low+tz m) nG++m.drop (tz m))) (.int (.ofNat e))=some (.lst (qL e f)):=by
  rw [AF]
  refine (if_pos ⟨Int.natCast_nonneg e,?_⟩).trans ?_
  rotate_left
  ·rw [List.length_append,List.length_replicate];exact Nat.le_trans h3 (by decide)
  ·rw [show (Int.ofNat e).toNat=e from rfl,show e=min e n by lia, ←List.take_take,h4,qL, ←List.map_take,List.take_range]
 have hl:∀{β:Type},Ev (Cn (d+2)) β (.bi1 .len (.var 3)) [.v v,.v (.int (.ofNat e)),.v (.int (.ofNat (low+tz m))),.v (.lst (m.drop (tz m)))] (.int (.ofNat (m.drop (tz m)).length)) [.v v,.v (.int (.ofNat e)),.v (.int (.ofNat (low+tz m))),.v (.lst (m.drop (tz m)))]:=fun {_}=>lZ (x:=.lst (m.drop (tz m))) (fun _=>rfl) (rI (by lia))
 have c1:Ev (Cn (d+2)) (V×aF) (.and [.cmp .gt (.bi1 .len (.var 3)) (.int 0),.cmp .lt (.var 2) (.int 0)]) [.v v,.v (.int (.ofNat e)),.v (.int (.ofNat (low+tz m))),.v (.lst (m.drop (tz m)))] (.bool (pF 0 (.ofNat (m.drop (tz m)).length) && false)) [.v v,.v (.int (.ofNat e)),.v (.int (.ofNat (low+tz m))),.v (.lst (m.drop (tz m)))]:=
  FH (t:=false) rfl (bU (y:=.int 0) hl (fun _=>rfl) fun _=>rfl) fun _=>bU (x:=.int (.ofNat (low+tz m))) (y:=.int 0) (fun _=>rfl) (fun _=>rfl) (PJ (qE (Nat.zero_le _)))
 rw [Bool.and_false] at c1
 refine gH ((aaZ.2 (Cn (d+2)) _ _).symm.trans (gP (xS (aU (fS fun _=>rfl) (e0▸FY (d:=d) h1 (show m.length≤20 by lia))) rfl) (gP (pV c1 kI) (gP (pV (bU (x:=.int (.ofNat (low+m.length))) (y:=.int (.ofNat e)) (fE (i:=.ofNat (low+tz m)) (fun _=>rfl) hl (congrArg Int.ofNat (show low+tz m+(m.drop (tz m)).length=low+m.length by lia))) (fun _=>rfl) (PJ (qE (by lia)))) kI)
  (dH (r:=[]) (κ:=aC false .none) (q:=aC false) (ρ1:=[.v v,.v (.int (.ofNat e)),.v (.int (.ofNat (low+tz m))),.v (.lst (m.drop (tz m)))]) (jR (t:=true) rfl (bU (x:=.int (.ofNat (low+tz m))) (y:=.int 0) (fun _=>rfl) (fun _=>rfl) (PK (t:=false) (qE (Nat.zero_le _)))) (PL (y:=.int (.ofNat e)) (fK (y:=.lst (m.drop (tz m))) (fK (y:=.int (.ofNat (low+tz m))) (tK (fS (x:=nG) fun _=>rfl)) (fun _=>rfl) (PF (by lia))) (fun _=>rfl) (PG (by rw [List.length_replicate];lia))) (fun _=>rfl) h9)))))))
theorem vS {d e:Nat}{t a v:V}{f:Nat→Rat}(he:1≤e)(he':e≤10)(hv:mD v (e+2) f)(hc:Cn (d+1) 42 [.v t,.v (.int (.ofNat (e+2))),.v a]=some (v,.un)):Cn (d+2) 43 [.v t,.v a,.v (.int (.ofNat e))]=some (v,.un):=by
 refine iJ fun gG gH=>?_
 refine mF hv.ex fun low m e0 h1 h2 h3 h4=>?_
 subst e0
 refine gH ((aa1.2 (Cn (d+1)) _ _ _).symm.trans (gP (s:=dP dJ.body 0) (ρ1:=[.v t,.v a,.v (.int (.ofNat e)),.v (.int 2),.un,.un]) (fun _=>rfl) (ab6 (fun _=>rfl) fun κ=>
  (gP (r:=[.ite (.cmp .ge (.bin .add (.subN (.var 4) 0) (.bi1 .len (.subN (.var 4) 1))) (.var 2)) [.ret (.var 4)] []]) (cG (aU (tJ (fun _=>rfl) (cB (fE (i:=.ofNat e) (j:=2) (PE (x:=.int (.ofNat e)) (y:=.int 1) (fun _=>rfl) (fun _=>rfl) (agW (qE he))) (fun _=>rfl) rfl) fun _=>rfl)) hc) rfl)
   (xJ (bU (x:=.int (.ofNat (low+m.length))) (y:=.int (.ofNat e)) (fE (i:=.ofNat low) (j:=.ofNat m.length) (fun _=>rfl) (lZ (x:=.lst m) (fun _=>rfl) (rI (by lia))) rfl) (fun _=>rfl) (PK (t:=false) (qE (by lia)))) fun κ=>dH (r:=[]) (κ:=κ) (q:=aC false) (ρ1:=[.v t,.v a,.v (.int (.ofNat e)),.v (.int 2),.v (.tup [.int (.ofNat low),.lst m]),.un]) fun _=>rfl)))))
theorem PM {d e:Nat}{t v:V}{a:Rat}{f:Nat→Rat}(he:1≤e)(he':e≤10)(hv:mD v (e+2) f)(hc:Cn (d+2) 42 [.v t,.v (.int (.ofNat (e+2))),.v (PA a)]=some (v,.un)):Cn (d+4) 44 [.v t,.v (.str 17),.v (qv a),.v (.int (.ofNat e))]=some (.lst (qL e f),.un):=
 (aa2.2 (Cn (d+3)) _ _ _ _).symm.trans (gP (s:=dP eB.body 0) (ρ1:=[.v t,.v (.str 17),.v (qv a),.v (.int (.ofNat e)),.v (.lst (qL e f))]) (cG (fun _=>bB (vS he he' hv hc) (bB (ab7 (d:=d) hv (by lia)) rfl)) rfl) rfl)
theorem sE {α:Rat}(h:α∈mB): -α∈rJ∧Bd (-α) 1:=by
 have:∀α∈mB, -α∈rJ:=by decide+kernel
 refine ⟨this α h,?_⟩
 simp only [mB,List.mem_cons,List.not_mem_nil,or_false] at h
 rcases h with rfl|rfl|rfl|rfl|rfl|rfl|rfl
 ·exact ⟨128,by decide+kernel,by decide⟩
 ·exact ⟨64,by decide+kernel,by decide⟩
 ·exact ⟨32,by decide+kernel,by decide⟩
 ·exact ⟨0,by decide+kernel,by decide⟩
 ·exact ⟨-32,by decide+kernel,by decide⟩
 ·exact ⟨-64,by decide+kernel,by decide⟩
 ·exact ⟨-128,by decide+kernel,by decide⟩
theorem WC {α:Rat}(h:α∈mB){d:Nat}:Cn (d+31) 79 [.v (.tup [.str 2,.tup [sx,.tup [.str 3,.tup [.tup [.str 0,.int (-1),.int 1],nv α]]]])]=some (iR (-α),.un):=by
 refine cO (d:=d+30) ?_
 simp only [mB,List.mem_cons,List.not_mem_nil,or_false] at h
 rcases h with rfl|rfl|rfl|rfl|rfl|rfl|rfl<;>kernel_rfl
theorem FZ {n:Nat}{f:Nat→Rat}:lW 0 (qL n f)=(List.range n).map fun k=>.tup [.int (.ofNat k),qv (f k)]:=by
 have:∀(n i:Nat),lW (.ofNat i) ((List.range' i n).map fun j=>qv (f j))=(List.range' i n).map fun k=>.tup [.int (.ofNat k),qv (f k)]:=by
  intro n
  induction n with
  |zero=>intro i;rfl
  |succ n ih=>intro i;exact congrArg _ (ih (i+1))
 have h:=this n 0
 rw [←List.range_eq_range'] at h
 exact h
theorem DF {d:Nat}{r:Rat}(hr:Sm r):Cn (d+3) 50 [.v (.int r.num),.v (.int r.den)]=some (nv r,.un):=by
 refine (show aa5.1 (Cn (d+2)) _ _=_ from ?_)
 exact hM (YM (d:=d) hr) rfl
theorem vT {A:V}{f:Nat→Rat}:∀(n i:Nat),gQ A i ((List.range' i n).map f)=(List.range' i n).map fun k=>mono A (f k) k
 |0,_=>rfl
 |n+1,i=>congrArg _ (vT n (i+1))
theorem ab8 {k:Nat}(h:k≤100):Sm (k:Rat):=⟨by rw [Rat.num_natCast,Int.natAbs_natCast];lia,by rw [Rat.den_natCast];decide⟩
theorem ab9 {d k:Nat}(h:k≤100):Cn (d+3) 50 [.v (.int (.ofNat k)),.v (.int 1)]=some (nk k,.un):=by
 have:=DF (d:=d) (ab8 (k:=k) h)
 rw [nv,Rat.num_natCast,Rat.den_natCast] at this
 exact this
noncomputable def bT:List S:=bJ.body
noncomputable def fY (t:V)(p q:Int)(e:Nat)(s4 s5 s6 s7:aF):Fm:=[.v t,.v (.str 17),.v (.tup [.str 0,.int p,.int q]),.v (nk e),s4,s5,s6,s7]
theorem agX (d:Nat)(β:Type)(t:V)(p r:Int)(e:Nat)(κ:Fm→Option β)(q:V→Fm→Option β):aW (aX (d+49)) glb (bT.take 3) β (fY t p r e .un .un .un .un) κ q=
  (aX (d+49) 79 [.v (.tup [.str 2,.tup [sx,.tup [.str 3,.tup [.tup [.str 0,.int (-1),.int 1],.tup [.str 0,.int p,.int r]]]]])]).bind fun z=>κ (fY t p r e (.v z.1) (.l []) .un .un):=by kernel_rfl
theorem PN (d:Nat)(k p q:Int)(u v:V):aX (d+49) 57 [.v (.tup [.str 0,.int p,.int q])]=some (.tup [.int p,.int q],.un)∧aX (d+49) 54 [.v u,.v v]=some (.tup [.str 4,u,v],.un)∧aX (d+49) 53 [.v (.lst [u,v])]=some (.tup [.str 3,.tup [u,v]],.un):=⟨by kernel_rfl,by kernel_rfl,by kernel_rfl⟩
theorem GA (d:Nat)(a b c f:V):aX (d+49) 52 [.v (.lst [a])]=some (a,.un)∧aX (d+49) 52 [.v (.lst [a,b])]=some (.tup [.str 2,.tup [a,b]],.un)∧aX (d+49) 52 [.v (.lst [a,b,c])]=some (.tup [.str 2,.tup [a,b,c]],.un)∧aX (d+49) 52 [.v (.lst [a,b,c,f])]=some (.tup [.str 2,.tup [a,b,c,f]],.un):=⟨by kernel_rfl,by kernel_rfl,by kernel_rfl,by kernel_rfl⟩
theorem acA {C:CF}{β:Type}{q:V→Fm→Option β}{t A m v w:V}{p r i j:Int}{e k:Nat}{xs:List V}(h1:C 50 [.v (.int i),.v (.int j)]=some (v,.un))(h2:C 50 [.v (.int (.ofNat k)),.v (.int 1)]=some (nk k,.un))(h3:C 54 [.v A,.v (nk k)]=some (w,.un))(h4:C 53 [.v (.lst [v,w])]=some (m,.un))(hl:xs.length≤1000):
  qQ C β q (rN (dP bT 3)) (fY t p r e (.v A) (.l xs) (.v (.int (.ofNat k))) (.v (.tup [.int i,.int j]))) (fY t p r e (.v A) (.l (xs++[m])) (.v (.int (.ofNat k))) (.v (.tup [.int i,.int j]))):=
 zS (NO (xs:=xs) (aU (fS (tK (cB (aU (cB (fun _=>rfl) fun _=>rfl) h1) (aU (cB (fun _=>rfl) (aU (cB (fun _=>rfl) fun _=>rfl) h2)) h3)))) h4) rfl rfl hl rfl)
noncomputable def WD (A:V)(f:Nat→Rat)(s:List V)(k:Nat):List V:=s++[mono A (f k) k]
def agY (t A:V)(α:Rat)(e c:Nat)(s:List V)(ρ:Fm):Prop:=s.length+c≤10∧∃s6 s7,ρ=fY t α.num α.den e (.v A) (.l s) s6 s7
theorem PO {A:V}{f:Nat→Rat}:∀(l:List Nat) (s:List V),l.foldl (WD A f) s=s++l.map fun k=>mono A (f k) k:=fun l=>by
 induction l with
 |nil=>exact fun s=>(List.append_nil s).symm
 |cons a l ih=>exact fun s=>(ih _).trans (List.append_assoc ..)
theorem agZ {d e:Nat}{A:V}{f:Nat→Rat}(he:e≤3):Cn (d+50) 52 [.v (.lst (gQ A 0 ((List.range (e+1)).map f)))]=some (if e=0 then mono A (f 0) 0 else .tup [.str 2,.tup (gQ A 0 ((List.range (e+1)).map f))],.un):=
 match e,he with
 |0,_=>(GA d _ .none .none .none).1
 |1,_=>(GA d _ _ .none .none).2.1
 |2,_=>(GA d _ _ _ .none).2.2.1
 |3,_=>(GA d _ _ _ _).2.2.2
theorem ag0 {d e:Nat}{t:V}{α:Rat}{f:Nat→Rat}{β:Type}{s4 s5 s6 s7:aF}(hs:Cn (d+50) 44 [.v t,.v (.str 17),.v (qv α),.v (.int (.ofNat (e+1)))]=some (.lst (qL (e+1) f),.un)):
  Ev (Cn (d+50)) β (.call 44 [(.var 0),(.var 1),(.call 57 [(.var 2)]),(.bin .add (.subN (.var 3) 1) (.int 1))]) (fY t α.num α.den e s4 s5 s6 s7) (.lst (qL (e+1) f)) (fY t α.num α.den e s4 s5 s6 s7):=
 aU (l:=[t,.str 17,qv α,.int (.ofNat (e+1))]) (tJ (fun _=>rfl) (tJ (fun _=>rfl) (cB (aU (l:=[nv α]) (fun _=>rfl) (show Cn (d+50) 57 [.v (nv α)]=some (qv α,.un) from (PN d 0 α.num α.den .none .none).1)) (fE (i:=.ofNat e) (j:=1) (fun _=>rfl) (fun _=>rfl) rfl)))) hs
theorem ag1 {d e:Nat}{t A:V}{α:Rat}{f:Nat→Rat}{β:Type}{q:V→Fm→Option β}(he:e≤3)(hf:∀j,Bd (f j) 1)(hs:Cn (d+50) 44 [.v t,.v (.str 17),.v (qv α),.v (.int (.ofNat (e+1)))]=some (.lst (qL (e+1) f),.un)):
  ∃τ,agY t A α e 0 ((List.range (e+1)).foldl (WD A f) []) τ∧Es (Cn (d+50)) β q (dP bT 3) (fY t α.num α.den e (.v A) (.l []) .un .un) τ:=
 kP (val:=fun k=>V.tup [.int (.ofNat k),qv (f k)]) (L:=List.range (e+1)) (agY t A α e) (WD A f) 8 rfl
  (fun K=>(abE (ag0 hs) K).trans (congrArg (fun l=>K l _) FZ))
  (fun _ _ _ ⟨_,_,_,e⟩=>e▸rfl) ⟨by refine (Eq.symm List.length_range)▸?_;exact Nat.le_trans (Nat.add_le_add_left (Nat.succ_le_succ he) _) (by decide),_,_,rfl⟩ (by
  rintro k hk c s ρ ⟨hc,s6,s7,rfl⟩
  rw [List.mem_range] at hk
  exact (bW _ _ ⟨fun _=>rfl,⟨by rw [WD,List.length_append,List.length_singleton];lia,_,_,rfl⟩,acA (DF (d:=d+47) ((hf k).sm (by decide))) (ab9 (d:=d+47) (by lia)) (PN d 0 0 0 A (nk k)).2.1 (PN d 0 0 0 _ _).2.2 (by lia)⟩))
theorem DG {d e:Nat}{t A out:V}{α:Rat}{f:Nat→Rat}(he:e≤3)(hf:∀j,Bd (f j) 1)(hs:Cn (d+50) 44 [.v t,.v (.str 17),.v (qv α),.v (.int (.ofNat (e+1)))]=some (.lst (qL (e+1) f),.un))
  (hap:Cn (d+50) 79 [.v (.tup [.str 2,.tup [sx,.tup [.str 3,.tup [.tup [.str 0,.int (-1),.int 1],nv α]]]])]=some (A,.un))
  (hfin:Cn (d+50) 79 [.v (if e=0 then mono A (f 0) 0 else .tup [.str 2,.tup (gQ A 0 ((List.range (e+1)).map f))])]=some (out,.un)):
  Cn (d+51) 82 [.v t,.v (.str 17),.v (nv α),.v (nk e)]=some (out,.un):=by
 refine aD (ag1 (A:=A) (q:=aC false) he hf hs) fun τ alQ h3=>?_;obtain ⟨_,s6,s7,rfl⟩:=alQ
 refine (abA.2 (Cn (d+50)) _ _ _ _).symm.trans ((rY (a:=bT.take 3) (b:=bT.drop 3)).trans ((agX d _ t α.num α.den e _ _).trans (bB hap ((h3 _).trans ?_))))
 have hm:=vT (A:=A) (f:=f) (e+1) 0
 rw [←List.range_eq_range'] at hm
 rw [PO,List.nil_append, ←hm]
 exact bB (agZ he) (bB hfin rfl)
theorem PP {d e:Nat}{t:V}{α:Rat}{f:Nat→Rat}(hα:α∈mB)(he:e≤3)(hf:∀j,Bd (f j) 1)(hs:Cn (d+50) 44 [.v t,.v (.str 17),.v (qv α),.v (.int (.ofNat (e+1)))]=some (.lst (qL (e+1) f),.un)):
  Cn (d+51) 82 [.v t,.v (.str 17),.v (nv α),.v (nk e)]=some (fW (-α) ((List.range (e+1)).map f),.un):=by
 obtain ⟨hA,hB⟩:=sE hα
 refine DG he hf hs (WC hα (d:=d+19)) ?_
 split
 ·rename_i e0
  subst e0
  refine (vP (sC hA) (Nat.zero_le _) ((hf 0).sm (by decide)) (d:=d+20)).trans ?_
  have z1:qD (-α) 0 0 0=[]:=by unfold qD;rw [jT,jT,jT];split<;>rfl
  have z2:hU (-α) 1 0=0:=by unfold hU;rw [if_pos rfl]
  have z3:fW (-α) [f 0]=nv (f 0):=by
   refine (?_:kR (qD (-α) 0 0 0++(if f 0+hU (-α) 1 0≠0 then [nv (f 0+hU (-α) 1 0)] else []))=_)
   rw [z1,z2,Rat.add_zero]
   by_cases h:f 0=0
   ·rw [if_neg (not_not_intro h),h];rfl
   ·rw [if_pos h];rfl
  rw [show (List.range (0+1)).map f=[f 0] from rfl,z3];rfl
 ·exact AC hA hB (by rw [List.length_map,List.length_range];lia) (fun c hc=>by
   rw [List.mem_map] at hc
   obtain ⟨j,_,rfl⟩:=hc
   exact hf j) (d:=d+10)
def Bq (r:Rat):Prop:=∃m:Int,r=mkRat m 64∧m.natAbs≤2^12
theorem Bq.bd {r:Rat}(h:Bq r):Bd r 1:=by
 refine aD h fun m e h=>?_
 exact ⟨m,e,by omega⟩
theorem Bq.zero:Bq 0:=⟨0,by rw [Rat.zero_mkRat],by decide⟩
theorem Bq.add4 {r s t u:Rat}(h1:Bq r)(h2:Bq s)(h3:Bq t)(h4:Bq u):Bd (r+s+t+u) 1:=by
 obtain ⟨a,rfl,h1⟩:=h1
 obtain ⟨b,rfl,h2⟩:=h2
 obtain ⟨c,rfl,h3⟩:=h3
 obtain ⟨e,rfl,h4⟩:=h4
 have add:∀m l:Int,mkRat m 64+mkRat l 64=mkRat (m+l) 64:=by
  intro m l
  rw [Rat.mkRat_add_mkRat _ _ (by decide) (by decide),show m*(64:Nat)+l*(64:Nat)=(m+l)*(64:Nat) by rw [Int.add_mul],Rat.mkRat_mul_right (by decide)]
 refine ⟨a+b+c+e,?_,Nat.le_trans (Nat.le_trans (Int.natAbs_add_le _ _) (Nat.add_le_add (Nat.le_trans (Int.natAbs_add_le _ _) (Nat.add_le_add (Nat.le_trans (Int.natAbs_add_le a b) (Nat.add_le_add h1 h2)) h3)) h4)) (by decide)⟩
 rw [add,add,add]
noncomputable def bqB (r:Rat):Bool:=decide ((r*64).den=1) && Nat.ble (r*64).num.natAbs (2^12)
theorem acB {r:Rat}(h:bqB r=true):Bq r:=by
 refine aG (iQ h) fun h1 h2=>?_
 have h1:=of_decide_eq_true h1
 refine ⟨(r*64).num,?_,Nat.le_of_ble_eq_true h2⟩
 have e:r*64=mkRat (r*64).num 1:=by
  have:=Rat.mkRat_self (r*64)
  rw [h1] at this
  exact this.symm
 have e2:r=r*64*mkRat 1 64:=by
  rw [Rat.mul_assoc,show (64:Rat)*mkRat 1 64=1 from by decide+kernel,Rat.mul_one]
 rw [e] at e2
 rw [e2]
 conv=>lhs;rw [Rat.mkRat_mul_mkRat]
 rw [←e2,Int.mul_one,Nat.one_mul]
noncomputable def rP:List Rat:=[0, -2, -1,1,2]
theorem tS {c α:Rat}{k j:Nat}(hc:c∈rP)(hα:α∈mB):Bq (c*pw α k j):=by
 have all:(rP.all fun c=>mB.all fun α=>(List.range 4).all fun k=>(List.range 4).all fun j=>bqB (c*pw α k j))=true:=by decide+kernel
 have z:pw α k j=0→Bq (c*pw α k j):=fun e=>by rw [e,Rat.mul_zero];exact Bq.zero
 by_cases h:k<4
 ·by_cases g:j<4
  ·exact acB (List.all_eq_true.mp (List.all_eq_true.mp (List.all_eq_true.mp (List.all_eq_true.mp all c hc) α hα) k (List.mem_range.mpr h)) j (List.mem_range.mpr g))
  ·exact z (FW (Nat.lt_of_lt_of_le h (Nat.le_of_not_lt g)))
 ·refine aT (Nat.exists_eq_add_of_le' (Nat.le_of_not_lt h)) fun n alR=>?_;subst alR
  exact z rfl
noncomputable def mS (α c0 c1 c2 c3:Rat)(j:Nat):Rat:=c3*pw α 3 j+c2*pw α 2 j+c1*pw α 1 j+c0*pw α 0 j
theorem xV {α c0 c1 c2 c3:Rat}(hα:α∈mB)(h0:c0∈rP)(h1:c1∈rP)(h2:c2∈rP)(h3:c3∈rP)(j:Nat):Bd (mS α c0 c1 c2 c3 j) 1:=
 (tS h3 hα).add4 (tS h2 hα) (tS h1 hα) (tS h0 hα)
theorem PQ (α c:Rat)(j:Nat):cst c j=c*pw α 0 j:=by
 unfold cst
 cases j with
 |zero=>refine (Eq.symm (if_pos rfl))▸?_;exact (Rat.mul_one c).symm
 |succ j=>refine (Eq.symm (if_neg (Nat.succ_ne_zero j)))▸?_;exact (Rat.mul_zero c).symm
noncomputable def tT (α:Rat)(k:Nat)(c:Rat):List yT:=if c=0 then [] else [⟨wn c (rk sx k),fun j=>c*pw α k j⟩]
noncomputable def AG (c:Rat):List yT:=if c=0 then [] else [⟨nv c,cst c⟩]
noncomputable def AH (α c0 c1 c2 c3:Rat):List yT:=tT α 3 c3++(tT α 2 c2++tT α 1 c1)++AG c0
theorem oZ {α c:Rat}{k:Nat}{F:Nat→Rat}:(tT α k c).foldl (fun F p=>fun j=>F j+p.f j) F=fun j=>F j+c*pw α k j:=by
 unfold tT
 split
 ·rename_i h;subst h;funext j;rw [Rat.zero_mul,Rat.add_zero];rfl
 ·rfl
theorem DH {α c:Rat}{F:Nat→Rat}:(AG c).foldl (fun F p=>fun j=>F j+p.f j) F=fun j=>F j+c*pw α 0 j:=by
 unfold AG
 split
 ·rename_i h;subst h;funext j;rw [Rat.zero_mul,Rat.add_zero];rfl
 ·funext j;rw [←PQ];rfl
theorem DI {α c0 c1 c2 c3:Rat}:(AH α c0 c1 c2 c3).foldl (fun F p=>fun j=>F j+p.f j) (fun _=>0)=mS α c0 c1 c2 c3:=by
 unfold AH
 rw [List.foldl_append,List.foldl_append,List.foldl_append,oZ,oZ,oZ,DH (α:=α)]
 funext j
 dsimp only
 rw [Rat.zero_add];rfl
theorem acC {c:Rat}(h:c∈rP)(h0:c≠0):c∈cfs:=by
 cases h with
 |head=>exact absurd rfl h0
 |tail _ h=>exact h
theorem WE {α c0 c1 c2 c3:Rat}{n d:Nat}(hα:α∈mB)(h0:c0∈rP)(h1:c1∈rP)(h2:c2∈rP)(h3:c3∈rP)(hn:n=3∨n=4∨n=5∨n=6):
  ∀p∈AH α c0 c1 c2 c3,(∀j,Bd (p.f j) 1)∧∃v,Cn (d+21) 42 [.v p.v,.v (.int n),.v (PA α)]=some (v,.un)∧mD v n p.f:=by
 have hk:∀k c,c∈rP→k=1∨k=2∨k=3→∀p∈tT α k c,(∀j,Bd (p.f j) 1)∧∃v,Cn (d+21) 42 [.v p.v,.v (.int n),.v (PA α)]=some (v,.un)∧mD v n p.f:=by
  intro k c hc hk p hp
  unfold tT at hp
  split at hp
  ·cases hp
  ·rename_i c0
   rw [List.mem_singleton] at hp;subst hp
   exact ⟨fun j=>(tS hc hα).bd,aqD hα (acC hc c0) hk hn⟩
 intro p hp
 unfold AH at hp
 rcases List.mem_append.mp hp with hp|hp
 ·rcases List.mem_append.mp hp with hp|hp
  ·exact hk 3 c3 h3 (by decide) p hp
  ·rcases List.mem_append.mp hp with hp|hp
   ·exact hk 2 c2 h2 (by decide) p hp
   ·exact hk 1 c1 h1 (by decide) p hp
 ·unfold AG at hp
  split at hp
  ·cases hp
  ·rw [List.mem_singleton] at hp;subst hp
   refine ⟨fun j=>by show Bd (cst c0 j) 1;rw [PQ α];exact (tS h0 hα).bd,_,AE hn,mD.low0 (by lia)⟩
theorem PR {α c0 c1 c2 c3:Rat}:(AH α c0 c1 c2 c3).length≤4:=by
 have hk:∀k c,(tT α k c).length≤1:=by
  intro k c
  unfold tT
  split<;>exact Nat.le_of_ble_eq_true rfl
 have h0:(AG c0).length≤1:=by
  unfold AG
  split<;>exact Nat.le_of_ble_eq_true rfl
 have h1:=hk 1 c1;have h2:=hk 2 c2;have h3:=hk 3 c3
 simp only [AH,List.length_append];lia
theorem JA {α c0 c1 c2 c3:Rat}{cs:List Rat}(e0:cs.getD 0 0=c0)(e1:cs.getD 1 0=c1)(e2:cs.getD 2 0=c2)(e3:cs.getD 3 0=c3):fW 0 cs=kR ((AH α c0 c1 c2 c3).map yT.v):=by
 have ns:∀k c,¬tO 0 k c:=fun k c s=>s.2.2 rfl
 have hk:∀k c,(tT α k c).map yT.v=qJ 0 k c:=by
  intro k c
  unfold tT qJ
  split
  ·rfl
  ·rw [if_neg (ns k c)];rfl
 have hN:∀c,hU 0 1 c=0:=by
  intro c
  unfold hU
  split
  ·rfl
  ·rw [if_neg (ns _ _)]
 have h0:(AG c0).map yT.v=if c0≠0 then [nv c0] else []:=by
  unfold AG
  by_cases h:c0=0
  ·rw [if_pos h,if_neg (not_not_intro h)];rfl
  ·rw [if_neg h,if_pos h];rfl
 rw [fW,e0,e1,e2,e3,hN,Rat.add_zero,qD,if_neg (ns _ _),AH,List.map_append,List.map_append,List.map_append,hk,hk,hk,h0]
theorem PS {α:Rat}{n d:Nat}{L:List yT}(hn:n=3∨n=4∨n=5∨n=6)(hL:L.length≤8)(h:∀d:Nat,∀p∈L,(∀j,Bd (p.f j) 1)∧∃v,Cn (d+21) 42 [.v p.v,.v (.int n),.v (PA α)]=some (v,.un)∧mD v n p.f):
  ∃v,Cn (d+22) 42 [.v (kR (L.map yT.v)),.v (.int n),.v (PA α)]=some (v,.un)∧mD v n (L.foldl (fun F p=>fun j=>F j+p.f j) fun _=>0):=by
 match L,hL,h with
 |[],_,_=>
  refine ⟨_,AE (d:=d+1) (c:=0) hn,?_⟩
  have e:cst 0=fun _=>0:=by funext j;unfold cst;split<;>rfl
  refine (Eq.symm e)▸?_
  exact mD.low0 (by lia)
 |[p],_,h=>
  obtain ⟨_,v,e,ht⟩:=h (d+1) p (.head _)
  refine ⟨v,e,?_⟩
  have:(fun j=>0+p.f j)=p.f:=by funext j;rw [Rat.zero_add]
  refine (Eq.symm List.foldl_cons)▸?_;refine (Eq.symm this)▸?_
  exact ht
 |p::q::r,hL,h=>
  have q1:=PH (a:=PA α) hn hL (h d)
  have q2:kR ((p::q::r).map yT.v)=.tup [.str 2,.tup ((p::q::r).map yT.v)]:=rfl
  refine (Eq.symm q2)▸?_
  exact ⟨_,q1,mD.low0 (by lia)⟩
theorem vU {α c0 c1 c2 c3:Rat}{n d:Nat}{cs:List Rat}(hα:α∈mB)(h0:c0∈rP)(h1:c1∈rP)(h2:c2∈rP)(h3:c3∈rP)(hn:n=3∨n=4∨n=5∨n=6)
  (e0:cs.getD 0 0=c0) (e1:cs.getD 1 0=c1) (e2:cs.getD 2 0=c2) (e3:cs.getD 3 0=c3):
  ∃v,Cn (d+22) 42 [.v (fW 0 cs),.v (.int n),.v (PA α)]=some (v,.un)∧mD v n (mS α c0 c1 c2 c3):=by
 have:=PR (α:=α) (c0:=c0) (c1:=c1) (c2:=c2) (c3:=c3)
 refine (Eq.symm (JA (α:=α) e0 e1 e2 e3))▸?_;refine DI▸?_
 exact PS hn (by lia) fun d=>WE hα h0 h1 h2 h3 hn
theorem AI {α c0 c1 c2 c3:Rat}{e d:Nat}{cs:List Rat}(hα:α∈mB)(he:e≤3)(h0:c0∈rP)(h1:c1∈rP)(h2:c2∈rP)(h3:c3∈rP)
  (e0:cs.getD 0 0=c0) (e1:cs.getD 1 0=c1) (e2:cs.getD 2 0=c2) (e3:cs.getD 3 0=c3):
  Cn (d+51) 82 [.v (fW 0 cs),.v (.str 17),.v (nv α),.v (nk e)]=some (fW (-α) ((List.range (e+1)).map (mS α c0 c1 c2 c3)),.un):=by
 refine aD (vU (n:=e+1+2) (d:=d+26) hα h0 h1 h2 h3 (by lia) e0 e1 e2 e3) fun v hv ht=>?_
 have hv':Cn (d+46+2) 42 [.v (fW 0 cs),.v (.int (.ofNat (e+1+2))),.v (PA α)]=some (v,.un):=hv
 generalize ho:fW 0 cs=t at hv'
 have hs:=PM (d:=d+46) (e:=e+1) (t:=t) (a:=α) (by lia) (by lia) ht hv'
 have hb:=xV hα h0 h1 h2 h3
 generalize mS α c0 c1 c2 c3=f at hb hs ht ⊢
 exact PP hα he hb hs
theorem aqF:Nat.beq (0+1+1) (0+1+1)=true:=rfl
theorem GB {β:Type}{i:Int}{g:Nat}{k:V→Option β}(h:g≠0)(hg:g<2^40):EK (.int i) (.int (.ofNat g)) k=k (.int (Int.fdiv i (.ofNat g))):=by
 refine (?_:cond (mI (.ofNat g) 0) none (cond (Nat.blt (Int.natAbs (.ofNat g)) 18446744073709551616) (pG _ _) none)=_)
 refine (Eq.symm (FI h))▸?_;refine (Eq.symm (show Nat.blt (Int.natAbs (.ofNat g)) 18446744073709551616=true from Nat.blt_eq.mpr (show g<18446744073709551616 from Nat.lt_of_lt_of_le hg (by decide))))▸?_
 rw [aP,aK,hG]
theorem qF {d:Nat}{i:Int}{j:Nat}(hj:j≠0)(hb:j<2^40):Cn (d+2) 84 [.v (.int i),.v (.int j)]=some (qv (mkRat i j),.un):=by
 refine (show UU.1 (Cn (d+1)) _ _=_ from ?_)
 simp only [UU,aqF,aK,Int.natAbs_natCast]
 have hgl:Nat.gcd i.natAbs j<2^40:=Nat.lt_of_le_of_lt (Nat.gcd_le_right _ (by lia)) hb
 have hg0:Nat.gcd i.natAbs j≠0:=fun h=>hj (Nat.gcd_eq_zero_iff.mp h).2
 refine (zU (fr:=fun x y=>[.v (.int i),.v (.int (j:Int)),.v (.int (.ofNat x)),.v (.int (.ofNat y))]) ?_ ?_ 40 100 i.natAbs j hb (by decide)).trans ?_
 ·intro x again stop;rfl
 ·intro x y again stop h
  cases y with
  |zero=>exact absurd rfl h
  |succ y=>
   refine (?_:(pG (Int.fmod (.ofNat x) (.ofNat (y+1))) fun z=>again [.v (.int i),.v (.int (j:Int)),.v (.int (.ofNat (y+1))),.v (.int z)])=_)
   rw [hG]
   cases x with
   |zero=>rw [Nat.zero_mod];rfl
   |succ x=>rfl
 ·have l0:∀{β:Type} (q:Bool→Option β),uU (.int 0) (.int (j:Int)) q=q true:=by
   intro β q
   refine (?_:q (Nat.blt 0 j)=_)
   rw [Nat.blt_eq.mpr (by lia)]
  simp only [l0,fD,aK,aB,GB hg0 hgl]
  have h1:(mkRat i j).num=Int.fdiv i (Int.ofNat (Nat.gcd i.natAbs j)):=by
   rw [Rat.num_mkRat,if_neg hj,Nat.gcd_comm,Int.ofNat_eq_natCast,Int.fdiv_eq_ediv_of_nonneg _ (Int.natCast_nonneg _)]
  have h2:((mkRat i j).den:Int)=Int.fdiv j (Int.ofNat (Nat.gcd i.natAbs j)):=by
   rw [Rat.den_mkRat,if_neg hj,Nat.gcd_comm,Int.ofNat_eq_natCast,Int.fdiv_eq_ediv_of_nonneg _ (Int.natCast_nonneg _)];rfl
  rw [qv,h1,h2]
def Sl (r:Rat):Prop:=r.num.natAbs<2^40∧r.den<2^19
theorem Sl.d40 {r:Rat}(h:Sl r):((r.den:Int)).natAbs<2^40:=by rw [Int.natAbs_natCast];exact Nat.lt_of_lt_of_le h.2 (by decide)
theorem ag2 {r s:Rat}(hr:r.den<2^19)(hs:s.den<2^19):r.den*s.den≠0∧r.den*s.den<2^40:=by
 refine ⟨Nat.mul_ne_zero r.den_nz s.den_nz,?_⟩
 have h:r.den*s.den≤2^19*2^19:=Nat.mul_le_mul (Nat.le_of_lt hr) (Nat.le_of_lt hs)
 exact Nat.lt_of_le_of_lt h (by decide)
theorem tU {d:Nat}{r:Rat}{p:Int}{q:Nat}(hr:Sl r)(hp:p.natAbs<2^40)(hq:q≠0)(hq':q<2^19):Cn (d+3) 85 [.v (qv r),.v (.tup [.int p,.int q])]=some (qv (r+mkRat p q),.un):=
 have h1:r.den*q≠0:=Nat.mul_ne_zero r.den_nz hq
 have h2:r.den*q<2^40:=Nat.lt_of_le_of_lt (Nat.mul_le_mul (Nat.le_of_lt hr.2) (Nat.le_of_lt hq')) (by decide:2^19*2^19<2^40)
 have e:mkRat (r.num*q+p*r.den) (r.den*q)=r+mkRat p q:=by
  conv=>rhs;rw [←Rat.mkRat_self r]
  rw [Rat.mkRat_add_mkRat _ _ r.den_nz hq]
 (abB.2 (Cn (d+2)) _ _).symm.trans<|dH (r:=[]) (ρ1:=[.v (qv r),.v (.tup [.int p,.int q])]) (κ:=aC false .none) (q:=aC false)<|
  aU (cB (fE (fN (fun _=>rfl) (fun _=>rfl) hr.1) (fN (fun _=>rfl) (fun _=>rfl) hp) rfl) (fN (i:=r.den) (j:=q) (fun _=>rfl) (fun _=>rfl) hr.d40))<|
  e▸qF (i:=r.num*q+p*r.den) h1 h2
theorem PT {d:Nat}{r s:Rat}(hr:Sl r)(hs:Sl s):Cn (d+3) 85 [.v (qv r),.v (qv s)]=some (qv (r+s),.un):=
 (tU hr hs.1 s.den_nz hs.2).trans (congrArg (fun s=>some (qv (r+s),aF.un)) (Rat.mkRat_self s))
theorem PU {C:CF}{β:Type}{a b:E}{ρ ρ1 ρ2:Fm}{i:Int}{k:Nat}(h:Ev C β a ρ (.int i) ρ1)(g:Ev C β b ρ1 (.int (.ofNat k)) ρ2)(hk:k≤1000000)(hi:i.natAbs<2^40):Ev C β (.bin .pow a b) ρ (.int (i^k)) ρ2:=
 fK h g fun K=>(congrArg (cond · _ none) (eN hk)).trans ((congrArg (cond · _ none) (NQ hi)).trans (hG (Int.pow i k) fun z=>K (.int z)))
theorem tV {d k:Nat}{r:Rat}(hr:Sl r)(hk:k≤10)(hd:r.den^k<2^40):Cn (d+3) 86 [.v (qv r),.v (.int (.ofNat k))]=some (qv (r^k),.un):=by
 have hk':k≤1000000:=Nat.le_trans hk (by decide)
 have e:((r.den:Int)^k)=((r.den^k:Nat):Int):=(Int.natCast_pow _ _).symm
 have e2:mkRat (r.num^k) (r.den^k)=r^k:=by rw [←Rat.num_pow, ←Rat.den_pow];exact Rat.mkRat_self _
 refine (abC.2 (Cn (d+2)) _ _).symm.trans (dH (r:=[]) (ρ1:=[.v (qv r),.v (.int (.ofNat k))]) (κ:=aC false .none) (q:=aC false) ?_)
 refine jR (t:=true) rfl (bU (x:=.int (.ofNat k)) (y:=.int 0) (fun _=>rfl) (fun _=>rfl) fun K=>congrArg (fun t=>K (.bool (not t))) (show pF (.ofNat k) 0=false from qE (Nat.zero_le k))) (aU (sl:=.un) (cB (PU (fun _=>rfl) (fun _=>rfl) hk' hr.1) (PU (i:=r.den) (fun _=>rfl) (fun _=>rfl) hk' hr.d40)) ?_)
 refine (congrArg (fun z=>Cn (d+2) 84 [.v (.int (r.num^k)),.v (.int z)]) e).trans ?_
 exact e2▸qF (d:=d) (Nat.pos_iff_ne_zero.mp (Nat.pow_pos (Nat.pos_of_ne_zero r.den_nz))) hd
def xW (d:Nat)(v:V)(x:Int)(r:Rat):Prop:=Cn (d+2) 88 [.v v,.v (.int x)]=some (qv r,.un)
theorem xX {d:Nat}{c:Rat}{x:Int}:xW d (nv c) x c:=by
 refine (show CS.1 (Cn (d+1)) _ _=_ from ?_)
 rfl
theorem acD {d:Nat}{x:Int}:xW d sx x (x:Rat):=by
 refine (show CS.1 (Cn (d+1)) _ _=_ from ?_)
 rfl
theorem WF {d k:Nat}{A:V}{x:Int}{r:Rat}(h:xW (d+1) A x r)(hr:Sl r)(hk:k≤10)(hd:r.den^k<2^40):xW (d+2) (.tup [.str 4,A,nk k]) x (r^k):=
 (CS.2 (Cn (d+3)) _ _).symm.trans<|gP (s:=dP dL.body 0) (ρ1:=[.v (.tup [.str 4,A,nk k]),.v (.int x),.un,.un,.un]) (fun _=>rfl)<|gP (ρ1:=[.v (.tup [.str 4,A,nk k]),.v (.int x),.un,.un,.un]) (fun _=>rfl)<|
  xJ (ρ1:=[.v (.tup [.str 4,A,nk k]),.v (.int x),.un,.un,.un]) (fun _=>rfl) fun κ=>dH (r:=[]) (ρ1:=[.v (.tup [.str 4,A,nk k]),.v (.int x),.un,.un,.un]) (κ:=κ) (q:=aC false)<|
  aU (cB (aU (cB (fun _=>rfl) fun _=>rfl) h) fun _=>rfl) (tV (d:=d) hr hk hd)
def Bv (r:Rat)(n:Nat):Prop:=∃m:Int,r=mkRat m 512∧m.natAbs≤n*2^26
theorem Bv.sl {r:Rat}{n:Nat}(h:Bv r n)(hn:n≤16):Sl r:=by
 refine aD h fun m alS hm=>?_;subst alS
 constructor
 ·refine Nat.lt_of_le_of_lt (xN m 512) ?_
  have:n*2^26≤16*2^26:=Nat.mul_le_mul_right _ hn
  lia
 ·exact Nat.lt_of_le_of_lt (qT m (by decide)) (by decide)
theorem Bv.add {r s:Rat}{n k:Nat}(h:Bv r n)(g:Bv s k):Bv (r+s) (n+k):=by
 refine aD h fun m alT hm=>?_;subst alT
 refine aD g fun l alU hl=>?_;subst alU
 refine ⟨m+l,?_,?_⟩
 ·rw [Rat.mkRat_add_mkRat _ _ (by decide) (by decide),show m*(512:Nat)+l*(512:Nat)=(m+l)*(512:Nat) by rw [Int.add_mul],Rat.mkRat_mul_right (by decide)]
 ·rw [Nat.add_mul];exact Nat.le_trans (Int.natAbs_add_le _ _) (Nat.add_le_add hm hl)
theorem Bv.zero (n:Nat):Bv 0 n:=⟨0,by rw [Rat.zero_mkRat],Nat.zero_le _⟩
theorem Bv.mono {r:Rat}{n k:Nat}(h:Bv r n)(g:n≤k):Bv r k:=by
 refine aD h fun m e hm=>?_
 exact ⟨m,e,Nat.le_trans hm (Nat.mul_le_mul_right _ g)⟩
noncomputable def fV (t x:V)(s2 s3 s4:aF):Fm:=[.v t,.v x,s2,s3,s4]
noncomputable def vB:List S:=dL.body
noncomputable def vB4:List S:=rN (dP vB 4)
section
variable {C:CF}{β:Type}{q:V→Fm→Option β}{x u w:V}{i j k l:Int}{s3 s4:aF}{vs:List V}{c r:Rat}{d:Nat}{X:Int}
theorem GC (h88:C 88 [.v u,.v x]=some (.tup [.int k,.int l],.un))(h84:C 84 [.v (.int (Int.mul i k)),.v (.int (Int.mul j l))]=some (w,.un))(b1:i.natAbs<2^40)(b2:j.natAbs<2^40):
  qQ C β q vB4 (fV (.tup [.str 3,.tup vs]) x (.v (.tup [.int i,.int j])) (.v u) s4) (fV (.tup [.str 3,.tup vs]) x (.v w) (.v u) (.v (.tup [.int k,.int l]))):=
 lH (cG (aU (fun _=>rfl) h88) rfl) (cG (jR (t:=false) rfl (fun _=>rfl) (aU (cB (fN (i:=i) (j:=k) (fun _=>rfl) (fun _=>rfl) b1) (fN (i:=j) (j:=l) (fun _=>rfl) (fun _=>rfl) b2)) h84)) rfl)
theorem acE {F F' v:V}(h88:C 88 [.v u,.v x]=some (v,.un))(h85:C 85 [.v F,.v v]=some (F',.un)):qQ C β q vB4 (fV (.tup [.str 2,.tup vs]) x (.v F) (.v u) s4) (fV (.tup [.str 2,.tup vs]) x (.v F') (.v u) (.v v)):=
 lH (cG (aU (fun _=>rfl) h88) rfl) (cG (fun _=>bB (bB h85 rfl) rfl) rfl)
theorem WG {xs:List Nat}{sr:Sr}{b:List S}{ρ ρ0 ρ1 ρ2 ρ3 ρ4:Fm}{y z:V}{n:Nat}(hr:∀K:List V→Fm→Option β,jW C glb sr β ρ K=K [y,z] ρ0)(h0:ρ.length=n)(l0:ρ0.length=n)(l1:ρ2.length=n)(l2:ρ4.length=n)(b1:∀K:Fm→Option β,bL xs y ρ0 K=K ρ1)(e1:qQ C β q b ρ1 ρ2)(b2:∀K:Fm→Option β,bL xs z ρ2 K=K ρ3)(e2:qQ C β q b ρ3 ρ4):Es C β q (.for xs sr b) ρ ρ4:=fun κ=>by
 subst h0
 exact (hr _).trans ((jC l0).trans ((b1 _).trans ((e1 _).trans ((jC l1).trans ((b2 _).trans ((e2 _).trans (jC l2)))))))
theorem PV {R:V}(h:xW (d+1) R X r)(hc:Sl c)(hr:Sl r):xW (d+2) (.tup [.str 3,.tup [nv c,R]]) X (c*r):=by
 have e:=ag2 hc.2 hr.2
 have r1:Cn (d+3) 84 [.v (.int (Int.mul 1 c.num)),.v (.int (Int.mul 1 c.den))]=some (qv c,.un):=by
  rw [show Int.mul 1 c.num=c.num from Int.one_mul _,show Int.mul 1 (c.den:Int)=c.den from Int.one_mul _,qF (d:=d+1) c.den_nz (Nat.lt_of_lt_of_le hc.2 (by decide)),Rat.mkRat_self]
 have r2:Cn (d+3) 84 [.v (.int (Int.mul c.num r.num)),.v (.int (Int.mul c.den r.den))]=some (qv (c*r),.un):=by
  rw [show Int.mul c.den r.den=((c.den*r.den:Nat):Int) from (Int.natCast_mul _ _).symm,qF (d:=d+1) e.1 e.2,Rat.mul_def'];rfl
 refine (CS.2 (Cn (d+3)) _ _).symm.trans ((pW (a:=vB.take 5) (b:=[dP vB 5]) (fF (fun _=>rfl) (fF (fun _=>rfl) (fF (fun _=>rfl) (lH (cG (v:=.tup [.int 1,.int 1]) (fun _=>rfl) rfl) (WG (n:=5) (y:=nv c) (z:=R) (ρ4:=fV (.tup [.str 3,.tup [nv c,R]]) (.int X) (.v (qv (c*r))) (.v R) (.v (qv r))) (fun _=>rfl) rfl rfl rfl rfl (fun _=>rfl) (GC (k:=c.num) (l:=c.den) (xX (d:=d+1)) r1 (by decide) (by decide)) (fun _=>rfl) (GC (k:=r.num) (l:=r.den) h r2 hc.1 hc.d40))))))).trans rfl)
end
structure xY where
 v:V
 r:Rat
def aqH (L:List xY)(X:Int)(c:Nat)(s:Rat)(ρ:Fm):Prop:=(c≤8∧Bv s (8 - c))∧∃s3 s4,ρ=fV (.tup [.str 2,.tup (L.map xY.v)]) (.int X) (.v (qv s)) s3 s4
noncomputable def ag3 (s:Rat)(p:xY):Rat:=s+p.r
theorem WH {d:Nat}{L:List xY}{x:Int}(hL:L.length≤8)(h:∀p∈L,xW (d+1) p.v x p.r∧Bv p.r 1):xW (d+2) (.tup [.str 2,.tup (L.map xY.v)]) x (L.foldl (fun s p=>s+p.r) 0):=by
 obtain ⟨τ,⟨_,s3,s4,rfl⟩,e⟩:=kP (C:=Cn (d+3)) (q:=aC false) (xs:=[3]) (sr:=.val (.subN (.var 0) 1)) (b:=vB4) (ρ:=fV (.tup [.str 2,.tup (L.map xY.v)]) (.int x) (.v (qv 0)) .un .un) (val:=xY.v) (L:=L) (s:=(0:Rat)) (aqH L x) ag3 5 rfl (fun _=>rfl) (fun _ _ _ ⟨_,_,_,e⟩=>e▸rfl) ⟨⟨hL,Bv.zero _⟩,_,_,rfl⟩ (by
  rintro p hp c s ρ ⟨⟨hc,hs⟩,s3,s4,rfl⟩
  refine aG (h p hp) fun h1 h2=>?_
  exact (bW _ _ ⟨fun _=>rfl,⟨⟨Nat.le_of_succ_le hc,(hs.add h2).mono (pX hc)⟩,_,_,rfl⟩,acE h1 (PT (d:=d) (hs.sl (gX (by decide))) (h2.sl (by decide)))⟩))
 exact (CS.2 (Cn (d+3)) _ _).symm.trans ((pW (a:=vB.take 5) (b:=[dP vB 5]) (ρ1:=fV (.tup [.str 2,.tup (L.map xY.v)]) (.int x) (.v (qv (L.foldl ag3 0))) s3 s4) (fF (fun _=>rfl) (fF (fun _=>rfl) (fF (fun _=>rfl) (lH (cG (v:=.tup [.int 0,.int 1]) (fun _=>rfl) rfl) e))))).trans rfl)
theorem xW.up {d:Nat}{L:List xY}{x:Int}(hL:L.length≤8)(h:∀d,∀p∈L,xW (d+7) p.v x p.r∧Bv p.r 1):xW (d+8) (kR (L.map xY.v)) x (L.foldl (fun s p=>s+p.r) 0):=by
 match L,hL,h with
 |[],_,_=>exact xX (c:=0)
 |[p],_,h=>
  have q:=(h (d+1) p (.head _)).1
  refine (Eq.symm (show ([p].foldl (fun s p=>s+p.r) 0)=p.r from Rat.zero_add _))▸?_
  exact q
 |p::q::r,hL,h=>
  have q1:=WH (d:=d+6) hL (h d)
  have q2:kR ((p::q::r).map xY.v)=.tup [.str 2,.tup ((p::q::r).map xY.v)]:=rfl
  refine (Eq.symm q2)▸?_
  exact q1
noncomputable def DJ:List Int:=[0,2,5]
theorem PW {a:Rat}{x:Int}(ha:a∈rJ)(hx:x∈DJ){d:Nat}:xW (d+4) (iR a) x ((x:Rat)+a):=by
 refine cO (d:=d+5) ?_
 simp only [rJ,DJ,List.mem_cons,List.not_mem_nil,or_false] at ha hx
 rcases hx with rfl|rfl|rfl<;>rcases ha with rfl|rfl|rfl|rfl|rfl|rfl|rfl<;>kernel_rfl
noncomputable def b8 (r:Rat):Bool:=decide ((r*8).den=1) && Nat.ble (r*8).num.natAbs (2^12)
theorem ag4 {r:Rat}(h:b8 r=true):∃m:Int,r=mkRat m 8∧m.natAbs≤2^12:=by
 refine aG (iQ h) fun h1 h2=>?_
 have h1:=of_decide_eq_true h1
 refine ⟨(r*8).num,?_,Nat.le_of_ble_eq_true h2⟩
 have e:r*8=mkRat (r*8).num 1:=by
  have:=Rat.mkRat_self (r*8)
  rw [h1] at this
  exact this.symm
 have e2:r=r*8*mkRat 1 8:=by
  rw [Rat.mul_assoc,show (8:Rat)*mkRat 1 8=1 from by decide+kernel,Rat.mul_one]
 rw [e] at e2
 rw [e2]
 conv=>lhs;rw [Rat.mkRat_mul_mkRat]
 rw [←e2,Int.mul_one,Nat.one_mul]
theorem mT {a:Rat}{x:Int}{k:Nat}(ha:a∈rJ)(hx:x∈DJ)(hk:k≤3):∃m:Int,((x:Rat)+a)^k=mkRat m 8∧m.natAbs≤2^12:=by
 have all:(rJ.all fun a=>DJ.all fun x=>(List.range 4).all fun k=>b8 (((x:Rat)+a)^k))=true:=by decide+kernel
 exact ag4 (List.all_eq_true.mp (List.all_eq_true.mp (List.all_eq_true.mp all a ha) x hx) k (List.mem_range.mpr (by lia)))
theorem WI {r:Rat}(h:∃m:Int,r=mkRat m 8∧m.natAbs≤2^12):Sl r:=by
 refine aD h fun m alV hm=>?_;subst alV
 exact ⟨Nat.lt_of_le_of_lt (xN m 8) (by lia),Nat.lt_of_le_of_lt (qT m (by decide)) (by decide)⟩
theorem PY {c r:Rat}(hc:Bd c 1)(h:∃m:Int,r=mkRat m 8∧m.natAbs≤2^12):Bv (c*r) 1:=by
 refine aD hc fun l alW hl=>?_;subst alW
 refine aD h fun m alX hm=>?_;subst alX
 refine ⟨l*m,by rw [Rat.mkRat_mul_mkRat],?_⟩
 rw [Int.natAbs_mul]
 have:l.natAbs*m.natAbs≤2^14*2^12:=Nat.mul_le_mul (by omega) hm
 omega
theorem acF {a:Rat}{x:Int}{k:Nat}(ha:a∈rJ)(hx:x∈DJ)(k1:1≤k)(k3:k≤3){d:Nat}:xW (d+6) (rk (iR a) k) x (((x:Rat)+a)^k):=by
 unfold rk
 by_cases h:k=1
 ·subst h
  rw [if_pos rfl,Rat.pow_one]
  exact PW ha hx (d:=d+2)
 ·rw [if_neg h]
  have hs:Sl ((x:Rat)+a):=by
   have:=WI (mT ha hx (show 1≤3 by decide))
   rw [Rat.pow_one] at this
   exact this
  refine WF (PW ha hx (d:=d+1)) hs (by lia) ?_
  have:=(WI (mT ha hx k3)).2
  rw [Rat.den_pow] at this
  exact Nat.lt_of_lt_of_le this (by decide)
theorem acG {d:Nat}{c r:Rat}{R:V}{x:Int}(h:∀d,xW (d+6) R x r)(c0:c≠0)(hc:Sl c)(hr:Sl r):xW (d+7) (wn c R) x (c*r):=by
 unfold wn
 rw [if_neg c0]
 by_cases c1:c=1
 ·rw [if_pos c1,c1,Rat.one_mul];exact h (d+1)
 ·rw [if_neg c1];exact PV (d:=d+5) (h d) hc hr
noncomputable def xZ (a:Rat)(x:Int)(k:Nat)(c:Rat):List xY:=if c=0 then [] else if tO a k c then [⟨sx,x⟩] else [⟨wn c (rk (iR a) k),c*((x:Rat)+a)^k⟩]
noncomputable def nI (N:Rat):List xY:=if N≠0 then [⟨nv N,N⟩] else []
noncomputable def DK (a:Rat)(x:Int)(c1 c2 c3:Rat):List xY:=if tO a 1 c1 then xZ a x 1 c1++(xZ a x 3 c3++xZ a x 2 c2) else xZ a x 3 c3++(xZ a x 2 c2++xZ a x 1 c1)
theorem yA {a:Rat}{x:Int}{k:Nat}{c:Rat}:(xZ a x k c).map xY.v=qJ a k c:=by
 unfold xZ qJ
 split
 ·rfl
 ·split<;>rfl
theorem acH {N:Rat}:(nI N).map xY.v=if N≠0 then [nv N] else []:=by
 unfold nI
 split<;>rfl
theorem PZ {a:Rat}{x:Int}{c1 c2 c3:Rat}:(DK a x c1 c2 c3).map xY.v=qD a c1 c2 c3:=by
 unfold DK qD
 split<;>rw [List.map_append,List.map_append,yA,yA,yA]
theorem mU {a:Rat}{x:Int}{k:Nat}{c s:Rat}(h:¬tO a k c):(xZ a x k c).foldl (fun s p=>s+p.r) s=s+c*((x:Rat)+a)^k:=by
 unfold xZ
 split
 ·rename_i c0;subst c0;rw [Rat.zero_mul,Rat.add_zero];rfl
 ·rfl
theorem QA {a:Rat}{x:Int}{k:Nat}{c s:Rat}(h:tO a k c):(xZ a x k c).foldl (fun s p=>s+p.r) s=s+x:=by
 unfold xZ
 have c0:c≠0:=by rw [h.2.1];decide
 rw [if_neg c0,if_pos h];rfl
theorem GD {N s:Rat}:(nI N).foldl (fun s p=>s+p.r) s=s+N:=by
 unfold nI
 by_cases h:N=0
 ·rw [if_neg (not_not_intro h),h,Rat.add_zero];rfl
 ·rw [if_pos h];rfl
noncomputable def WJ (y c0 c1 c2 c3:Rat):Rat:=c3*y^3+c2*y^2+c1*y^1+c0
theorem QB {a:Rat}{x:Int}{c0 c1 c2 c3:Rat}:(DK a x c1 c2 c3++nI (c0+hU a 1 c1)).foldl (fun s p=>s+p.r) 0=WJ ((x:Rat)+a) c0 c1 c2 c3:=by
 have n2:∀c,¬tO a 2 c:=fun c h=>absurd h.1 (by decide)
 have n3:∀c,¬tO a 3 c:=fun c h=>absurd h.1 (by decide)
 unfold DK WJ
 by_cases h:tO a 1 c1
 ·have hn:hU a 1 c1=a:=by
   unfold hU
   rw [if_neg (by rw [h.2.1];decide),if_pos h]
  rw [if_pos h,List.foldl_append,List.foldl_append,List.foldl_append,QA h,mU (n3 _),mU (n2 _),GD,hn,h.2.1,Rat.zero_add,Rat.one_mul,Rat.pow_one]
  simp only [Rat.add_assoc,Rat.add_comm,Rat.add_left_comm]
 ·have hn:hU a 1 c1=0:=by
   unfold hU
   by_cases c0:c1=0
   ·rw [if_pos c0]
   ·rw [if_neg c0,if_neg h]
  rw [if_neg h,List.foldl_append,List.foldl_append,List.foldl_append,mU (n3 _),mU (n2 _),mU h,GD,hn,Rat.zero_add,Rat.add_zero]
theorem QC {c:Rat}{n:Nat}(h:Bd c n)(hn:n≤16):Sl c:=by
 have:=h.sm hn
 exact ⟨Nat.lt_trans this.1 (by decide),this.2⟩
theorem ag5 {c:Rat}(h:Bd c 2):Bv c 1:=by
 refine aD h fun m alY hm=>?_;subst alY
 refine ⟨m*8,?_,Nat.le_trans (Nat.le_of_eq (Int.natAbs_mul m 8)) (Nat.le_trans (Nat.mul_le_mul_right 8 hm) (by decide))⟩
 rw [show (512:Nat)=64*8 from rfl,show (m*8:Int)=m*(8:Nat) from rfl,Rat.mkRat_mul_right (by decide)]
theorem WK {a:Rat}{x:Int}{cs:List Rat}{c0 c1 c2 c3:Rat}(ha:a∈rJ)(hb:Bd a 1)(hx:x∈DJ)(h0:Bd c0 1)(h1:Bd c1 1)(h2:Bd c2 1)(h3:Bd c3 1)
  (e0:cs.getD 0 0=c0) (e1:cs.getD 1 0=c1) (e2:cs.getD 2 0=c2) (e3:cs.getD 3 0=c3) {d:Nat}:xW (d+8) (fW a cs) x (WJ ((x:Rat)+a) c0 c1 c2 c3):=by
 have b0:Bv ((0:Int):Rat) 1:=⟨0,by decide+kernel,by decide⟩
 have b2:Bv ((2:Int):Rat) 1:=⟨1024,by decide+kernel,by decide⟩
 have b5:Bv ((5:Int):Rat) 1:=⟨2560,by decide+kernel,by decide⟩
 have hsh:∀k c,1≤k→k≤3→Bd c 1→∀d,∀p∈xZ a x k c,xW (d+7) p.v x p.r∧Bv p.r 1:=by
  intro k c k1 k3 hc d p hp
  unfold xZ at hp
  split at hp
  ·cases hp
  ·rename_i c0
   split at hp
   ·rw [List.mem_singleton] at hp;subst hp
    have w:xW (d+7) sx x (x:Rat):=acD (d:=d+7)
    refine ⟨w,?_⟩
    simp only [DJ,List.mem_cons,List.not_mem_nil,or_false] at hx
    rcases hx with rfl|rfl|rfl
    ·exact b0
    ·exact b2
    ·exact b5
   ·rw [List.mem_singleton] at hp;subst hp
    have w:=acG (d:=d) (fun d=>acF ha hx k1 k3) c0 (QC hc (by decide)) (WI (mT ha hx k3))
    exact ⟨w,PY hc (mT ha hx k3)⟩
 have hN:Bd (c0+hU a 1 c1) 2:=by
  refine Bd.add (n:=1) (k:=1) h0 ?_
  unfold hU
  split
  ·exact Bd.zero 1
  ·split
   ·exact hb
   ·exact Bd.zero 1
 have key:fW a cs=kR ((DK a x c1 c2 c3++nI (c0+hU a 1 c1)).map xY.v):=by rw [fW,e0,e1,e2,e3,List.map_append,PZ,acH]
 refine (Eq.symm key)▸?_;refine QB▸?_
 refine xW.up (d:=d) ?_ ?_
 ·have l1:∀k c,(xZ a x k c).length≤1:=by
   intro k c
   unfold xZ
   split
   ·exact Nat.le_of_ble_eq_true rfl
   ·split<;>exact Nat.le_of_ble_eq_true rfl
  have l2:(nI (c0+hU a 1 c1)).length≤1:=by
   unfold nI
   split<;>exact Nat.le_of_ble_eq_true rfl
  have a1:=l1 1 c1;have a2:=l1 2 c2;have a3:=l1 3 c3
  unfold DK
  split<;>simp only [List.length_append]<;>lia
 ·intro d p hp
  rcases List.mem_append.mp hp with hp|hp
  ·have hp:p∈xZ a x 1 c1∨p∈xZ a x 2 c2∨p∈xZ a x 3 c3:=by
    unfold DK at hp
    split at hp
    ·rcases List.mem_append.mp hp with hp|hp
     ·exact .inl hp
     ·rcases List.mem_append.mp hp with hp|hp
      ·exact .inr (.inr hp)
      ·exact .inr (.inl hp)
    ·rcases List.mem_append.mp hp with hp|hp
     ·exact .inr (.inr hp)
     ·rcases List.mem_append.mp hp with hp|hp
      ·exact .inr (.inl hp)
      ·exact .inl hp
   rcases hp with hp|hp|hp
   ·exact hsh 1 c1 (by decide) (by decide) h1 d p hp
   ·exact hsh 2 c2 (by decide) (by decide) h2 d p hp
   ·exact hsh 3 c3 (by decide) (by decide) h3 d p hp
  ·unfold nI at hp
   split at hp
   ·rw [List.mem_singleton] at hp;subst hp
    exact ⟨xX,ag5 hN⟩
   ·cases hp
noncomputable def bA0:List S:=thn (dP aV.body 1)
noncomputable def aqI:{g:CF→(β:Type)→List V→V→(Fm→Option β)→Option β // ∀C β a b k q,kS C glb (dP aV.body 0) β [.l a,.v b,.un,.un,.un,.un,.un,.un,.un,.un,.un,.un,.un] k q=g C β a b k}:=⟨_,by
 intro C β a b k q
 conv=>
  lhs
  dsimp only [aV,dP,aW,kS,kE,cL,dR,yR,jW,uW,aH,aI,List.map,aC,List.set,List.length,iV,iW,jH,bL,aZ,bM,bV,aL,aM,bZ,cA,aK,aP,aR,uF,uG,dQ,bQ,kU,EL,List.contains,List.elem,aB,iB,NM,List.replicate,Nat.reduceAdd,Nat.reduceSub]⟩
def mE (s:List V)(n:Nat):Prop:=∃(l:List Int) (k:Nat) (t:Int),s=[.lst (l.map .int),.int (.ofNat k),.int t]∧l.length≤40∧k+n≤500
theorem GE (i:Int){m:Nat}(hm:m≠0):∃r:Nat,r<m∧Int.fmod i m=.ofNat r:=by
 have h1:0≤Int.fmod i m:=Int.fmod_nonneg_of_pos _ (by lia)
 have h2:Int.fmod i m<m:=Int.fmod_lt_of_pos _ (by lia)
 refine aT (Int.eq_ofNat_of_zero_le h1) fun r hr=>?_
 exact ⟨r,by lia,hr⟩
theorem QD {β:Type}{i:Int}{m:Nat}(hm:m≠0){k:V→Option β}:ZQ (.int i) (.int (.ofNat m)) k=k (.int (Int.fmod i m)):=by
 refine (?_:cond (mI (.ofNat m) 0) none (pG (Int.fmod i (.ofNat m)) fun z=>k (.int z))=_)
 rw [FI hm,aP,hG];rfl
noncomputable def pn (l:List Int)(k:Nat)(t:Int):List V:=[.lst (l.map .int),.int (.ofNat k),.int t]
noncomputable def pB:List S:=gM.body
section
variable {C:CF}{β:Type}{q:V→Fm→Option β}{κ:Fm→Option β}{l:List Int}{k m r:Nat}{t x:Int}{a b:E}{ρ ρ1 ρ2:Fm}
theorem QE:Es C β q (dP pB 0) [.l (pn l k t),.v (.int (.ofNat m))] [.l (pn l (k+1) t),.v (.int (.ofNat m))]:=fun κ=>(fE (i:=.ofNat k) (j:=1) (fun _=>rfl) (fun _=>rfl) rfl _).trans rfl
theorem QF (h:Ev C β a ρ (.int x) ρ1)(g:Ev C β b ρ1 (.int (.ofNat m)) ρ2)(hm:m≠0)(e:Int.fmod x m=.ofNat r):Ev C β (.bin .mod a b) ρ (.int (.ofNat r)) ρ2:=fK h g fun k=>(QD hm).trans (by exact (Eq.symm e)▸rfl)
theorem QG (hl:l.length≤40)(K:V→Option β):SQ (.lst (l.map V.int)) K=K (.int (.ofNat l.length)):=by
 refine (?_:cond (Nat.ble (l.map V.int).length 1000) (K (.int (.ofNat (l.map V.int).length))) none=_)
 rw [List.length_map,eN (Nat.le_trans hl (by decide))];rfl
theorem GF (hl:l.length≤40):Ev C β (.cmp .le (.subO 0 (.int 1)) (.bi1 .len (.subO 0 (.int 0)))) [.l (pn l k t),.v (.int (.ofNat m))] (.bool (not (Nat.blt l.length k))) [.l (pn l k t),.v (.int (.ofNat m))]:=
 bU (o:=.le) (fun _=>rfl) (lZ (o:=.len) (x:=.lst (l.map .int)) (fun _=>rfl) (QG hl)) fun _=>rfl
theorem acI (hl:l.length≤40)(hx:l[k]? =some x)(hm:m≠0)(e:Int.fmod x m=.ofNat r):aW C glb pB β [.l (pn l k t),.v (.int (.ofNat m))] κ q=q (.int (.ofNat r)) [.l (pn l (k+1) t),.v (.int (.ofNat m))]:=by
 have hk:=(List.getElem?_eq_some_iff.mp hx).1
 refine gP QE (xJ (by have:=GF (C:=C) (β:=β) (k:=k+1) (t:=t) (m:=m) hl;rwa [qE hk] at this) fun _=>dH (QF (qR (x:=.lst (l.map .int)) (y:=.int (.ofNat k)) (fun _=>rfl) (fK (x:=.int (.ofNat (k+1))) (y:=.int 1) (fun _=>rfl) (fun _=>rfl) fun K=>rZ.trans (congrArg (fun i=>K (.int i)) (show ((k+1:Nat):Int) - 1=k by lia))) fun _=>gY (x:=.int x) (by refine (Eq.symm List.getElem?_map)▸?_;refine (Eq.symm hx)▸?_;rfl) (by lia)) (fun _=>rfl) hm e))
theorem acJ (hl:l.length≤40)(hk:l.length<k+1)(hk2:k+1<2^40)(hm:m≠0)(e:Int.fmod (Int.add (Int.add (Int.mul 5 (.ofNat (k+1))) (Int.fdiv (Int.mul (.ofNat (k+1)) (.ofNat (k+1))) 7)) t) m=.ofNat r):aW C glb pB β [.l (pn l k t),.v (.int (.ofNat m))] κ q=q (.int (.ofNat r)) [.l (pn l (k+1) t),.v (.int (.ofNat m))]:=by
 refine gP QE (gP (pV (by have:=GF (C:=C) (β:=β) (k:=k+1) (t:=t) (m:=m) hl;rwa [Nat.blt_eq.mpr hk] at this) kI) (dH (QF (fE (fE (fN (i:=5) (j:=.ofNat (k+1)) (fun _=>rfl) (fun _=>rfl) (by decide)) (fK (o:=.fdiv) (x:=.int (Int.mul (.ofNat (k+1)) (.ofNat (k+1)))) (y:=.int (.ofNat 7)) (z:=.int (Int.fdiv (Int.mul (.ofNat (k+1)) (.ofNat (k+1))) 7)) (fN (fun _=>rfl) (fun _=>rfl) hk2) (fun _=>rfl) fun K=>GB (i:=Int.mul (.ofNat (k+1)) (.ofNat (k+1))) (g:=7) (k:=K) (by decide) (by decide)) rfl) (fun _=>rfl) rfl) (fun _=>rfl) hm e)))
end
theorem hV {s:List V}{n m d:Nat}(hs:mE s (n+1))(hm:m≠0):∃r s',r<m∧Cn (d+2) 83 [.l s,.v (.int (.ofNat m))]=some (.int (.ofNat r),.l s')∧mE s' n:=by
 refine eP hs fun l k t alZ hl hk=>?_;subst alZ
 have hp:mE (pn l (k+1) t) n:=(jU l (k+1) t ⟨rfl,hl,by lia⟩)
 have run:∀r,aW (Cn (d+1)) glb pB _ [.l (pn l k t),.v (.int (.ofNat m))] (aC true .none) (aC true)=aC true (.int (.ofNat r)) [.l (pn l (k+1) t),.v (.int (.ofNat m))]→Cn (d+2) 83 [.l (pn l k t),.v (.int (.ofNat m))]=some (.int (.ofNat r),.l (pn l (k+1) t)):=fun r h=>
  (show Cn (d+2) 83 [.l (pn l k t),.v (.int (.ofNat m))]=aW (Cn (d+1)) glb pB _ [.l (pn l k t),.v (.int (.ofNat m))] (aC true .none) (aC true) from rfl).trans h
 by_cases h:l.length<k+1
 ·refine aD (GE (Int.add (Int.add (Int.mul 5 (.ofNat (k+1))) (Int.fdiv (Int.mul (.ofNat (k+1)) (.ofNat (k+1))) 7)) t) hm) fun r h1 h2=>?_
  exact (bW r _ ⟨h1,run r (acJ hl h (by lia) hm h2),hp⟩)
 ·refine aD (GE (l[k]'(Nat.lt_of_not_le fun q=>h (Nat.lt_succ_of_le q))) hm) fun r h1 h2=>?_
  exact (bW r _ ⟨h1,run r (acI hl (List.getElem?_eq_getElem _) hm h2),hp⟩)
def jZ (c:Int):Prop:=c= -2∨c= -1∨c=0∨c=1∨c=2
theorem GG {r:Nat}(h:r<5):jZ (Int.sub (.ofNat r) 2):=by
 have:r=0∨r=1∨r=2∨r=3∨r=4:=by lia
 rcases this with rfl|rfl|rfl|rfl|rfl
 ·exact .inl rfl
 ·exact .inr (.inl rfl)
 ·exact .inr (.inr (.inl rfl))
 ·exact .inr (.inr (.inr (.inl rfl)))
 ·exact .inr (.inr (.inr (.inr rfl)))
theorem dZ {c:Int}(h:jZ c):(c:Rat)∈rP:=by
 rcases h with rfl|rfl|rfl|rfl|rfl<;>decide+kernel
noncomputable def stR (C:CF)(σ:Fm)(q:Option V→Fm→Option (List V×Fm)):Option (List V×Fm):=match σ.at 0 with
 |.l xs=>(C 83 [.l xs,.v (.int 5)]).bind fun r=>KE r.1 (.int 2) fun z=>q (some z) (σ.set 0 r.2)
 |.d xs=>(C 83 [.d xs,.v (.int 5)]).bind fun r=>KE r.1 (.int 2) fun z=>q (some z) (σ.set 0 r.2)
 |_=>none
theorem ag6 {C:CF}{σ:Fm}{q:Option V→Fm→Option (List V×Fm)}{s s1:List V}{r:Nat}{y:Option (List V×Fm)}(e:σ.at 0=.l s)(h:C 83 [.l s,.v (.int 5)]=some (.int (.ofNat r),.l s1))(g:q (some (.int (Int.sub (.ofNat r) 2))) (σ.set 0 (.l s1))=y):stR C σ q=y:=by
 unfold stR
 rw [e]
 exact bB h (rZ.trans g)
noncomputable def fR (s:List V)(rest:List aF)(sl:aF):Fm:=.l s::(rest.take 12++[sl])
theorem acK {rest:List aF}(hr:rest.length=13)(s:List V)(sl x:aF):(fR s rest sl).set 13 x=fR s rest x:=by
 have ht:(rest.take 12).length=12:=by rw [List.length_take,hr];rfl
 show aF.l s::((rest.take 12++[sl]).set 12 x)=_
 rw [List.set_append_right _ _ (by lia),ht];rfl
theorem WL {bind:V→Fm→Option Fm}{step:Fm→(Option V→Fm→Option (List V×Fm))→Option (List V×Fm)}{x:V}{r:List V}{ρ:Fm}:uV bind step (x::r) ρ=(bind x ρ).bind fun ρ₁=>step ρ₁ fun o ρ₂=>(uV bind step r ρ₂).bind fun z=>some ((match o with|some y=>y::z.1|none=>z.1),z.2):=rfl
theorem AJ {C:CF}{rest:List aF}{m:Nat}(hr:rest.length=13)
  (hp:∀(s:List V) (n:Nat),mE s (n+1)→∃r s',r<5∧C 83 [.l s,.v (.int 5)]=some (.int (.ofNat r),.l s')∧mE s' n) (n:Nat):
  ∀(a:Int) (s:List V) (sl:aF),mE s (n+m)→∃row:List Int,row.length=n∧(∀c∈row,jZ c)∧∃s' sl',mE s' m∧
   uV (fun x σ=>some (σ.set 13 (.v x))) (stR C) (upTo n a) (fR s rest sl)=some (row.map .int,fR s' rest sl'):=by
 induction n with
 |zero=>exact fun a s sl hs=>⟨[],rfl,(fun c h=>by cases h),s,sl,Nat.zero_add m▸hs,rfl⟩
 |succ n ih=>
  refine fun a s sl hs=>?_
  refine iJ fun gG gH=>?_;refine bY (hp s (n+m) (Eq.subst (motive:=fun k=>mE s k) (show n+1+m=n+m+1 from Nat.succ_add n m) hs)) fun r s1 h1 h2 h3=>?_
  refine iA (ih (a+1) s1 (.v (.int a)) h3) fun row q1 q2 g=>?_
  refine dI g fun s' sl' q3 q4=>?_
  refine gH ?_
  refine Exists.intro (Int.sub (.ofNat r) 2::row) ⟨congrArg (· +1) q1,?_,bW s' sl' ⟨q3,?_⟩⟩
  ·intro c hc
   cases hc with
   |head=>exact GG h1
   |tail _ hc=>exact q2 c hc
  ·exact WL.trans (bB (congrArg some (acK hr _ _ _)) (ag6 rfl h2 (bB q4 rfl)))
theorem QH {at_ st d:Nat}(h1:at_≤3)(h2:st≤3):∃ch:Int,Cn (d+3) 89 [.v (.int (.ofNat at_)),.v (.int (.ofNat st))]=some (.int ch,.un)∧0≤ch∧ch≤3∧(st≤at_→∀α∈mB,(ch:Rat)*α^(at_ - st)=pw α at_ st):=by
 have key:∀(i j:Nat) (ch:Int),(∀d,aX (d+2) 89 [.v (.int (.ofNat i)),.v (.int (.ofNat j))]=some (.int ch,.un))→0≤ch→ch≤3→(j≤i→(mB.all fun α=>decide ((ch:Rat)*α^(i - j)=pw α i j))=true)→
   ∃ch:Int,Cn (d+3) 89 [.v (.int (.ofNat i)),.v (.int (.ofNat j))]=some (.int ch,.un)∧0≤ch∧ch≤3∧(j≤i→∀α∈mB,(ch:Rat)*α^(i - j)=pw α i j):=
  fun i j ch a1 a2 a3 a4=>⟨ch,cO (a1 d),a2,a3,fun hh α hα=>of_decide_eq_true (List.all_eq_true.mp (a4 hh) α hα)⟩
 have c1:at_=0∨at_=1∨at_=2∨at_=3:=by lia
 have c2:st=0∨st=1∨st=2∨st=3:=by lia
 rcases c1 with rfl|rfl|rfl|rfl
 ·rcases c2 with rfl|rfl|rfl|rfl
  ·exact key 0 0 1 (fun d=>by kernel_rfl) (by decide) (by decide) fun _=>by decide+kernel
  ·exact key 0 1 0 (fun d=>by kernel_rfl) (by decide) (by decide) fun h=>absurd h (by decide)
  ·exact key 0 2 0 (fun d=>by kernel_rfl) (by decide) (by decide) fun h=>absurd h (by decide)
  ·exact key 0 3 0 (fun d=>by kernel_rfl) (by decide) (by decide) fun h=>absurd h (by decide)
 ·rcases c2 with rfl|rfl|rfl|rfl
  ·exact key 1 0 1 (fun d=>by kernel_rfl) (by decide) (by decide) fun _=>by decide+kernel
  ·exact key 1 1 1 (fun d=>by kernel_rfl) (by decide) (by decide) fun _=>by decide+kernel
  ·exact key 1 2 0 (fun d=>by kernel_rfl) (by decide) (by decide) fun h=>absurd h (by decide)
  ·exact key 1 3 0 (fun d=>by kernel_rfl) (by decide) (by decide) fun h=>absurd h (by decide)
 ·rcases c2 with rfl|rfl|rfl|rfl
  ·exact key 2 0 1 (fun d=>by kernel_rfl) (by decide) (by decide) fun _=>by decide+kernel
  ·exact key 2 1 2 (fun d=>by kernel_rfl) (by decide) (by decide) fun _=>by decide+kernel
  ·exact key 2 2 1 (fun d=>by kernel_rfl) (by decide) (by decide) fun _=>by decide+kernel
  ·exact key 2 3 0 (fun d=>by kernel_rfl) (by decide) (by decide) fun h=>absurd h (by decide)
 ·rcases c2 with rfl|rfl|rfl|rfl
  ·exact key 3 0 1 (fun d=>by kernel_rfl) (by decide) (by decide) fun _=>by decide+kernel
  ·exact key 3 1 3 (fun d=>by kernel_rfl) (by decide) (by decide) fun _=>by decide+kernel
  ·exact key 3 2 3 (fun d=>by kernel_rfl) (by decide) (by decide) fun _=>by decide+kernel
  ·exact key 3 3 1 (fun d=>by kernel_rfl) (by decide) (by decide) fun _=>by decide+kernel
theorem lS:∀(j i:Nat),upTo j (.ofNat i)=(List.range' i j).map fun t=>.int (.ofNat t)
 |0,_=>rfl
 |j+1,i=>congrArg _ (lS j (i+1))
theorem vV {α:Rat}(h:α∈mB)(k:Nat)(hk:k≤3):(α^k).num.natAbs≤8∧(α^k).den≤8:=by
 have all:(mB.all fun α=>(List.range 4).all fun k=>Nat.ble (α^k).num.natAbs 8 && Nat.ble (α^k).den 8)=true:=by decide+kernel
 have:=List.all_eq_true.mp (List.all_eq_true.mp all α h) k (List.mem_range.mpr (by omega))
 exact ⟨Nat.le_of_ble_eq_true (iQ this).1,Nat.le_of_ble_eq_true (iQ this).2⟩
theorem AK {c:Int}(h:jZ c):c.natAbs≤2:=by
 rcases h with rfl|rfl|rfl|rfl|rfl<;>decide
theorem WM {α:Rat}{c ch:Int}{k:Nat}:mkRat (Int.mul (Int.mul c ch) (α^k).num) (α^k).den=(c:Rat)*((ch:Rat)*α^k):=by
 have e:(c:Rat)*((ch:Rat)*α^k)=mkRat (c*ch) 1*mkRat (α^k).num (α^k).den:=by
  rw [Rat.mkRat_self, ←Rat.mul_assoc]
  congr 1
  rw [←Rat.intCast_mul];exact (Rat.mkRat_self ((c*ch:Int):Rat)).symm
 rw [e,Rat.mkRat_mul_mkRat,Nat.one_mul];rfl
noncomputable def fO (ns:List Int):V:=.lst (ns.map .int)
noncomputable def tW (ns:List Int):List Rat:=ns.map fun c:Int=>(c:Rat)
noncomputable def lT (ns:List Int)(k:Nat):Rat:=((ns.getD k 0:Int):Rat)
theorem eU {ns:List Int}(h:∀c∈ns,jZ c)(k:Nat):jZ (ns.getD k 0):=by
 rw [List.getD_eq_getElem?_getD]
 cases e:ns[k]? with
 |none=>exact .inr (.inr (.inl rfl))
 |some x=>exact h x (List.mem_of_getElem? e)
theorem vW {d:Nat}{ns:List Int}(hn:ns.length≤4)(h:∀c∈ns,jZ c):Cn (d+42) 87 [.v (fO ns)]=some (fW 0 (tW ns),.un):=by
 refine (show UV.1 (Cn (d+41)) _=_ from ?_)
 have hmon:∀(ns:List Int) (i:Nat),BH (fun x=>match x with
   |.tup l=>match l with
    |x::r=>match r with
     |x_1::r=>match r with
      |[]=>some (some (V.tup [.str 3,.tup [.tup [.str 0,x_1,.int 1],.tup [.str 4,.tup [.str 1,.str 17],.tup [.str 0,x,.int 1]]]]))
      |_=>none
     |[]=>none
    |[]=>none
   |_=>none) (lW (.ofNat i) (ns.map .int))=some (gQ sx i (tW ns)):=by
  intro ns
  induction ns with
  |nil=>intro i;rfl
  |cons c ns ih=>
   intro i
   rw [show lW (.ofNat i) ((c::ns).map .int)=.tup [.int (.ofNat i),.int c]::lW (.ofNat (i+1)) (ns.map .int) from rfl,ON]
   dsimp only
   rw [aB]
   dsimp only
   rw [ih (i+1)];rfl
 have hlen:∀(l:List V) (i:Int),(lW i l).length=l.length:=by
  intro l
  induction l with
  |nil=>intro i;rfl
  |cons x l ih=>intro i;exact congrArg (· +1) (ih _)
 have hb:∀c∈tW ns,Bd c 1:=by
  intro c hc
  rw [tW,List.mem_map] at hc
  obtain ⟨x,hx,rfl⟩:=hc
  refine ⟨x*64,?_,?_⟩
  ·rw [show mkRat (x*64) 64=mkRat (x*(64:Nat)) (1*64) from rfl,Rat.mkRat_mul_right (by decide)]
   exact (Rat.mkRat_self ((x:Int):Rat)).symm
  ·have:=AK (h x hx)
   rw [Int.natAbs_mul]
   show x.natAbs*64≤1*2^14
   omega
 have hs:=AC (a:=0) (cs:=tW ns) (by decide+kernel) (Bd.zero 1) (by rw [tW,List.length_map];exact hn) hb (d:=d+1)
 dsimp only [UV,fO,fD,aK]
 refine hM (hmon ns 0) ?_
 have hml:(gQ sx 0 (tW ns)).length≤4:=by rw [vR,tW,List.length_map];exact hn
 rw [hlen,List.length_map,eN (show ns.length≤1000 by omega),aK,show Nat.beq (0+1) (0+1)=true from rfl,aK,eN (show (gQ sx 0 (tW ns)).length≤1000 by omega),aK]
 exact hM hs rfl
theorem QI {β:Type}{k n:Nat}(hk:k<1000)(hn:n<1000){q:List V→Option β}:BI (.ofNat k) (.ofNat n) q=q (upTo (n - k) (.ofNat k)):=by
 refine (?_:cond (Nat.blt n 1000) (cond (Nat.blt k 1000) (cond true (cond true (q (upTo (Int.toNat (Int.sub (.ofNat n) (.ofNat k))) (.ofNat k))) none) none) none) none=_)
 refine (Eq.symm (Nat.blt_eq.mpr hn))▸?_;refine (Eq.symm (Nat.blt_eq.mpr hk))▸?_;refine (Eq.symm (show Int.toNat (Int.sub (.ofNat n) (.ofNat k))=n - k from Int.toNat_sub n k))▸?_;rfl
noncomputable def inS (α:Rat)(ns:List Int)(k:Nat):Rat:=(List.range' k (ns.length - k)).foldl (fun r t=>r+lT ns t*pw α t k) 0
theorem AL {ns:List Int}{t:Nat}(h:ns.length≤t):lT ns t=0:=by
 rw [lT,List.getD_eq_getElem?_getD,List.getElem?_eq_none h];rfl
theorem acL {α:Rat}{ns:List Int}{k:Nat}(hn:ns.length≤4)(hk:k≤3):inS α ns k=mS α (lT ns 0) (lT ns 1) (lT ns 2) (lT ns 3) k:=by
 have z:∀t,(ns.length≤t∨t<k)→lT ns t*pw α t k=0:=by
  rintro t (h|h)
  ·rw [AL h,Rat.zero_mul]
  ·rw [FW h,Rat.mul_zero]
 have hl:∀(l:List Nat) (r:Rat),(∀t∈l,lT ns t*pw α t k=0)→l.foldl (fun r t=>r+lT ns t*pw α t k) r=r:=by
  intro l
  induction l with
  |nil=>intro r _;rfl
  |cons a l ih=>intro r h;rw [List.foldl_cons,h a (.head _),Rat.add_zero];exact ih r fun t ht=>h t (.tail _ ht)
 have full:(List.range 4).foldl (fun r t=>r+lT ns t*pw α t k) 0=inS α ns k:=by
  by_cases h:k≤ns.length
  ·have e:List.range 4=List.range' 0 k++(List.range' k (ns.length - k)++List.range' ns.length (4 - ns.length)):=by
    rw [List.range_eq_range']
    have e1:=List.range'_append_1 (s:=k) (m:=ns.length - k) (n:=4 - ns.length)
    have e2:=List.range'_append_1 (s:=0) (m:=k) (n:=ns.length - k+(4 - ns.length))
    rw [Nat.add_sub_of_le h] at e1
    rw [Nat.zero_add] at e2
    rw [e1,e2];exact congrArg (List.range' 0) ((Nat.add_assoc _ _ _).symm.trans ((congrArg (· +(4 - ns.length)) (Nat.add_sub_of_le h)).trans (Nat.add_sub_of_le hn))).symm
   rw [e,List.foldl_append,List.foldl_append,hl (List.range' 0 k) 0 (fun t ht=>z t (.inr (Nat.lt_of_lt_of_eq (List.mem_range'_1.mp ht).2 (Nat.zero_add k)))),hl (List.range' ns.length (4 - ns.length)) _ (fun t ht=>z t (.inl (List.mem_range'_1.mp ht).1))];rfl
  ·rw [hl _ 0 (fun t ht=>z t ((Nat.lt_or_ge t k).elim .inr fun g=>.inl (Nat.le_trans (Nat.le_of_not_le h) g))),inS,Nat.sub_eq_zero_of_le (Nat.le_of_not_le h)];rfl
 rw [←full]
 show 0+lT ns 0*pw α 0 k+lT ns 1*pw α 1 k+lT ns 2*pw α 2 k+lT ns 3*pw α 3 k=_
 unfold mS
 rw [Rat.zero_add]
 simp only [Rat.add_assoc,Rat.add_comm,Rat.add_left_comm]
noncomputable def bA1:List S:=rN (dP bA0 2)
noncomputable def bA2:List S:=rN (dP bA1 1)
noncomputable def fB (a:aF)(e:Nat)(α:Rat)(s4 s5 s6 s7 s8 s9:aF):Fm:=[a,.v (.int (.ofNat e)),.v (.int 0),.v (qv α),s4,s5,s6,s7,s8,s9,.un,.un,.un]
section
variable {C:CF}{β:Type}{q:V→Fm→Option β}{a s5 s6 s7 s8 s9:aF}{e k t c ch d m:Nat}{α r:Rat}{ns:List Int}{F:List V}{s:List V}
theorem WN {x:E}{ρ ρ1:Fm}{n:Nat}(h:Ev C β x ρ (.int (.ofNat n)) ρ1)(hn:n<1000)(K:List V→Fm→Option β):jW C glb (.rng1 x) β ρ K=K ((List.range n).map fun t=>.int (.ofNat t)) ρ1:=
 (h _).trans ((sD hn).trans (congrArg (K · _) (by refine (Eq.symm List.range_eq_range')▸?_;exact lS n 0)))
theorem ag7 {w:Rat}{s4:aF}(c86:C 86 [.v (qv α),.v (.int (Int.sub (.ofNat t) (.ofNat k)))]=some (qv w,.un)):
  Es C β q (dP bA2 0) (fB a e α s4 s5 (.v (.int (.ofNat k))) s7 (.v (.int (.ofNat t))) s9) (fB a e α s4 s5 (.v (.int (.ofNat k))) s7 (.v (.int (.ofNat t))) (.v (qv w))):=
 cG (aU (cB (fun _=>rfl) (oV (fun _=>rfl) fun _=>rfl)) c86) rfl
theorem ag8 {R:V}{w r':Rat}{c ch:Int}(hget:∀K:V→Option β,sP R (.int (.ofNat t)) K=K (.int c))(c89:C 89 [.v (.int (.ofNat t)),.v (.int (.ofNat k))]=some (.int ch,.un))(b1:c.natAbs<2^40)(b2:(Int.mul c ch).natAbs<2^40)(c85:C 85 [.v (qv r),.v (.tup [.int (Int.mul (Int.mul c ch) w.num),.int w.den])]=some (qv r',.un)):
  Es C β q (dP bA2 1) (fB a e α (.v R) s5 (.v (.int (.ofNat k))) (.v (qv r)) (.v (.int (.ofNat t))) (.v (qv w))) (fB a e α (.v R) s5 (.v (.int (.ofNat k))) (.v (qv r')) (.v (.int (.ofNat t))) (.v (qv w))):=
 cG (aU (cB (fun _=>rfl) (hK (cB (fN (fN (qR (fun _=>rfl) (fun _=>rfl) hget) (aU (cB (fun _=>rfl) fun _=>rfl) c89) b1) (fun _=>rfl) b2) fun _=>rfl))) c85) rfl
theorem JB {c ch:Int}{w:Rat}(hc:c.natAbs≤2)(h0:0≤ch)(h3:ch≤3)(b1:w.num.natAbs≤8):(Int.mul c ch).natAbs<2^40∧(Int.mul (Int.mul c ch) w.num).natAbs<2^40:=by
 have m1:(Int.mul c ch).natAbs≤6:=by
  show (c*ch).natAbs≤6
  rw [Int.natAbs_mul]
  exact Nat.mul_le_mul hc (Int.ofNat_le.mp (Int.le_trans (Int.le_of_eq (Int.natAbs_of_nonneg h0)) h3):ch.natAbs≤3)
 refine ⟨Nat.lt_of_le_of_lt m1 (by decide),?_⟩
 show (Int.mul c ch*w.num).natAbs<2^40
 rw [Int.natAbs_mul]
 exact Nat.lt_of_le_of_lt (Nat.mul_le_mul m1 b1) (by decide)
noncomputable def iT (α:Rat)(ns:List Int)(k:Nat)(r:Rat)(t:Nat):Rat:=r+lT ns t*pw α t k
theorem acM (hα:α∈mB)(hns:∀c∈ns,jZ c)(hn:ns.length≤4)(hk:k≤t)(ht:t<ns.length)(hr:Bd r c)(hc:c≤4):
  ∃w,qQ (Cn (d+50)) β q bA2 (fB a e α (.v (fO ns)) s5 (.v (.int (.ofNat k))) (.v (qv r)) (.v (.int (.ofNat t))) s9) (fB a e α (.v (fO ns)) s5 (.v (.int (.ofNat k))) (.v (qv (iT α ns k r t))) (.v (.int (.ofNat t))) w):=by
 have t3:t≤3:=Nat.le_of_lt_succ (Nat.lt_of_lt_of_le ht hn)
 refine iJ fun gG gH=>?_;refine XU (QH (at_:=t) (st:=k) (d:=d+47) t3 (Nat.le_trans hk t3)) fun ch hch ch0 ch3 hpw=>?_
 have hca:=AK (eU hns t)
 refine aG (vV hα (t - k) (gX t3)) fun b1 b2=>?_
 refine aG (vV hα 1 (by decide)) fun b3 b4=>?_
 rw [Rat.pow_one] at b3 b4
 refine aG (JB (w:=α^(t - k)) hca ch0 ch3 b1) fun m1 m2=>?_
 refine gH ?_;refine ⟨_,lH (ag7 (w:=α^(t - k)) ?_) (ag8 (c:=ns.getD t 0) (ch:=ch) (fun K=>?_) hch (Nat.lt_of_le_of_lt hca (by decide)) m1 ?_)⟩
 ·refine (Eq.symm (show Int.sub (.ofNat t) (.ofNat k)=.ofNat (t - k) from (Int.ofNat_sub hk).symm))▸?_
  exact tV (d:=d+47) ⟨Nat.lt_of_le_of_lt b3 (by decide),Nat.lt_of_le_of_lt b4 (by decide)⟩ (gX (Nat.le_trans t3 (by decide))) (by rw [←Rat.den_pow];exact Nat.lt_of_le_of_lt b2 (by decide))
 ·exact gY (by refine (Eq.symm List.getElem?_map)▸?_;refine (Eq.symm List.getD_eq_getElem?_getD)▸?_;refine (Eq.symm (List.getElem?_eq_getElem ht))▸?_;rfl) (Nat.le_trans t3 (by decide))
 ·refine (tU (d:=d+47) (QC hr (Nat.le_trans hc (by decide))) m2 (α^(t - k)).den_nz (Nat.lt_of_le_of_lt b2 (by decide))).trans ?_
  refine (Eq.symm WM)▸?_;refine (Eq.symm (hpw hk α hα))▸?_;rfl
def ag9 (a:aF)(e:Nat)(α:Rat)(ns:List Int)(F:aF)(k:Nat)(c:Nat)(r:Rat)(ρ:Fm):Prop:=(c≤4∧Bd r (4 - c))∧∃s8 s9,ρ=fB a e α (.v (fO ns)) F (.v (.int (.ofNat k))) (.v (qv r)) s8 s9
theorem WO {β:Type}{ns:List Int}(hn:ns.length≤4)(K:V→Option β):SQ (fO ns) K=K (.int (.ofNat ns.length)):=by
 refine (?_:cond (Nat.ble (ns.map V.int).length 1000) (K (.int (.ofNat (ns.map V.int).length))) none=_)
 rw [List.length_map,eN (Nat.le_trans hn (by decide))];rfl
theorem ahA (hα:α∈mB)(hns:∀c∈ns,jZ c)(hn:ns.length≤4)(hk:k≤3):∃τ,ag9 a e α ns s5 k 0 (inS α ns k) τ∧Es (Cn (d+50)) β q (dP bA1 1) (fB a e α (.v (fO ns)) s5 (.v (.int (.ofNat k))) (.v (qv 0)) s8 s9) τ:=
 kP (val:=fun t=>V.int (.ofNat t)) (L:=List.range' k (ns.length - k)) (ag9 a e α ns s5 k) (iT α ns k) 13 rfl
  (fun K=>by
   refine (?_:SQ (fO ns) (fun y=>match y with
    |.int n=>BI (.ofNat k) n fun l=>K l _
    |_=>none)=_)
   exact (WO hn _).trans ((QI (Nat.lt_of_le_of_lt hk (by decide)) (Nat.lt_of_le_of_lt hn (by decide))).trans (congrArg (K · _) (lS _ _)))) (fun _ _ _ ⟨_,_,_,e⟩=>e▸rfl) ⟨⟨Nat.le_trans (Nat.le_of_eq List.length_range') (gX hn),Bd.zero _⟩,_,_,rfl⟩ (by
   rintro t ht c r ρ ⟨⟨hc,hr⟩,s8,s9,rfl⟩
   rw [List.mem_range'_1] at ht
   refine aT (acM (d:=d) (β:=β) (q:=q) (a:=a) (e:=e) (s5:=s5) (s9:=s9) hα hns hn ht.1 (abF ht) hr (gX (by decide))) fun w h=>?_
   exact (bW _ _ ⟨fun _=>rfl,⟨⟨Nat.le_of_succ_le hc,(hr.add (tS (dZ (eU hns t)) hα).bd).mono (pX hc)⟩,_,_,rfl⟩,h⟩))
def ahB (a:aF)(e:Nat)(α:Rat)(ns:List Int)(c:Nat)(F:List V)(ρ:Fm):Prop:=F.length+c≤4∧∃s6 s7 s8 s9,ρ=fB a e α (.v (fO ns)) (.l F) s6 s7 s8 s9
theorem ahC (hα:α∈mB)(hns:∀c∈ns,jZ c)(hn:ns.length≤4)(hk:k≤3)(hF:F.length≤4):∃s7 s8' s9',qQ (Cn (d+50)) β q bA1 (fB a e α (.v (fO ns)) (.l F) (.v (.int (.ofNat k))) s6 s8 s9) (fB a e α (.v (fO ns)) (.l (F++[qv (inS α ns k)])) (.v (.int (.ofNat k))) s7 s8' s9'):=by
 refine aD (ahA (d:=d) (β:=β) (q:=q) (a:=a) (e:=e) (s5:=.l F) (s8:=s8) (s9:=s9) hα hns hn hk) fun τ al3 h=>?_;obtain ⟨_,s8',s9',rfl⟩:=al3
 exact (jU _ _ _ (fF (cG (v:=qv 0) (fun _=>rfl) rfl) (lH h (NO (xs:=F) (fun _=>rfl) rfl rfl (Nat.le_trans hF (by decide)) rfl))))
theorem ahD (hα:α∈mB)(hns:∀c∈ns,jZ c)(hn:ns.length≤4)(he:e≤3):∃τ,ahB a e α ns 0 ((List.range (e+1)).foldl (fun F k=>F++[qv (inS α ns k)]) []) τ∧Es (Cn (d+50)) β q (dP bA0 2) (fB a e α (.v (fO ns)) (.l []) s6 s7 s8 s9) τ:=
 kP (val:=fun t=>V.int (.ofNat t)) (L:=List.range (e+1)) (ahB a e α ns) (fun F k=>F++[qv (inS α ns k)]) 13 rfl
  (WN (n:=e+1) (fE (i:=.ofNat e) (j:=1) (fun _=>rfl) (fun _=>rfl) rfl) (Nat.lt_of_le_of_lt (Nat.succ_le_succ he) (by decide))) (fun _ _ _ ⟨_,_,_,_,_,e⟩=>e▸rfl) ⟨Nat.le_trans (Nat.le_of_eq ((Nat.zero_add _).trans List.length_range)) (Nat.succ_le_succ he),_,_,_,_,rfl⟩ (by
   rintro k hk c F ρ ⟨hc,s6,s7,s8,s9,rfl⟩
   rw [List.mem_range] at hk
   refine nK (ahC (d:=d) (β:=β) (q:=q) (a:=a) (e:=e) (F:=F) (s6:=s7) (s8:=s8) (s9:=s9) hα hns hn (Nat.le_trans (Nat.le_of_lt_succ hk) he) (Nat.le_trans (Nat.le_add_right _ _) hc)) fun s7' s8' s9' h=>?_
   exact (bW _ _ ⟨fun _=>rfl,⟨by rw [List.length_append,Nat.add_assoc];exact Nat.le_trans (Nat.le_of_eq (congrArg (F.length+ ·) (Nat.add_comm 1 c))) hc,_,_,_,_,rfl⟩,h⟩))
theorem ahE (hs:mE s (6+m)):∃ns:List Int,ns.length≤4∧(∀c∈ns,jZ c)∧∃s',mE s' m∧Es (Cn (d+50)) β q (dP bA0 0) (fB (.l s) e α .un .un .un .un .un .un) (fB (.l s') e α (.v (fO ns)) .un .un .un .un .un):=by
 refine iJ fun gG gH=>?_;refine bY (hV (d:=d+48) (m:=5) (n:=5+m) (Eq.subst (motive:=fun k=>mE s k) (show 6+m=5+m+1 from Nat.add_right_comm 5 1 m) hs) (by decide)) fun n s1 hn hp1 hs1=>?_
 have hs1':mE s1 (n+(5 - n+m)):=by rw [(Nat.add_assoc n (5 - n) m).symm.trans (congrArg (· +m) (Nat.add_sub_of_le (Nat.le_of_lt hn)))];exact hs1
 refine iA (AJ (C:=Cn (d+50)) (rest:=[.v (.int (.ofNat e)),.v (.int 0),.v (qv α),.un,.un,.un,.un,.un,.un,.un,.un,.un,.un]) rfl (fun s n h=>hV (d:=d+48) h (by decide)) n 0 s1 .un hs1') fun ns q1 q2 al4=>?_;obtain ⟨s2,sl,q3,q4⟩:=al4
 refine gH ?_;refine ⟨ns,Nat.le_of_lt_succ (Nat.lt_of_le_of_lt (Nat.le_of_eq q1) hn),q2,s2,?_,fun κ=>?_⟩
 ·refine eP q3 fun l k t e1 e2 e3=>?_
  exact (jU l k t ⟨e1,e2,Nat.le_trans (Nat.add_le_add_left (Nat.le_add_left m (5 - n)) k) e3⟩)
 have hu:(upTo n 0).length=n:=by
  have:=congrArg List.length (lS n 0)
  rw [List.length_map,List.length_range'] at this
  exact this
 refine bB hp1 ((sD (Nat.lt_trans hn (by decide):n<1000)).trans (bB q4 ?_))
 rw [hu,eN (Nat.le_of_lt (Nat.lt_trans hn (by decide:5<1000)))];rfl
theorem acN (hs:mE s (6+m))(hα:α∈mB)(he:e≤3):∃ns:List Int,ns.length≤4∧(∀c∈ns,jZ c)∧∃s' F,mE s' m∧(F:Fm).at 0=.l s'∧
  ∀κ,aW (Cn (d+50)) glb bA0 β (fB (.l s) e α .un .un .un .un .un .un) κ q=q (.tup [fW 0 (tW ns),qv α,.lst (qL (e+1) (mS α (lT ns 0) (lT ns 1) (lT ns 2) (lT ns 3)))]) F:=by
 refine iJ fun gG gH=>?_;refine iA (ahE (d:=d) (β:=β) (q:=q) (e:=e) (α:=α) hs) fun ns h4 hns al0=>?_;obtain ⟨s',hp,h0⟩:=al0
 refine aD (ahD (d:=d) (β:=β) (q:=q) (a:=.l s') (s6:=.un) (s7:=.un) (s8:=.un) (s9:=.un) hα hns h4 he) fun τ al1 h2=>?_;obtain ⟨_,s6,s7,s8,s9,rfl⟩:=al1
 refine gH ?_;have hfold:∀(l:List Nat) (s:List V),l.foldl (fun F k=>F++[qv (inS α ns k)]) s=s++l.map fun k=>qv (inS α ns k):=by
  intro l
  induction l with
  |nil=>intro s;exact (List.append_nil s).symm
  |cons a l ih=>intro s;rw [List.foldl_cons,ih,List.append_assoc];rfl
 have e1:(List.range (e+1)).foldl (fun F k=>F++[qv (inS α ns k)]) []=qL (e+1) (mS α (lT ns 0) (lT ns 1) (lT ns 2) (lT ns 3)):=by
  rw [hfold,List.nil_append]
  refine List.map_congr_left fun k hk=>?_
  rw [List.mem_range] at hk
  rw [acL h4 (by lia)]
 rw [e1] at h2
 exact ⟨ns,h4,hns,s',_,hp,rfl,fun κ=>(h0 _).trans (((fun _=>rfl:Es (Cn (d+50)) β q (dP bA0 1) _ _) _).trans ((h2 _).trans (bB (vW (d:=d+8) h4 hns) rfl)))⟩
end
noncomputable def vX:List S:=[dP aE.body 2,dP aE.body 3,dP aE.body 4]
noncomputable def fM (a:aF)(e:Nat)(t p r:V)(s5 s6 s7 s8 s9 s10 s11 s12:aF):Fm:=[a,.v (.int (.ofNat e)),.v t,.v p,.v r,s5,s6,s7,s8,s9,s10,s11,s12]
noncomputable def b4:List S:=rN (dP aE.body 4)
noncomputable def b41:List S:=rN (dP b4 1)
section
variable {C:CF}{β:Type}{q:V→Fm→Option β}{a:aF}{e k:Nat}{t p r made:V}{s5 s6 s7 s8 s9 s10 s11 s12:aF}{x:Int}{α s y w s' fk:Rat}
theorem ahF (c85:C 85 [.v (.tup [.int x,.int 1]),.v (.tup [.int (Int.sub 0 α.num),.int α.den])]=some (qv y,.un))(c86:C 86 [.v (qv y),.v (.int (.ofNat k))]=some (qv w,.un)):
  Es C β q (dP b41 0) (fM a e t (qv α) r s5 s6 (.v (.int x)) s8 (.v (.int (.ofNat k))) s10 s11 s12) (fM a e t (qv α) r s5 s6 (.v (.int x)) s8 (.v (.int (.ofNat k))) s10 (.v (qv w)) s12):=
 cG (aU (cB (aU (cB (fun _=>rfl) (hK (cB (oV (fun _=>rfl) fun _=>rfl) fun _=>rfl))) c85) fun _=>rfl) c86) rfl
theorem ahG (b1:fk.num.natAbs<2^40)(b2:(fk.den:Int).natAbs<2^40)(c85:C 85 [.v (qv s),.v (.tup [.int (Int.mul fk.num w.num),.int (Int.mul fk.den w.den)])]=some (qv s',.un)):
  Es C β q (dP b41 1) (fM a e t p r s5 s6 s7 (.v (qv s)) s9 (.v (qv fk)) (.v (qv w)) s12) (fM a e t p r s5 s6 s7 (.v (qv s')) s9 (.v (qv fk)) (.v (qv w)) s12):=
 cG (aU (cB (fun _=>rfl) (hK (cB (fN (fun _=>rfl) (fun _=>rfl) b1) (fN (fun _=>rfl) (fun _=>rfl) b2)))) c85) rfl
theorem QJ {β:Type}{r:Rat}{k:Bool→Option β}:uH (qv r) (qv r) k=k true:=by rw [YO,decide_eq_true rfl]
theorem ahH (c88:C 88 [.v made,.v (.int x)]=some (qv s,.un)):Es C β q (dP b4 2) (fM a e t p r s5 (.v made) (.v (.int x)) (.v (qv s)) s9 s10 s11 s12) (fM a e t p r s5 (.v made) (.v (.int x)) (.v (qv s)) s9 s10 s11 s12):=
 pV (bU (aU (cB (fun _=>rfl) fun _=>rfl) c88) (fun _=>rfl) fun _=>QJ.trans rfl) kI
theorem ahI (c82:C 82 [.v t,.v (.str 17),.v (nv α),.v (nk e)]=some (made,.un)):qQ C β q [dP aE.body 2,dP aE.body 3] (fM a e t (qv α) r .un .un .un .un .un .un .un .un) (fM a e t (qv α) r (.v (nv α)) (.v made) .un .un .un .un .un .un):=
 lH (cG (fun _=>rfl) rfl) (cG (aU (fun _=>rfl) c82) rfl)
end
theorem JC {e:Nat}(he:e≤3){f:Nat→Rat}{y:Rat}:(List.range (e+1)).foldl (fun r k=>r+f k*y^k) 0=WJ y (((List.range (e+1)).map f).getD 0 0) (((List.range (e+1)).map f).getD 1 0) (((List.range (e+1)).map f).getD 2 0) (((List.range (e+1)).map f).getD 3 0):=by
 have:e=0∨e=1∨e=2∨e=3:=by lia
 rcases this with rfl|rfl|rfl|rfl
 ·show 0+f 0*y^0=0*y^3+0*y^2+0*y^1+f 0
  rw [Rat.zero_mul,Rat.zero_mul,Rat.zero_mul,Rat.pow_zero,Rat.mul_one]
  simp only [Rat.zero_add]
 ·show 0+f 0*y^0+f 1*y^1=0*y^3+0*y^2+f 1*y^1+f 0
  rw [Rat.zero_mul,Rat.zero_mul,Rat.pow_zero,Rat.mul_one]
  simp only [Rat.zero_add]
  exact Rat.add_comm _ _
 ·show 0+f 0*y^0+f 1*y^1+f 2*y^2=0*y^3+f 2*y^2+f 1*y^1+f 0
  rw [Rat.zero_mul,Rat.pow_zero,Rat.mul_one]
  simp only [Rat.zero_add]
  simp only [Rat.add_assoc,Rat.add_comm,Rat.add_left_comm]
 ·show 0+f 0*y^0+f 1*y^1+f 2*y^2+f 3*y^3=f 3*y^3+f 2*y^2+f 1*y^1+f 0
  rw [Rat.pow_zero,Rat.mul_one]
  simp only [Rat.zero_add]
  simp only [Rat.add_assoc,Rat.add_comm,Rat.add_left_comm]
theorem sG {e:Nat}{f:Nat→Rat}(hf:∀j,Bd (f j) 1)(k:Nat):Bd (((List.range (e+1)).map f).getD k 0) 1:=by
 rw [List.getD_eq_getElem?_getD,List.getElem?_map]
 cases (List.range (e+1))[k]? with
 |none=>exact Bd.zero 1
 |some j=>exact hf j
section
variable {d e:Nat}{term made:V}{α:Rat}{f:Nat→Rat}
noncomputable def sT (α:Rat)(f:Nat→Rat)(x:Int)(r:Rat)(k:Nat):Rat:=r+f k*((x:Rat)+ -α)^k
theorem acO {fk w:Rat}(hfs:Sm fk)(hfd:fk.den≤64)(hn8:w.num.natAbs≤2^12)(hd8:w.den≤8):(Int.mul fk.num w.num).natAbs<2^40∧fk.den*w.den<2^19:=by
 constructor
 ·show (fk.num*w.num).natAbs<2^40
  rw [Int.natAbs_mul]
  exact Nat.lt_of_le_of_lt (Nat.mul_le_mul (Nat.le_of_lt hfs.1) hn8) (by decide)
 ·exact Nat.lt_of_le_of_lt (Nat.mul_le_mul hfd hd8) (by decide)
theorem WP {r fk w:Rat}{c:Nat}(hr:Bv r c)(hc:c≤16)(hf:Bd fk 1)(hw:∃m:Int,w=mkRat m 8∧m.natAbs≤2^12):Cn (d+60) 85 [.v (qv r),.v (.tup [.int (Int.mul fk.num w.num),.int (Int.mul fk.den w.den)])]=some (qv (r+fk*w),.un):=by
 have hd8:w.den≤8:=by
  refine aD hw fun m hm _=>?_
  refine (Eq.symm hm)▸?_;exact qT m (by decide)
 have hn8:w.num.natAbs≤2^12:=by
  refine aD hw fun m hm hm2=>?_
  refine (Eq.symm hm)▸?_;exact Nat.le_trans (xN m 8) hm2
 have hfd:fk.den≤64:=by
  refine aD hf fun m hm _=>?_
  refine (Eq.symm hm)▸?_;exact qT m (by decide)
 refine aG (acO (hf.sm (by decide)) hfd hn8 hd8) fun h1 h2=>?_
 rw [show Int.mul fk.den w.den=((fk.den*w.den:Nat):Int) from (Int.natCast_mul _ _).symm,tU (d:=d+57) (hr.sl hc) h1 (Nat.mul_ne_zero fk.den_nz w.den_nz) h2,Rat.mul_def' fk];rfl
theorem aqN {x:Int}(hx:x∈DJ):Sl (x:Rat):=by
 have:x.natAbs≤5:=by
  simp only [DJ,List.mem_cons,List.not_mem_nil,or_false] at hx
  rcases hx with rfl|rfl|rfl<;>decide
 exact ⟨by rw [Rat.num_intCast];lia,by rw [Rat.den_intCast];decide⟩
theorem ahJ {x:Int}(hx:x∈DJ)(hB:Bd (-α) 1):Cn (d+60) 85 [.v (.tup [.int x,.int 1]),.v (.tup [.int (Int.sub 0 α.num),.int α.den])]=some (qv ((x:Rat)+ -α),.un):=by
 have e1:V.tup [.int (Int.sub 0 α.num),.int α.den]=qv (-α):=by
  rw [qv,Rat.neg_num,Rat.neg_den,show Int.sub 0 α.num= -α.num from Int.zero_sub _]
 refine (Eq.symm e1)▸?_
 exact PT (d:=d+57) (r:=(x:Rat)) (aqN hx) (QC hB (by decide))
theorem ahK {x:Int}{k:Nat}(hA: -α∈rJ)(hx:x∈DJ)(hk:k≤3):Cn (d+60) 86 [.v (qv ((x:Rat)+ -α)),.v (.int (.ofNat k))]=some (qv (((x:Rat)+ -α)^k),.un):=by
 have hp81:=mT hA hx (show 1≤3 by decide)
 rw [Rat.pow_one] at hp81
 refine tV (d:=d+57) (WI hp81) (by lia) ?_
 rw [←Rat.den_pow]
 refine aD (mT hA hx hk) fun m hm _=>?_
 rw [hm];exact Nat.lt_of_le_of_lt (qT m (by decide)) (by decide)
section
variable {β:Type}{q:V→Fm→Option β}{a:aF}{x:Int}{c k:Nat}{r:Rat}{s5 s6 s7 s8 s9 s10 s11:aF}{R:V}
theorem acP (hα:α∈mB)(hf:∀j,Bd (f j) 1)(hx:x∈DJ)(hk:k≤3)(hr:Bv r c)(hc:c≤4):
  qQ (Cn (d+60)) β q b41 (fM a e term (qv α) R s5 s6 (.v (.int x)) (.v (qv r)) (.v (.int (.ofNat k))) (.v (qv (f k))) s11 .un) (fM a e term (qv α) R s5 s6 (.v (.int x)) (.v (qv (sT α f x r k))) (.v (.int (.ofNat k))) (.v (qv (f k))) (.v (qv (((x:Rat)+ -α)^k))) .un):=
 aG (sE hα) fun hA hB=>
 have hfs:=(hf k).sm (by decide)
 lH (ahF (ahJ hx hB) (ahK hA hx hk)) (ahG (Nat.lt_trans hfs.1 (by decide)) (by rw [Int.natAbs_natCast];exact Nat.lt_trans hfs.2 (by decide)) (WP hr (by lia) (hf k) (mT hA hx hk)))
def ahL (a:aF)(e:Nat)(term made:V)(α:Rat)(R:V)(x:Int)(c:Nat)(r:Rat)(ρ:Fm):Prop:=(c≤4∧Bv r (4 - c))∧∃s9 s10 s11,ρ=fM a e term (qv α) R (.v (nv α)) (.v made) (.v (.int x)) (.v (qv r)) s9 s10 s11 .un
theorem ahM (hα:α∈mB)(he:e≤3)(hf:∀j,Bd (f j) 1)(hx:x∈DJ):∃τ,ahL a e term made α (.lst (qL (e+1) f)) x 0 ((List.range (e+1)).foldl (sT α f x) 0) τ∧
  Es (Cn (d+60)) β q (dP b4 1) (fM a e term (qv α) (.lst (qL (e+1) f)) (.v (nv α)) (.v made) (.v (.int x)) (.v (qv 0)) s9 s10 s11 .un) τ:=
 kP (val:=fun k=>V.tup [.int (.ofNat k),qv (f k)]) (L:=List.range (e+1)) (ahL a e term made α (.lst (qL (e+1) f)) x) (sT α f x) 13 rfl
  (fun K=>congrArg (fun l=>K l _) FZ) (fun _ _ _ ⟨_,_,_,_,e⟩=>e▸rfl) ⟨⟨by refine (Eq.symm List.length_range)▸?_;lia,Bv.zero _⟩,_,_,_,rfl⟩ (by
   rintro k hk c r ρ ⟨⟨hc,hr⟩,s9,s10,s11,rfl⟩
   rw [List.mem_range] at hk
   exact ⟨_,_,fun _=>rfl,⟨⟨by lia,(hr.add (PY (hf k) (mT (sE hα).1 hx (show k≤3 by lia)))).mono (by lia)⟩,_,_,_,rfl⟩,acP hα hf hx (by lia) hr (by lia)⟩)
theorem ahN (hα:α∈mB)(he:e≤3)(hf:∀j,Bd (f j) 1)(hm:made=fW (-α) ((List.range (e+1)).map f))(hx:x∈DJ):
  ∃s8' s9' s10' s11',qQ (Cn (d+60)) β q b4 (fM a e term (qv α) (.lst (qL (e+1) f)) (.v (nv α)) (.v made) (.v (.int x)) s8 s9 s10 s11 .un) (fM a e term (qv α) (.lst (qL (e+1) f)) (.v (nv α)) (.v made) (.v (.int x)) s8' s9' s10' s11' .un):=by
 refine iJ fun gG gH=>?_;refine aG (sE hα) fun hA hB=>?_
 refine aD (ahM (d:=d) (β:=β) (q:=q) (a:=a) (term:=term) (made:=made) (s9:=s9) (s10:=s10) (s11:=s11) hα he hf hx) fun τ al6 h=>?_;obtain ⟨_,s9',s10',s11',rfl⟩:=al6
 refine gH ?_;refine (EG _ s9' s10' s11' (fF (cG (v:=qv 0) (fun _=>rfl) rfl) (lH h (ahH ?_))))
 refine (Eq.symm hm)▸?_
 refine Eq.trans ?_ (congrArg (fun z=>some (qv z,aF.un)) (JC he (f:=f) (y:=(x:Rat)+ -α)).symm)
 exact WK (d:=d+50) hA hB hx (sG hf 0) (sG hf 1) (sG hf 2) (sG hf 3) rfl rfl rfl rfl
def aqO (a:aF)(e:Nat)(term made:V)(α:Rat)(R:V)(_:Nat)(_:Unit)(ρ:Fm):Prop:=∃s7 s8 s9 s10 s11,ρ=fM a e term (qv α) R (.v (nv α)) (.v made) s7 s8 s9 s10 s11 .un
theorem aqP (hα:α∈mB)(he:e≤3)(hf:∀j,Bd (f j) 1)(hm:made=fW (-α) ((List.range (e+1)).map f))
  (hmade:Cn (d+60) 82 [.v term,.v (.str 17),.v (nv α),.v (nk e)]=some (made,.un)):
  ∃s7 s8 s9 s10 s11,qQ (Cn (d+60)) β q vX (fM a e term (qv α) (.lst (qL (e+1) f)) .un .un .un .un .un .un .un .un) (fM a e term (qv α) (.lst (qL (e+1) f)) (.v (nv α)) (.v made) s7 s8 s9 s10 s11 .un):=by
 refine iJ fun gG gH=>?_;obtain ⟨τ,⟨s7,s8,s9,s10,s11,rfl⟩,h⟩:=kP (C:=Cn (d+60)) (q:=q) (xs:=[7]) (sr:=.val (.tup [.int 0,.int 2,.int 5])) (b:=b4) (ρ:=fM a e term (qv α) (.lst (qL (e+1) f)) (.v (nv α)) (.v made) .un .un .un .un .un .un) (val:=V.int) (L:=DJ) (s:=()) (aqO a e term made α (.lst (qL (e+1) f))) (fun _ _=>()) 13 rfl
  (fun K=>rfl) (fun _ _ _ ⟨_,_,_,_,_,e⟩=>e▸rfl) ⟨_,_,_,_,_,rfl⟩ (by
   rintro x hx c _ ρ ⟨s7,s8,s9,s10,s11,rfl⟩
   refine JY (ahN (d:=d) (β:=β) (q:=q) (a:=a) (term:=term) (made:=made) (s8:=s8) (s9:=s9) (s10:=s10) (s11:=s11) hα he hf hm hx) fun s8' s9' s10' s11' h=>?_
   exact (bW _ _ ⟨fun _=>rfl,(ei5 _ _ _ _ _ rfl),h⟩))
 refine gH ?_;exact (ei5 s7 s8 s9 s10 s11 (fun κ=>(ahI hmade _).trans (h κ)))
end
end
noncomputable def qW:List S:=[dP aV.body 2,dP aV.body 3,dP aV.body 4,dP aV.body 5]
noncomputable def QK (d:Nat)(s:List V)(e f:Int)(pl:V):Option (V×aF):=aW (aX (d+50)) glb qW _ [.l s,.v (.int e),.v (.int f),.v pl,.un,.un,.un,.un,.un,.un,.un,.un,.un] (aC true .none) (aC true)
noncomputable def DL (d:Nat)(β:Type)(s:List V)(e:Int)(v:V)(k:Fm→Option β)(q:V→Fm→Option β):Option β:=match v with
 |.tup l=>match l with
  |[t,p,r]=>aW (aX (d+60)) glb vX β [.l s,.v (.int e),.v t,.v p,.v r,.un,.un,.un,.un,.un,.un,.un,.un] k q
  |_=>none
 |_=>none
noncomputable def iM (e f:Int)(pl:V):V:=match QK 0 [] e f pl with
 |some r=>r.1
 |none=>.none
noncomputable def WQ (e:Int)(v:V):Fm:=match DL 0 Fm [] e v some fun _ _=>none with
 |some r=>r.tail
 |none=>[]
noncomputable def GH:List Int:=[0,1,2,3]
noncomputable def onL (d:Nat)(β:Type)(s:List V)(k:Fm→Option β)(q:V→Fm→Option β)(α:Rat):=GH.map fun e=>(QK d s e 1 (qv α),DL d β s e (iM e 1 (qv α)) k q)
noncomputable def onR (β:Type)(s:List V)(k:Fm→Option β)(α:Rat):List (Option (V×aF)×Option β):=GH.map fun e=>(some (iM e 1 (qv α),.l s),k (.l s::WQ e (iM e 1 (qv α))))
section
variable (d:Nat)(β:Type)(s:List V)(k:Fm→Option β)(q:V→Fm→Option β)
theorem ona:onL d β s k q (-2)=onR β s k (-2):=by kernel_rfl
theorem onb:onL d β s k q (-1)=onR β s k (-1):=by kernel_rfl
theorem onc:onL d β s k q (mkRat (-1) 2)=onR β s k (mkRat (-1) 2):=by kernel_rfl
theorem ond:onL d β s k q (0)=onR β s k (0):=by kernel_rfl
theorem one:onL d β s k q (mkRat 1 2)=onR β s k (mkRat 1 2):=by kernel_rfl
theorem onf:onL d β s k q (1)=onR β s k (1):=by kernel_rfl
theorem ong:onL d β s k q (2)=onR β s k (2):=by kernel_rfl
theorem ahO:(mB.map fun α=>GH.map fun e=>(QK d s e 1 (qv α),DL d β s e (iM e 1 (qv α)) k q))=mB.map fun α=>GH.map fun e=>(some (iM e 1 (qv α),.l s),k (.l s::WQ e (iM e 1 (qv α)))):=mc (fc (ona d β s k q) (fc (onb d β s k q) (fc (onc d β s k q) (fc (ond d β s k q) (fc (one d β s k q) (fc (onf d β s k q) (fc (ong d β s k q) fn)))))))
end
theorem ahP (d:Nat)(β:Type)(s:List V)(pl:V)(k:Fm→Option β)(q:V→Fm→Option β):(GH.map fun e=>[2,3].map fun f=>(QK d s e f pl,DL d β s e (iM e f .none) k q))=GH.map fun e=>[2,3].map fun f=>(some (iM e f .none,.l s),k (.l s::WQ e (iM e f .none))):=by kernel_rfl
noncomputable def cv (v:V)(i:Nat):V:=(yX v i some).getD .none
noncomputable def ahQ (v:V):Int:=match v with
 |.int i=>i
 |_=>0
noncomputable def slV (s:aF):V:=match s with
 |.v x=>x
 |_=>.none
noncomputable def mkV (v:V):V:=.tup [cv v 0,cv v 1,cv v 2]
noncomputable def mkF (e:Int)(v:V)(ρ:Fm):Fm:=[.v (.int e),.v (cv v 0),.v (cv v 1),.v (cv v 2),.v (.tup [.str 0,.int (ahQ (cv (slV (ρ.at 4)) 1)),.int (ahQ (cv (slV (ρ.at 4)) 2))]),ρ.at 5,ρ.at 6,ρ.at 7,ρ.at 8,ρ.at 9,ρ.at 10,ρ.at 11]
noncomputable def oqL (α:Rat):=GH.map fun e=>(iM e 1 (qv α),WQ e (iM e 1 (qv α)))
noncomputable def oqR (α:Rat):=GH.map fun e=>(mkV (iM e 1 (qv α)),mkF e (iM e 1 (qv α)) (WQ e (iM e 1 (qv α))))
theorem oqa:oqL (-2)=oqR (-2):=by kernel_rfl
theorem oqb:oqL (-1)=oqR (-1):=by kernel_rfl
theorem oqc:oqL (mkRat (-1) 2)=oqR (mkRat (-1) 2):=by kernel_rfl
theorem oqd:oqL (0)=oqR (0):=by kernel_rfl
theorem oqe:oqL (mkRat 1 2)=oqR (mkRat 1 2):=by kernel_rfl
theorem oqf:oqL (1)=oqR (1):=by kernel_rfl
theorem oqg:oqL (2)=oqR (2):=by kernel_rfl
theorem okB:(mB.map fun α=>GH.map fun e=>(iM e 1 (qv α),WQ e (iM e 1 (qv α))))=mB.map fun α=>GH.map fun e=>(mkV (iM e 1 (qv α)),mkF e (iM e 1 (qv α)) (WQ e (iM e 1 (qv α)))):=mc (fc oqa (fc oqb (fc oqc (fc oqd (fc oqe (fc oqf (fc oqg fn)))))))
theorem okC:(GH.map fun e=>[2,3].map fun f=>(iM e f .none,WQ e (iM e f .none)))=GH.map fun e=>[2,3].map fun f=>(mkV (iM e f .none),mkF e (iM e f .none) (WQ e (iM e f .none))):=by kernel_rfl
inductive tX (e:Nat):V→Prop
 |a {ns:List Int} {α:Rat}:ns.length≤4→(∀c∈ns,jZ c)→α∈mB→tX e (.tup [fW 0 (tW ns),qv α,.lst (qL (e+1) (mS α (lT ns 0) (lT ns 1) (lT ns 2) (lT ns 3)))])
 |b {α:Rat}:α∈mB→tX e (iM (.ofNat e) 1 (qv α))
 |c {f:Int}:f=2∨f=3→tX e (iM (.ofNat e) f .none)
theorem WR {d r1 r2:Nat}(h1:r1<5)(h2:r2<2):∃α,α∈mB∧Cn (d+2) 84 [.v (.int (Int.sub (.ofNat r1) 2)),.v (.int (Int.add 1 (.ofNat r2)))]=some (qv α,.un):=by
 have hh:Int.add 1 (.ofNat r2)=((1+r2:Nat):Int):=by
  show (1:Int)+(r2:Int)=((1+r2:Nat):Int)
  lia
 refine ⟨mkRat (Int.sub (.ofNat r1) 2) (1+r2),?_,?_⟩
 ·have c1:r1=0∨r1=1∨r1=2∨r1=3∨r1=4:=by lia
  have c2:r2=0∨r2=1:=by lia
  rcases c2 with rfl|rfl<;>rcases c1 with rfl|rfl|rfl|rfl|rfl<;>decide+kernel
 ·rw [hh];exact qF (by lia) (by lia)
theorem WS {d m e:Nat}{s:List V}(hs:mE s (9+m))(he:e≤3):∃v s',tX e v∧mE s' m∧Cn (d+52) 90 [.l s,.v (.int (.ofNat e))]=some (v,.l s'):=by
 refine bY (hV (d:=d+49) (m:=4) (n:=8+m) (by rw [show 8+m+1=9+m by lia];exact hs) (by decide)) fun r0 s0 h0 p0 hs0=>?_
 refine bY (hV (d:=d+49) (m:=5) (n:=7+m) (by rw [show 7+m+1=8+m by lia];exact hs0) (by decide)) fun r1 s1 h1 p1 hs1=>?_
 refine bY (hV (d:=d+49) (m:=2) (n:=6+m) (by rw [show 6+m+1=7+m by lia];exact hs1) (by decide)) fun r2 s2 h2 p2 hs2=>?_
 refine aD (WR (d:=d+49) h1 h2) fun α hα pα=>?_
 let F0:Fm:=[.l s,.v (.int (.ofNat e)),.un,.un,.un,.un,.un,.un,.un,.un,.un,.un,.un]
 let F2:Fm:=[.l s2,.v (.int (.ofNat e)),.v (.int (.ofNat r0)),.v (qv α),.un,.un,.un,.un,.un,.un,.un,.un,.un]
 have hrun:Cn (d+52) 90 [.l s,.v (.int (.ofNat e))]=aW (Cn (d+51)) glb (dP aV.body 1::qW) _ F2 (aC true .none) (aC true):=by
  refine (show Cn (d+52) 90 [.l s,.v (.int (.ofNat e))]=kS (Cn (d+51)) glb (dP aV.body 0) _ F0 (fun ρ=>aW (Cn (d+51)) glb (dP aV.body 1::qW) _ ρ (aC true .none) (aC true)) (aC true) from rfl).trans ?_
  exact (aqI.2 _ _ _ _ _ _).trans (bB p0 (bB p1 ((rZ (i:=.ofNat r1) (j:=2)).trans (bB p2 ((FJ (i:=1) (j:=.ofNat r2)).trans (bB pα rfl))))))
 by_cases hr0:r0=0
 ·subst hr0
  refine iA (acN (d:=d+1) (q:=aC true) hs2 hα he) fun ns q1 q2 al5=>?_;obtain ⟨s',F,q3,hF,q4⟩:=al5
  refine (bW _ s' ⟨.a q1 q2 hα,q3,hrun.trans ?_⟩)
  have hk:aW (Cn (d+51)) glb (dP aV.body 1::qW) (V×aF) [.l s2,.v (.int (.ofNat e)),.v (.int 0),.v (qv α),.un,.un,.un,.un,.un,.un,.un,.un,.un] (aC true .none) (aC true)=
    aW (Cn (d+51)) glb bA0 (V×aF) [.l s2,.v (.int (.ofNat e)),.v (.int 0),.v (qv α),.un,.un,.un,.un,.un,.un,.un,.un,.un] (fun ρ=>aW (Cn (d+51)) glb qW (V×aF) ρ (aC true .none) (aC true)) (aC true):=by kernel_rfl
  refine hk.trans ((q4 _).trans ?_)
  unfold aC
  rw [hF];rfl
 ·have hs1':aW (Cn (d+51)) glb (dP aV.body 1::qW) _ F2 (aC true .none) (aC true)=QK d s2 (.ofNat e) (.ofNat r0) (qv α):=by
   refine (?_:(uH (.int (.ofNat r0)) (.int 0) fun t=>fD (.bool t) fun c=>cond c _ _)=_)
   rw [abK,FI hr0];rfl
  have hpen:mE s2 m:=by
   refine eP hs2 fun l k t e1 e2 e3=>?_
   exact (jU l k t ⟨e1,e2,by lia⟩)
  have hee:(Int.ofNat e)∈GH:=by
   have:e=0∨e=1∨e=2∨e=3:=by lia
   rcases this with rfl|rfl|rfl|rfl<;>decide
  have c0:r0=1∨r0=2∨r0=3:=by lia
  rcases c0 with rfl|hc
  ·have h:=ml (ml (ahO d Fm s2 some fun _ _=>none) α hα) _ hee
   exact (bW _ s2 ⟨.b hα,hpen,hrun.trans (hs1'.trans (Prod.mk.inj h).1)⟩)
  ·have h:=ml (ml (ahP d Fm s2 (qv α) some fun _ _=>none) _ hee) (Int.ofNat r0) (by rcases hc with rfl|rfl<;>decide)
   exact (bW _ s2 ⟨.c (f:=Int.ofNat r0) (by rcases hc with rfl|rfl<;>decide),hpen,hrun.trans (hs1'.trans (Prod.mk.inj h).1)⟩)
theorem kJ {ns:List Int}{k:Nat}:(tW ns).getD k 0=lT ns k:=by
 rw [tW,lT,List.getD_eq_getElem?_getD,List.getD_eq_getElem?_getD,List.getElem?_map]
 cases ns[k]? <;>rfl
noncomputable def atV (p q:Int):V:=.tup [.str 0,.int p,.int q]
theorem sH {e:Nat}(he:e≤3):(Int.ofNat e)∈GH:=by
 have:e=0∨e=1∨e=2∨e=3:=by lia
 rcases this with rfl|rfl|rfl|rfl<;>decide
theorem ahS {d e:Nat}{v:V}{s:List V}(he:e≤3)(hv:tX e v){β:Type}{k:Fm→Option β}{q:V→Fm→Option β}:∃t p r x y s6 s7 s8 s9 s10 s11 s12,v=.tup [t,p,r]∧
  aW (Cn (d+61)) glb vX β [.l s,.v (.int (.ofNat e)),.v t,.v p,.v r,.un,.un,.un,.un,.un,.un,.un,.un] k q=k [.l s,.v (.int (.ofNat e)),.v t,.v p,.v r,.v (atV x y),s6,s7,s8,s9,s10,s11,s12]:=by
 have key:∀(v:V) (F:Fm),DL d β s (.ofNat e) v k q=k (.l s::F)→v=mkV v→F=mkF (.ofNat e) v F→∃t p r x y s6 s7 s8 s9 s10 s11 s12,v=.tup [t,p,r]∧
   aW (Cn (d+61)) glb vX β [.l s,.v (.int (.ofNat e)),.v t,.v p,.v r,.un,.un,.un,.un,.un,.un,.un,.un] k q=k [.l s,.v (.int (.ofNat e)),.v t,.v p,.v r,.v (atV x y),s6,s7,s8,s9,s10,s11,s12]:=by
  intro v F h1 h2 h3
  rw [h3] at h1
  have h4:DL d β s (.ofNat e) (mkV v) k q=DL d β s (.ofNat e) v k q:=by exact h2▸rfl
  exact (ad4 _ _ _ _ _ _ _ _ _ _ _ _ ⟨h2,h4.trans h1⟩)
 cases hv with
 | @a ns α q1 q2 hα=>
  have hb:=xV hα (dZ (eU q2 0)) (dZ (eU q2 1)) (dZ (eU q2 2)) (dZ (eU q2 3))
  have ht:Cn (d+61) 82 [.v (fW 0 (tW ns)),.v (.str 17),.v (nv α),.v (nk e)]=_:=AI (d:=d+10) (e:=e) (cs:=tW ns) hα he (dZ (eU q2 0)) (dZ (eU q2 1)) (dZ (eU q2 2)) (dZ (eU q2 3)) kJ kJ kJ kJ
  refine adV (aqP (d:=d+1) (a:=.l s) (q:=q) hα he hb rfl ht) fun s7 s8 s9 s10 s11 h=>?_
  exact (ad4 _ _ _ _ _ _ _ _ _ _ _ _ ⟨rfl,h k⟩)
 | @b α hα=>
  have h:=ml (ml (ahO d β s k q) α hα) _ (sH he)
  have ho:=ml (ml okB α hα) _ (sH he)
  exact key _ _ (Prod.mk.inj h).2 (Prod.mk.inj ho).1 (Prod.mk.inj ho).2
 | @c f hf=>
  have hm:f∈([2,3]:List Int):=by rcases hf with rfl|rfl<;>decide
  have h:=ml (ml (ahP d β s .none k q) _ (sH he)) f hm
  have ho:=ml (ml okC _ (sH he)) f hm
  exact key _ _ (Prod.mk.inj h).2 (Prod.mk.inj ho).1 (Prod.mk.inj ho).2
noncomputable def DM:List S:=dP aE.body 0::dP aE.body 1::(vX++[dP aE.body 5])
noncomputable def pA (x y:Int):List V:=[.tup [atV x y,.tup [.str 0,.int (-1),.int 1]],.tup [atV x y,.tup [.str 0,.int 1,.int 2]],.tup [.tup [.str 1,.str 20],.tup [.str 0,.int 1,.int 1]],.tup [atV x y,.tup [.str 1,.str 19]]]
theorem acU {d m:Nat}{s:List V}(hs:mE s (12+m)){β:Type}{k:Fm→Option β}{q:V→Fm→Option β}:∃e t p r x y s6 s7 s8 s9 s10 s11 w s',mE s' m∧w∈pA x y∧
  aW (Cn (d+61)) glb DM β [.l s,.un,.un,.un,.un,.un,.un,.un,.un,.un,.un,.un,.un] k q=k [.l s',.v (.int e),.v t,.v p,.v r,.v (atV x y),s6,s7,s8,s9,s10,s11,.v w]:=by
 refine iJ fun gG gH=>?_;refine bY (hV (d:=d+59) (m:=4) (n:=11+m) (by rw [show 11+m+1=12+m by lia];exact hs) (by decide)) fun e s1 he p1 hs1=>?_
 refine bY (WS (d:=d+9) (m:=2+m) (e:=e) (by rw [show 9+(2+m)=11+m by lia];exact hs1) (by lia)) fun v s2 hv hs2 p2=>?_
 refine ZO (ahS (d:=d) (s:=s2) (show e≤3 by lia) hv (k:=fun ρ=>aW (Cn (d+61)) glb [dP aE.body 5] β ρ k q) (q:=q)) fun t p r x y s6 s7 s8 s9 s10 s11 s12 al2 hmid=>?_;subst al2
 refine bY (hV (d:=d+59) (m:=4) (n:=1+m) (by rw [show 1+m+1=2+m by lia];exact hs2) (by decide)) fun u s3 hu p3 hs3=>?_
 refine gH ?_;obtain ⟨w,hw⟩:∃w,(pA x y)[u]? =some w:=⟨(pA x y)[u]'hu,List.getElem?_eq_getElem hu⟩
 refine ⟨.ofNat e,t,p,r,x,y,s6,s7,s8,s9,s10,s11,w,s3,?_,List.mem_of_getElem? hw,?_⟩
 ·refine eP hs3 fun l k t e1 e2 e3=>?_
  exact ⟨l,k,t,e1,e2,by lia⟩
 refine (?_:(Cn (d+61) 83 [.l s,.v (.int 4)]).bind _=_)
 rw [show Cn (d+61) 83 [.l s,.v (.int 4)]=_ from p1]
 refine (?_:(Cn (d+61) 90 [.l s1,.v (.int (.ofNat e))]).bind _=_)
 rw [show Cn (d+61) 90 [.l s1,.v (.int (.ofNat e))]=_ from p2]
 refine (?_:aW (Cn (d+61)) glb (vX++[dP aE.body 5]) β [.l s2,.v (.int (.ofNat e)),.v t,.v p,.v r,.un,.un,.un,.un,.un,.un,.un,.un] k q=_)
 rw [rY,hmid]
 refine (?_:(Cn (d+61) 83 [.l s2,.v (.int 4)]).bind _=_)
 rw [show Cn (d+61) 83 [.l s2,.v (.int 4)]=_ from p3,aB]
 refine (?_:sP (.lst (pA x y)) (.int (.ofNat u)) _=_)
 rw [gY hw (by lia)];rfl
noncomputable def hW:V:=.tup [.str 1,.str 20]
noncomputable def iN:V:=.tup [.str 1,.str 21]
noncomputable def aqQ:V:=.tup [.str 1,.str 22]
noncomputable def GI:V:=.tup [.str 3,.tup [.tup [.str 0,.int (-1),.int 1],hW]]
noncomputable def cI:List Int:=[-2, -1,0,1,2]
noncomputable def qX:List Int:=[1, -1,2]
noncomputable def acV (l:List Int):Int:=l.getLast?.getD 0
noncomputable def DN (l:List Int):Bool:=pF (Int.mul (acV l) ((-1)^(l.length - 1))) 0
noncomputable def QL (d:Nat)(l:List Int):Option (V×aF)×Option (V×aF):=(aX (d+40) 49 [.v (fW 0 (tW l)),.v (.str 17),.v (.str 20),.v (.int 0)],aX (d+40) 49 [.v (fW 0 (tW l)),.v (.str 17),.v (.str 23),.v (.int 0)])
noncomputable def QM (l:List Int):Option (V×aF)×Option (V×aF):=(some (cond (pF 0 (acV l)) (.str 20) (.str 23),.un),some (cond (DN l) (.str 23) (.str 20),.un))
theorem aqR (d:Nat):(qX.map fun l=>cI.map fun a=>QL d [a,l])=qX.map fun l=>cI.map fun a=>QM [a,l]:=by kernel_rfl
theorem aqS (d:Nat):(qX.map fun l=>cI.map fun a=>cI.map fun b=>QL d [a,b,l])=qX.map fun l=>cI.map fun a=>cI.map fun b=>QM [a,b,l]:=by kernel_rfl
noncomputable def DO (d:Nat)(l a:Int):=cI.map fun b=>cI.map fun c=>QL d [a,b,c,l]
noncomputable def DP (l a:Int):=cI.map fun b=>cI.map fun c=>QM [a,b,c,l]
theorem f3a (d:Nat):DO d (1) (-2)=DP (1) (-2):=by kernel_rfl
theorem f3b (d:Nat):DO d (1) (-1)=DP (1) (-1):=by kernel_rfl
theorem f3c (d:Nat):DO d (1) (0)=DP (1) (0):=by kernel_rfl
theorem f3d (d:Nat):DO d (1) (1)=DP (1) (1):=by kernel_rfl
theorem f3e (d:Nat):DO d (1) (2)=DP (1) (2):=by kernel_rfl
theorem f3f (d:Nat):DO d (-1) (-2)=DP (-1) (-2):=by kernel_rfl
theorem f3g (d:Nat):DO d (-1) (-1)=DP (-1) (-1):=by kernel_rfl
theorem f3h (d:Nat):DO d (-1) (0)=DP (-1) (0):=by kernel_rfl
theorem f3i (d:Nat):DO d (-1) (1)=DP (-1) (1):=by kernel_rfl
theorem f3j (d:Nat):DO d (-1) (2)=DP (-1) (2):=by kernel_rfl
theorem f3k (d:Nat):DO d (2) (-2)=DP (2) (-2):=by kernel_rfl
theorem f3l (d:Nat):DO d (2) (-1)=DP (2) (-1):=by kernel_rfl
theorem f3m (d:Nat):DO d (2) (0)=DP (2) (0):=by kernel_rfl
theorem f3n (d:Nat):DO d (2) (1)=DP (2) (1):=by kernel_rfl
theorem f3o (d:Nat):DO d (2) (2)=DP (2) (2):=by kernel_rfl
theorem aqT (d:Nat):(qX.map fun l=>cI.map fun a=>cI.map fun b=>cI.map fun c=>QL d [a,b,c,l])=qX.map fun l=>cI.map fun a=>cI.map fun b=>cI.map fun c=>QM [a,b,c,l]:=mc (fc (mc (fc (f3a d) (fc (f3b d) (fc (f3c d) (fc (f3d d) (fc (f3e d) fn)))))) (fc (mc (fc (f3f d) (fc (f3g d) (fc (f3h d) (fc (f3i d) (fc (f3j d) fn)))))) (fc (mc (fc (f3k d) (fc (f3l d) (fc (f3m d) (fc (f3n d) (fc (f3o d) fn)))))) fn)))
noncomputable def ahT (n m:Int):V:=.tup [.str 4,.tup [.str 2,.tup [sx,.tup [.str 0,.int (Int.sub 0 n),.int 1]]],.tup [.str 0,.int (Int.sub 0 m),.int 1]]
noncomputable def DQ (n m:Int):V:=match aX 40 79 [.v (ahT n m)] with
 |some r=>r.1
 |none=>.none
noncomputable def AM (m side:Int):V:=cond (mI (Int.fmod m 2) 0||mI side 1) hW (cond (mI side (-1)) iN aqQ)
noncomputable def sdI:List Int:=[0,1, -1]
theorem GJ (d:Nat):(cI.map fun n=>[1,2,3].map fun m=>(aX (d+40) 79 [.v (ahT n m)],[hW,iN,GI].map fun v=>aX (d+40) 81 [.v (DQ n m),.v (.str 17),.v v,.v (.int 0)],sdI.map fun side=>aX (d+40) 81 [.v (DQ n m),.v (.str 17),.v (.tup [.str 0,.int n,.int 1]),.v (.int side)]))=
  cI.map fun n=>[1,2,3].map fun m=>(some (DQ n m,.un),[hW,iN,GI].map fun _=>some (nv 0,.un),sdI.map fun side=>some (AM m side,.un)):=by kernel_rfl
theorem WT {C:CF}{v side:V}{k:Nat}{L:List V}{q:V}(h35:C 35 [.v v]=some (.tup [.int (.ofNat k),.lst L],.un))(hl:L.length≤1000)(h0:(List.replicate k nG++L)[0]? =some q):
  aW C glb dK.body (V×aF) [.v v,.v side,.un,.un,.un,.un] (aC false .none) (aC false)=some (q,.un):=by
 refine gP (xS (ρ2:=[.v v,.v side,.v (.int (.ofNat k)),.v (.lst L),.un,.un]) (aU (fS fun _=>rfl) h35) rfl) ?_
 cases k with
 |succ k=>
  have t:Ev C (V×aF) (.or [.cmp .eq (.bi1 .len (.var 3)) (.int 0),.cmp .gt (.var 2) (.int 0)]) [.v v,.v side,.v (.int (.ofNat (k+1))),.v (.lst L),.un,.un] (.bool (mI (.ofNat L.length) 0||true)) [.v v,.v side,.v (.int (.ofNat (k+1))),.v (.lst L),.un,.un]:=
   xI (t:=true) rfl (bU (y:=.int 0) (lZ (x:=.lst L) (fun _=>rfl) (rI hl)) (fun _=>rfl) (zT rfl)) fun _=>rfl
  rw [Bool.or_true] at t
  exact Option.some.inj h0▸xJ t fun κ=>dH (r:=[]) (κ:=κ) (q:=aC false) (ρ1:=[.v v,.v side,.v (.int (.ofNat (k+1))),.v (.lst L),.un,.un]) (v:=nG) fun _=>rfl
 |zero=>cases L with
  |nil=>exact absurd h0.symm (Option.some_ne_none q)
  |cons x r=>
   exact Option.some.inj h0▸gP (ρ1:=[.v v,.v side,.v (.int 0),.v (.lst (x::r)),.un,.un]) (pV (xI (s:=false) (t:=false) rfl (bU (x:=.int (.ofNat (r.length+1))) (y:=.int 0) (lZ (x:=.lst (x::r)) (fun _=>rfl) (rI hl)) (fun _=>rfl) (zT rfl)) fun _=>rfl) kI)
    (xJ (fun _=>rfl) fun κ=>dH (r:=[]) (κ:=κ) (q:=aC false) (ρ1:=[.v v,.v side,.v (.int 0),.v (.lst (x::r)),.un,.un]) (v:=x) fun _=>rfl)
theorem yB {d n:Nat}{v side:V}{f:Nat→Rat}(hv:mD v n f)(hn:1≤n):Cn (d+3) 45 [.v v,.v side]=some (qv (f 0),.un):=
 mF hv.ex fun low m e h1 h2 h3 h4=>(aa3.2 (Cn (d+2)) _ _).symm.trans (WT (k:=low+tz m) (L:=m.drop (tz m)) (e▸FY (d:=d) h1 (Nat.le_trans (Nat.le_add_left _ _) h3)) (Nat.le_trans (Nat.le_of_eq List.length_drop) (gX (Nat.le_trans (Nat.le_add_left _ _) (Nat.le_trans h3 (by decide)))))
  ((AF low m).symm▸((List.getElem?_take_of_lt hn).symm.trans (congrArg (·[0]?) h4)).trans (DE hn)))
theorem acX {d:Nat}{side:V}{α c0 c1 c2 c3:Rat}{cs:List Rat}(hα:α∈mB)(h0:c0∈rP)(h1:c1∈rP)(h2:c2∈rP)(h3:c3∈rP)
  (e0:cs.getD 0 0=c0) (e1:cs.getD 1 0=c1) (e2:cs.getD 2 0=c2) (e3:cs.getD 3 0=c3):
  Cn (d+30) 81 [.v (fW 0 cs),.v (.str 17),.v (nv α),.v side]=some (nv (mS α c0 c1 c2 c3 0),.un):=by
 refine aD (vU (n:=5) (d:=d+4) hα h0 h1 h2 h3 (by decide) e0 e1 e2 e3) fun v hv ht=>?_
 have hb:=(xV hα h0 h1 h2 h3 0).sm (by decide)
 have hl:=vS (d:=d+25) (e:=3) (a:=PA α) (by decide) (by decide) ht hv
 have c46:Cn (d+28) 46 [.v (fW 0 cs),.v (.str 17),.v (qv α),.v side]=some (qv (mS α c0 c1 c2 c3 0),.un):=by
  refine (show aa4.1 (Cn (d+27)) _ _ _ _=_ from ?_)
  refine hM hl ?_
  exact hM (yB (d:=d+24) ht (by decide)) rfl
 have q20:∀{β:Type} {r:Rat} {k:Bool→Option β},uH (qv r) (.str 20) k=k false:=fun {β r k}=>rfl
 have q23:∀{β:Type} {r:Rat} {k:Bool→Option β},uH (qv r) (.str 23) k=k false:=fun {β r k}=>rfl
 have c49:Cn (d+29) 49 [.v (fW 0 cs),.v (.str 17),.v (qv α),.v side]=some (qv (mS α c0 c1 c2 c3 0),.un):=by
  refine (show US.1 (Cn (d+28)) _ _ _ _=_ from ?_)
  simp only [US,q20,q23,fD,aP,aB,c46]
 have c80:Cn (d+29) 80 [.v (nv α)]=some (qv α,.un):=by
  have:∀p q:Int,aX (d+28) 80 [.v (oX p q)]=some (.tup [.int p,.int q],.un):=fun p q=>by kernel_rfl
  exact cO (this _ _)
 refine (show IR.1 (Cn (d+29)) _ _ _ _=_ from ?_)
 simp only [IR,c80,aB,c49]
 refine (?_:fD (.bool false) _=_)
 simp only [fD,aP,q20,q23,VE,VF]
 rw [show Cn (d+29) 50 [.v (.int (mS α c0 c1 c2 c3 0).num),.v (.int (mS α c0 c1 c2 c3 0).den)]=_ from DF (d:=d+26) hb];rfl
theorem QN {d:Nat}{t en u w o:V}(h80:Cn (d+1) 80 [.v en]=some (u,.un))(h49:Cn (d+1) 49 [.v t,.v (.str 17),.v u,.v (.int 0)]=some (w,.un))(hw:w=.str 20∧o=hW∨w=.str 23∧o=iN):
  Cn (d+2) 81 [.v t,.v (.str 17),.v en,.v (.int 0)]=some (o,.un):=by
 refine (show IR.1 (Cn (d+1)) _ _ _ _=_ from ?_)
 simp only [IR,h80,aB,h49]
 rcases hw with ⟨rfl,rfl⟩|⟨rfl,rfl⟩<;>rfl
noncomputable def YX:List S:=[dP aJ.body 3,dP aJ.body 4,dP aJ.body 5,dP aJ.body 6,dP aJ.body 7,dP aJ.body 8,dP aJ.body 9]
theorem acY {β:Type}{p q p' q':Int}{k:Bool→Option β}:uH (oX p q) (oX p' q') k=k (decide (p=p') && decide (q=q')):=by
 have e:uH (oX p q) (oX p' q') k=((some (mI p p')).bind fun t=>cond t ((some (mI q q')).bind fun t=>cond t (some true) (some false)) (some false)).bind k:=rfl
 rw [e,hH,hH]
 by_cases h1:p=p'
 ·by_cases h2:q=q'
  ·refine (Eq.symm (decide_eq_true h1))▸?_;refine (Eq.symm (decide_eq_true h2))▸?_;rfl
  ·refine (Eq.symm (decide_eq_true h1))▸?_;refine (Eq.symm (decide_eq_false h2))▸?_;rfl
 ·refine (Eq.symm (decide_eq_false h1))▸?_;rfl
noncomputable def YY (n:Int):Nat→List Int→Int
 |_,[]=>0
 |i,c::r=>Int.mul c (n^i)+YY n (i+1) r
theorem GK {n:Int}:∀{ns:List Int} {i:Nat},((YY n i ns:Int):Rat)=(ns.mapIdx fun (j:Nat) (c:Int)=>(c:Rat)*(n:Rat)^(i+j)).foldr (· + ·) 0
 |[],_=>rfl
 |c::r,i=>by
  rw [YY,Rat.intCast_add,show ((Int.mul c (n^i):Int):Rat)=(c:Rat)*(n:Rat)^i from by
   show ((c*n^i:Int):Rat)=_
   rw [Rat.intCast_mul,Rat.intCast_pow],GK (ns:=r),List.mapIdx_cons,List.foldr_cons,Nat.add_zero]
  congr 2
  refine congrArg (fun f=>List.mapIdx f r) ?_
  funext j c
  rw [show i+1+j=i+(j+1) by omega]
theorem pw0 {α:Rat}:pw α 0 0=α^0∧pw α 1 0=α^1∧pw α 2 0=α^2∧pw α 3 0=α^3:=by
 refine ⟨(Rat.pow_zero α).symm,(Rat.pow_one α).symm,?_,?_⟩
 ·rw [show (2:Nat)=1+1 from rfl,Rat.pow_succ,Rat.pow_one];rfl
 ·rw [show (3:Nat)=1+1+1 from rfl,Rat.pow_succ,Rat.pow_succ,Rat.pow_one];rfl
theorem QO {n:Int}{ns:List Int}(hn:ns.length≤4):mS (n:Rat) (lT ns 0) (lT ns 1) (lT ns 2) (lT ns 3) 0=((YY n 0 ns:Int):Rat):=by
 refine yU (pw0 (α:=(n:Rat))) fun p0 p1 p2 p3=>?_
 rw [GK,mS,p0,p1,p2,p3]
 have z:∀{ns:List Int} {k:Nat},ns.length≤k→lT ns k=0:=fun h=>AL h
 cases ns with
 |nil=>rw [z (by decide),z (by decide),z (by decide),z (by decide)];simp only [Rat.zero_mul,Rat.zero_add];rfl
 |cons a ns=>
 cases ns with
 |nil=>
  rw [z (k:=1) (Nat.le_of_ble_eq_true rfl),z (k:=2) (Nat.le_of_ble_eq_true rfl),z (k:=3) (Nat.le_of_ble_eq_true rfl)]
  simp only [Rat.zero_mul,Rat.zero_add]
  exact (Rat.add_zero _).symm
 |cons b ns=>
 cases ns with
 |nil=>
  rw [z (k:=2) (Nat.le_of_ble_eq_true rfl),z (k:=3) (Nat.le_of_ble_eq_true rfl)]
  simp only [Rat.zero_mul,Rat.zero_add]
  show (b:Rat)*n^1+a*n^0=a*n^0+(b*n^1+0)
  rw [Rat.add_zero,Rat.add_comm]
 |cons c ns=>
 cases ns with
 |nil=>
  rw [z (k:=3) (Nat.le_of_ble_eq_true rfl)]
  simp only [Rat.zero_mul,Rat.zero_add]
  show (c:Rat)*n^2+b*n^1+a*n^0=a*n^0+(b*n^1+(c*n^2+0))
  rw [Rat.add_zero]
  simp only [Rat.add_comm,Rat.add_left_comm]
 |cons e ns=>
 cases ns with
 |cons f ns=>exact absurd (Nat.le_of_add_le_add_right (b:=4) (show ns.length+1+4≤0+4 from hn)) (Nat.not_succ_le_zero _)
 |nil=>
  show (e:Rat)*n^3+c*n^2+b*n^1+a*n^0=a*n^0+(b*n^1+(c*n^2+(e*n^3+0)))
  rw [Rat.add_zero]
  simp only [Rat.add_assoc,Rat.add_comm,Rat.add_left_comm]
theorem GL {c:Int}(h:jZ c):c∈cI:=by
 rcases h with rfl|rfl|rfl|rfl|rfl<;>decide
theorem QP {l:Int}(h:l∈qX):jZ l:=by
 simp only [qX,List.mem_cons,List.not_mem_nil,or_false] at h
 rcases h with rfl|rfl|rfl
 ·exact .inr (.inr (.inr (.inl rfl)))
 ·exact .inr (.inl rfl)
 ·exact .inr (.inr (.inr (.inr rfl)))
theorem acZ {n:Int}(h:n∈cI):(n:Rat)∈mB:=by
 have:∀n∈cI,(n:Rat)∈mB:=by decide+kernel
 exact this n h
noncomputable def fL (a:aF)(r n m s t b:V)(s7 s8 s9 s10 s11 s12:aF):Fm:=[a,.v r,.v n,.v m,.v s,.v t,.v b,s7,s8,s9,s10,s11,s12]
noncomputable def AN:List S:=aJ.body
section
variable {C:CF}{β:Type}{q:V→Fm→Option β}{κ:Fm→Option β}{a s7 s8 s9 s10 s11 s12:aF}{n m side l:Int}{as:List Int}{t b r n' m' s':V}{fl:Bool}
noncomputable def r4L (C:CF)(β:Type)(κ:Fm→Option β)(q:V→Fm→Option β)(a s7 s8 s9 s10 s11 s12:aF)(m s t b:V)(ns:List Int)(n:Int):Option β:=kS C glb (dP AN 4) β (fL a (fO ns) (.int n) m s t b s7 s8 s9 s10 s11 s12) κ q
noncomputable def r4R (β:Type)(κ:Fm→Option β)(a s7 s8 s10 s11 s12:aF)(m s t b:V)(ns:List Int)(n:Int):Option β:=κ (fL a (fO ns) (.int n) m s t b s7 s8 (.v (.int (YY n 0 ns))) s10 s11 s12)
theorem r41:(qX.map fun l=>cI.map fun x=>cI.map fun n=>r4L C β κ q a s7 s8 s9 s10 s11 s12 m' s' t b [x,l] n)=qX.map fun l=>cI.map fun x=>cI.map fun n=>r4R β κ a s7 s8 s10 s11 s12 m' s' t b [x,l] n:=by kernel_rfl
theorem r42:(qX.map fun l=>cI.map fun x=>cI.map fun y=>cI.map fun n=>r4L C β κ q a s7 s8 s9 s10 s11 s12 m' s' t b [x,y,l] n)=qX.map fun l=>cI.map fun x=>cI.map fun y=>cI.map fun n=>r4R β κ a s7 s8 s10 s11 s12 m' s' t b [x,y,l] n:=by kernel_rfl
noncomputable def DR (C:CF)(β:Type)(κ:Fm→Option β)(q:V→Fm→Option β)(a s7 s8 s9 s10 s11 s12:aF)(m s t b:V)(l x:Int):=cI.map fun y=>cI.map fun z=>cI.map fun n=>r4L C β κ q a s7 s8 s9 s10 s11 s12 m s t b [x,y,z,l] n
noncomputable def DS (β:Type)(κ:Fm→Option β)(a s7 s8 s10 s11 s12:aF)(m s t b:V)(l x:Int):=cI.map fun y=>cI.map fun z=>cI.map fun n=>r4R β κ a s7 s8 s10 s11 s12 m s t b [x,y,z,l] n
theorem r5a:DR C β κ q a s7 s8 s9 s10 s11 s12 m' s' t b (1) (-2)=DS β κ a s7 s8 s10 s11 s12 m' s' t b (1) (-2):=by kernel_rfl
theorem r5b:DR C β κ q a s7 s8 s9 s10 s11 s12 m' s' t b (1) (-1)=DS β κ a s7 s8 s10 s11 s12 m' s' t b (1) (-1):=by kernel_rfl
theorem r5c:DR C β κ q a s7 s8 s9 s10 s11 s12 m' s' t b (1) (0)=DS β κ a s7 s8 s10 s11 s12 m' s' t b (1) (0):=by kernel_rfl
theorem r5d:DR C β κ q a s7 s8 s9 s10 s11 s12 m' s' t b (1) (1)=DS β κ a s7 s8 s10 s11 s12 m' s' t b (1) (1):=by kernel_rfl
theorem r5e:DR C β κ q a s7 s8 s9 s10 s11 s12 m' s' t b (1) (2)=DS β κ a s7 s8 s10 s11 s12 m' s' t b (1) (2):=by kernel_rfl
theorem r5f:DR C β κ q a s7 s8 s9 s10 s11 s12 m' s' t b (-1) (-2)=DS β κ a s7 s8 s10 s11 s12 m' s' t b (-1) (-2):=by kernel_rfl
theorem r5g:DR C β κ q a s7 s8 s9 s10 s11 s12 m' s' t b (-1) (-1)=DS β κ a s7 s8 s10 s11 s12 m' s' t b (-1) (-1):=by kernel_rfl
theorem r5h:DR C β κ q a s7 s8 s9 s10 s11 s12 m' s' t b (-1) (0)=DS β κ a s7 s8 s10 s11 s12 m' s' t b (-1) (0):=by kernel_rfl
theorem r5i:DR C β κ q a s7 s8 s9 s10 s11 s12 m' s' t b (-1) (1)=DS β κ a s7 s8 s10 s11 s12 m' s' t b (-1) (1):=by kernel_rfl
theorem r5j:DR C β κ q a s7 s8 s9 s10 s11 s12 m' s' t b (-1) (2)=DS β κ a s7 s8 s10 s11 s12 m' s' t b (-1) (2):=by kernel_rfl
theorem r5k:DR C β κ q a s7 s8 s9 s10 s11 s12 m' s' t b (2) (-2)=DS β κ a s7 s8 s10 s11 s12 m' s' t b (2) (-2):=by kernel_rfl
theorem r5l:DR C β κ q a s7 s8 s9 s10 s11 s12 m' s' t b (2) (-1)=DS β κ a s7 s8 s10 s11 s12 m' s' t b (2) (-1):=by kernel_rfl
theorem r5m:DR C β κ q a s7 s8 s9 s10 s11 s12 m' s' t b (2) (0)=DS β κ a s7 s8 s10 s11 s12 m' s' t b (2) (0):=by kernel_rfl
theorem r5n:DR C β κ q a s7 s8 s9 s10 s11 s12 m' s' t b (2) (1)=DS β κ a s7 s8 s10 s11 s12 m' s' t b (2) (1):=by kernel_rfl
theorem r5o:DR C β κ q a s7 s8 s9 s10 s11 s12 m' s' t b (2) (2)=DS β κ a s7 s8 s10 s11 s12 m' s' t b (2) (2):=by kernel_rfl
theorem r43:(qX.map fun l=>cI.map fun x=>cI.map fun y=>cI.map fun z=>cI.map fun n=>r4L C β κ q a s7 s8 s9 s10 s11 s12 m' s' t b [x,y,z,l] n)=qX.map fun l=>cI.map fun x=>cI.map fun y=>cI.map fun z=>cI.map fun n=>r4R β κ a s7 s8 s10 s11 s12 m' s' t b [x,y,z,l] n:=mc (fc (mc (fc r5a (fc r5b (fc r5c (fc r5d (fc r5e fn)))))) (fc (mc (fc r5f (fc r5g (fc r5h (fc r5i (fc r5j fn)))))) (fc (mc (fc r5k (fc r5l (fc r5m (fc r5n (fc r5o fn)))))) fn)))
inductive Rw (l:Int):List Int→Nat→Prop
 |r1 {x}:x∈cI→Rw l [x,l] 1
 |r2 {x y}:x∈cI→y∈cI→Rw l [x,y,l] 2
 |r3 {x y z}:x∈cI→y∈cI→z∈cI→Rw l [x,y,z,l] 3
theorem ahU (h:∀c∈as,jZ c)(h1:1≤as.length)(h3:as.length≤3):Rw l (as++[l]) as.length:=by
 cases as with
 |nil=>exact absurd h1 (by decide)
 |cons x as=>
 have hx:=GL (h x (.head _))
 cases as with
 |nil=>exact .r1 hx
 |cons y as=>
 have hy:=GL (h y (.tail _ (.head _)))
 cases as with
 |nil=>exact .r2 hx hy
 |cons z as=>
 have hz:=GL (h z (.tail _ (.tail _ (.head _))))
 cases as with
 |nil=>exact .r3 hx hy hz
 |cons w as=>exact absurd (Nat.le_of_add_le_add_right (b:=3) (show as.length+1+3≤0+3 from h3)) (Nat.not_succ_le_zero _)
theorem WU {d:Nat}{ns:List Int}{k:Nat}(h:Rw l ns k)(hl:l∈qX):QL d ns=QM ns:=by
 cases h with
 |r1 hx=>exact ml (ml (aqR d) l hl) _ hx
 |r2 hx hy=>exact ml (ml (ml (aqS d) l hl) _ hx) _ hy
 |r3 hx hy hz=>exact ml (ml (ml (ml (aqT d) l hl) _ hx) _ hy) _ hz
theorem ahV {ns:List Int}{k:Nat}(h:Rw l ns k)(hl:l∈qX)(hn:n∈cI):Es C β q (dP AN 4) (fL a (fO ns) (.int n) m' s' t b s7 s8 s9 s10 s11 s12) (fL a (fO ns) (.int n) m' s' t b s7 s8 (.v (.int (YY n 0 ns))) s10 s11 s12):=fun κ=>by
 cases h with
 |r1 hx=>exact ml (ml (ml r41 l hl) _ hx) n hn
 |r2 hx hy=>exact ml (ml (ml (ml r42 l hl) _ hx) _ hy) n hn
 |r3 hx hy hz=>exact ml (ml (ml (ml (ml r43 l hl) _ hx) _ hy) _ hz) n hn
theorem QQ (h:C 81 [.v t,.v (.str 17),.v (oX n 1),.v (.int side)]=some (oX l 1,.un)):Es C β q (dP AN 5) (fL a r (.int n) m' (.int side) t b s7 s8 (.v (.int l)) s10 s11 s12) (fL a r (.int n) m' (.int side) t b s7 s8 (.v (.int l)) s10 s11 s12):=
 pV (bU (o:=.ne) (z:=.bool false) (aU (fun _=>rfl) h) (fun _=>rfl) fun k=>(acY (k:=fun t=>k (.bool (not t)))).trans (by rw [decide_eq_true rfl,decide_eq_true rfl];rfl)) kI
noncomputable def WV (l:Int):List V→V:=fun xs=>.lst (xs++[.int l])
noncomputable def DT (l:Int)(k:Nat):Bool:=pF (Int.mul l ((-1)^k)) 0
noncomputable def DU (l:Int)(fl:Bool):List (V×V):=[(hW,cond (pF 0 l) hW iN),(iN,cond fl iN hW),(GI,cond fl iN hW)]
noncomputable def ahW (s:S):Sr:=match s with
 |.for _ s _=>s
 |_=>.val .bad
theorem yC (x y z:V):(qX.map fun l=>[([x],1),([x,y],2),([x,y,z],3)].map fun p=>kS C glb (dP AN 6) β (fL a (WV l p.1) n' m' s' t b s7 s8 s9 s10 s11 s12) κ q)=qX.map fun l=>[([x],1),([x,y],2),([x,y,z],3)].map fun p=>κ (fL a (WV l p.1) n' m' s' t b s7 s8 s9 (.v (.bool (DT l p.2))) s11 s12):=by kernel_rfl
theorem yD (x y z:V)(K:List V→Fm→Option β):(qX.map fun l=>[true,false].map fun fl=>[[x],[x,y],[x,y,z]].map fun xs=>jW C glb (ahW (dP AN 7)) β (fL a (WV l xs) n' m' s' t b (.v hW) (.v iN) s9 (.v (.bool fl)) s11 s12) K)=qX.map fun l=>[true,false].map fun fl=>[[x],[x,y],[x,y,z]].map fun xs=>K ((DU l fl).map fun p=>.tup [p.1,p.2]) (fL a (WV l xs) n' m' s' t b (.v hW) (.v iN) s9 (.v (.bool fl)) s11 s12):=by kernel_rfl
theorem JD {ns:List Int}{k:Nat}(h:Rw l ns k)(hl:l∈qX):Es C β q (dP AN 6) (fL a (fO ns) n' m' s' t b s7 s8 s9 s10 s11 s12) (fL a (fO ns) n' m' s' t b s7 s8 s9 (.v (.bool (DT l k))) s11 s12):=fun κ=>by
 cases h with
 |r1 _=>exact ml (ml (yC _ .none .none) l hl) _ (.head _)
 |r2 _ _=>exact ml (ml (yC _ _ .none) l hl) _ (.tail _ (.head _))
 |r3 _ _ _=>exact ml (ml (yC _ _ _) l hl) _ (.tail _ (.tail _ (.head _)))
theorem WW {ns:List Int}{k:Nat}(h:Rw l ns k)(hl:l∈qX)(K:List V→Fm→Option β):jW C glb (ahW (dP AN 7)) β (fL a (fO ns) n' m' s' t b (.v hW) (.v iN) s9 (.v (.bool fl)) s11 s12) K=K ((DU l fl).map fun p=>.tup [p.1,p.2]) (fL a (fO ns) n' m' s' t b (.v hW) (.v iN) s9 (.v (.bool fl)) s11 s12):=by
 have hf:fl∈[true,false]:=by cases fl<;>decide
 cases h with
 |r1 _=>exact ml (ml (ml (yD _ .none .none K) l hl) fl hf) _ (.head _)
 |r2 _ _=>exact ml (ml (ml (yD _ _ .none K) l hl) fl hf) _ (.tail _ (.head _))
 |r3 _ _ _=>exact ml (ml (ml (yD _ _ _ K) l hl) fl hf) _ (.tail _ (.tail _ (.head _)))
theorem DV (c:Bool)(k:Bool→Option β):uH (cond c hW iN) (cond c hW iN) k=k true∧uH (cond c iN hW) (cond c iN hW) k=k true:=by cases c<;>exact ⟨rfl,rfl⟩
def ahX (a:aF)(r n m s t b:V)(s7 s8 s9 s10:aF)(_:Nat)(_:Unit)(ρ:Fm):Prop:=∃s11 s12,ρ=fL a r n m s t b s7 s8 s9 s10 s11 s12
theorem QR {u v:V}(h1:C 81 [.v t,.v (.str 17),.v u,.v (.int 0)]=some (v,.un))(h2:C 81 [.v b,.v (.str 17),.v u,.v (.int 0)]=some (nv 0,.un))(hv:∀(β:Type) (k:Bool→Option β),uH v v k=k true):
  qQ C β q (rN (dP AN 7)) (fL a r n' m' s' t b s7 s8 s9 s10 (.v u) (.v v)) (fL a r n' m' s' t b s7 s8 s9 s10 (.v u) (.v v)):=
 zS (pV (xI rfl (bU (o:=.ne) (z:=.bool false) (aU (fun _=>rfl) h1) (fun _=>rfl) fun k=>hv _ fun t=>k (.bool (not t))) (bU (o:=.ne) (z:=.bool false) (aU (fun _=>rfl) h2) (fun _=>rfl) fun _=>rfl)) kI)
theorem WX {ns:List Int}{k:Nat}(h:Rw l ns k)(hl:l∈qX)(h1:∀p∈DU l fl,C 81 [.v t,.v (.str 17),.v p.1,.v (.int 0)]=some (p.2,.un))(h2:∀p∈DU l fl,C 81 [.v b,.v (.str 17),.v p.1,.v (.int 0)]=some (nv 0,.un)):
  ∃τ,ahX a (fO ns) n' m' s' t b (.v hW) (.v iN) s9 (.v (.bool fl)) 0 () τ∧Es C β q (dP AN 7) (fL a (fO ns) n' m' s' t b (.v hW) (.v iN) s9 (.v (.bool fl)) s11 s12) τ:=
 kP (val:=fun p:V×V=>V.tup [p.1,p.2]) (L:=DU l fl) (s:=()) (ahX a (fO ns) n' m' s' t b (.v hW) (.v iN) s9 (.v (.bool fl))) (fun _ _=>()) 13 rfl (WW h hl) (fun _ _ _ ⟨_,_,e⟩=>e▸rfl) ⟨_,_,rfl⟩ (by
  rintro p hp c _ ρ ⟨s11,s12,rfl⟩
  refine (bW _ _ ⟨fun _=>rfl,(bW _ _ rfl),QR (h1 p hp) (h2 p hp) fun β k=>?_⟩)
  simp only [DU,List.mem_cons,List.not_mem_nil,or_false] at hp
  rcases hp with rfl|rfl|rfl
  ·exact (DV _ k).1
  ·exact (DV _ k).2
  ·exact (DV _ k).2)
theorem WY:(([1,2,3]:List Int).map fun m=>sdI.map fun side=>kS C glb (dP AN 8) β (fL a r n' (.int m) (.int side) t b (.v hW) (.v iN) s9 s10 s11 s12) κ q)=([1,2,3]:List Int).map fun m=>sdI.map fun side=>κ (fL a r n' (.int m) (.int side) t b (.v hW) (.v iN) s9 s10 s11 (.v (AM m side))):=by kernel_rfl
theorem ac0 (k:Bool→Option β):uH (AM m side) (AM m side) k=k true:=by
 unfold AM
 cases (mI (Int.fmod m 2) 0||mI side 1)<;>cases mI side (-1)<;>rfl
theorem WZ (h:C 81 [.v b,.v (.str 17),.v (oX n 1),.v (.int side)]=some (AM m side,.un)):Es C β q (dP AN 9) (fL a r (.int n) m' (.int side) t b s7 s8 s9 s10 s11 (.v (AM m side))) (fL a r (.int n) m' (.int side) t b s7 s8 s9 s10 s11 (.v (AM m side))):=
 pV (bU (o:=.ne) (z:=.bool false) (aU (fun _=>rfl) h) (fun _=>rfl) fun k=>ac0 fun t=>k (.bool (not t))) kI
end
theorem QS {d:Nat}{ns:List Int}{n side:Int}(hn:n∈cI)(hc:∀c∈ns,jZ c)(h4:ns.length≤4):Cn (d+61) 81 [.v (fW 0 (tW ns)),.v (.str 17),.v (oX n 1),.v (.int side)]=some (oX (YY n 0 ns) 1,.un):=by
 have h:=acX (d:=d+31) (side:=.int side) (cs:=tW ns) (acZ hn) (dZ (eU hc 0)) (dZ (eU hc 1)) (dZ (eU hc 2)) (dZ (eU hc 3)) kJ kJ kJ kJ
 rw [show (((ns.getD 0 0:Int):Rat))=lT ns 0 from rfl,show (((ns.getD 1 0:Int):Rat))=lT ns 1 from rfl,show (((ns.getD 2 0:Int):Rat))=lT ns 2 from rfl,show (((ns.getD 3 0:Int):Rat))=lT ns 3 from rfl,QO h4] at h
 exact h
theorem XA {l:Int}{ns:List Int}{k:Nat}(h:Rw l ns k):acV ns=l:=by cases h<;>rfl
theorem XB {l:Int}{ns:List Int}{k:Nat}(h:Rw l ns k):DN ns=DT l k:=by unfold DN DT;cases h<;>rfl
theorem ahY {α:Type}{P:α→Prop}{x y z:α}(a:P x)(b:P y)(c:P z):∀p∈[x,y,z],P p:=List.forall_mem_cons.mpr ⟨a,List.forall_mem_cons.mpr ⟨b,List.forall_mem_cons.mpr ⟨c,fun _ h=>(List.not_mem_nil h).elim⟩⟩⟩
theorem ahZ {d:Nat}{ns:List Int}{l:Int}{k:Nat}(h:Rw l ns k)(hl:l∈qX):∀p∈DU l (DT l k),Cn (d+61) 81 [.v (fW 0 (tW ns)),.v (.str 17),.v p.1,.v (.int 0)]=some (p.2,.un):=by
 refine aG (Prod.mk.inj (WU (d:=d+19) h hl)) fun f1 f2=>?_
 have hlast:=XA h
 have hf:=XB h
 rw [hlast] at f1
 rw [hf] at f2
 have e80:Cn (d+60) 80 [.v hW]=some (.str 20,.un):=cO (d:=d+59) (by kernel_rfl)
 have e81:Cn (d+60) 80 [.v iN]=some (.str 23,.un):=cO (d:=d+59) (by kernel_rfl)
 have e82:Cn (d+60) 80 [.v GI]=some (.str 23,.un):=cO (d:=d+59) (by kernel_rfl)
 exact ahY (QN (d:=d+59) e80 f1 (by cases pF 0 l;exact .inr ⟨rfl,rfl⟩;exact .inl ⟨rfl,rfl⟩)) (QN (d:=d+59) e81 f2 (by cases DT l k;exact .inl ⟨rfl,rfl⟩;exact .inr ⟨rfl,rfl⟩)) (QN (d:=d+59) e82 f2 (by cases DT l k;exact .inl ⟨rfl,rfl⟩;exact .inr ⟨rfl,rfl⟩))
theorem XC {d:Nat}{a:aF}{as:List Int}{l n m side:Int}(has:∀c∈as,jZ c)(hl:l∈qX)(h1:1≤as.length)(h3:as.length≤3)(hn:n∈cI)(hm:m∈([1,2,3]:List Int))(hs:side∈sdI){β:Type}{q:V→Fm→Option β}:
  ∃s9 s10 s11 s12,qQ (Cn (d+61)) β q YX (fL a (fO (as++[l])) (.int n) (.int m) (.int side) (fW 0 (tW (as++[l]))) (DQ n m) .un .un .un .un .un .un) (fL a (fO (as++[l])) (.int n) (.int m) (.int side) (fW 0 (tW (as++[l]))) (DQ n m) (.v hW) (.v iN) s9 s10 s11 s12):=by
 have hr:=ahU (l:=l) has h1 h3
 have hall:∀c∈as++[l],jZ c:=fun c hc=>(List.mem_append.mp hc).elim (has c) fun hc=>List.mem_singleton.mp hc▸QP hl
 have h4:(as++[l]).length≤4:=by refine (Eq.symm List.length_append)▸?_;exact Nat.succ_le_succ h3
 obtain ⟨_,hbel⟩:=Prod.mk.inj (ml (ml (GJ (d+20)) n hn) m hm)
 obtain ⟨hb,b5⟩:=Prod.mk.inj hbel
 have hb:=ml hb
 generalize as++[l]=ns at hr hall h4 ⊢
 refine aD (WX (C:=Cn (d+61)) (β:=β) (q:=q) (a:=a) (n':=.int n) (m':=.int m) (s':=.int side) (s9:=.v (.int (YY n 0 ns))) (s11:=.un) (s12:=.un) hr hl (ahZ hr hl) (b:=DQ n m) (ahY (hb _ (.head _)) (hb _ (.tail _ (.head _))) (hb _ (.tail _ (.tail _ (.head _)))))) fun τ e hf=>?_
 refine bD e fun s11 s12 e=>?_
 subst e
 exact (EG _ _ _ _ (fF (fun _=>rfl) (fF (ahV hr hl hn) (fF (QQ (QS hn hall h4)) (fF (JD hr hl) (fF hf (lH (fun κ=>ml (ml WY m hm) side hs) (WZ (ml b5 side hs)))))))))
noncomputable def DW:List S:=dP AN 0::dP AN 1::dP AN 2::YX
theorem mE.le {s:List V}{n m:Nat}(h:mE s n)(l:m≤n):mE s m:=eP h fun a k t e1 e2 e3=>⟨a,k,t,e1,e2,Nat.le_trans (Nat.add_le_add_left l k) e3⟩
section
variable {C:CF}{β:Type}{q:V→Fm→Option β}{ρ ρ1 ρ2:Fm}{e:E}{x v:V}{es:List E}{rs:List Rv}{l:List V}{ls:List aF}{n:Nat}
theorem mV {f:Nat}{xs:List V}{sl:aF}(g:YJ C β es ρ l ρ1)(p:aM es=true)(a:ρ.at n=.l xs)(h:C f (.l xs::l.map .v)=some (v,sl))(u:ρ.set n sl=ρ2):Ev C β (.callO f n es) ρ v ρ2:=fun k=>by
 refine (?_:cond (aM es) (cL C glb es β ρ fun x _=>match ρ.at n with
  |.l xs=>(C f (.l xs::x.map .v)).bind fun r=>k r.1 (ρ.set n r.2)
  |.d xs=>(C f (.d xs::x.map .v)).bind fun r=>k r.1 (ρ.set n r.2)
  |_=>none) none=_)
 rw [p,g,a]
 exact bB h (congrArg (k v) u)
def Rvs (C:CF)(β:Type)(rs:List Rv)(ρ:Fm)(l:List aF)(ρ':Fm):Prop:=∀k:List aF→Fm→Option β,uW C glb rs β ρ k=k l ρ'
theorem ah0:Rvs C β [] ρ [] ρ:=fun _=>rfl
theorem QT (h:Ev C β e ρ x ρ1)(g:Rvs C β rs ρ1 ls ρ2):Rvs C β (.e e::rs) ρ (.v x::ls) ρ2:=fun _=>(h _).trans (g _)
theorem GM {xs:List Nat}(h:Rvs C β rs ρ ls ρ1)(p:Nat.beq xs.length ls.length=true)(u:aZ xs ls ρ1=ρ2):Es C β q (.unpE xs rs) ρ ρ2:=fun κ=>by
 refine (?_:uW C glb rs β ρ (fun l ρ₁=>cond (Nat.beq xs.length l.length) (κ (aZ xs l ρ₁)) none)=_)
 rw [h,p]
 exact congrArg κ u
end
section
variable {β:Type}{q:V→Fm→Option β}{d m:Nat}{s:List V}
noncomputable def fP (a s1 s2 s3 s4:aF):Fm:=[a,s1,s2,s3,s4,.un,.un,.un,.un,.un,.un,.un,.un]
theorem ac1 {r:Nat}(h:r<3):(∃l,([V.int 1,.int (Int.neg 1),.int 2])[r]? =some (.int l)∧l∈qX)∧(∃s,([V.int 0,.int 1,.int (Int.neg 1)])[r]? =some (.int s)∧s∈sdI)∧Int.ofNat (r+1)∈([1,2,3]:List Int):=
 by
 rcases (by lia:r=0∨r=1∨r=2) with rfl|rfl|rfl
 ·exact ⟨⟨1,rfl,by decide⟩,⟨0,rfl,by decide⟩,by decide⟩
 ·exact ⟨⟨-1,rfl,by decide⟩,⟨1,rfl,by decide⟩,by decide⟩
 ·exact ⟨⟨2,rfl,by decide⟩,⟨-1,rfl,by decide⟩,by decide⟩
theorem ah1 {r:Nat}:Int.add 1 (.ofNat r)=.ofNat (r+1):=Int.add_comm 1 r
theorem XD {as:List Int}{l:Int}(h:as.length≤3)(k:V→Option β):KD (.lst (as.map V.int)) (.lst [.int l]) k=k (fO (as++[l])):=by
 refine (?_:cond (Nat.ble (Nat.add (as.map V.int).length 1) mH) (k (.lst (List.append (as.map V.int) [.int l]))) none=_)
 rw [eN (show Nat.add (as.map V.int).length 1≤mH from by rw [List.length_map];exact Nat.le_trans (Nat.succ_le_succ h) (by decide)),fO,List.map_append];rfl
theorem ah2 (hs:mE s (m+12)):∃as l s',(∀c∈as,jZ c)∧l∈qX∧1≤as.length∧as.length≤3∧mE s' (m+7)∧Es (Cn (d+61)) β q (dP AN 0) (fP (.l s) .un .un .un .un) (fP (.l s') (.v (fO (as++[l]))) .un .un .un):=by
 refine iJ fun gG gH=>?_;refine bY (hV (d:=d+59) (m:=3) hs (by decide)) fun r0 s0 h0 p0 hs0=>?_
 refine iA (AJ (C:=Cn (d+61)) (m:=m+8) (rest:=[.un,.un,.un,.un,.un,.un,.un,.un,.un,.un,.un,.un,.un]) rfl (fun s n h=>hV (d:=d+59) h (by decide)) (r0+1) 0 s0 .un (hs0.le (by lia))) fun as q1 q2 al7=>?_;obtain ⟨s1,sl,q3,q4⟩:=al7
 refine bY (hV (d:=d+59) (m:=3) q3 (by decide)) fun r1 s2 h1 p1 hs2=>?_
 refine aG (ac1 h1) fun al8 _=>?_;obtain ⟨l,hl,hl2⟩:=al8
 refine gH ?_;have hq:as.length≤3:=q1▸h0
 refine ⟨as,l,s2,q2,hl2,q1▸Nat.succ_pos r0,hq,hs2,cG (fK (o:=.add) (x:=.lst (as.map .int)) (y:=.lst [.int l]) (z:=fO (as++[l])) (ρ1:=fP (.l s1) .un .un .un .un) (ρ2:=fP (.l s2) .un .un .un .un) (fun k=>?_)
  (tK (fS (qR (fun _=>rfl) (mV (fun _=>rfl) rfl rfl p1 rfl) fun _=>gY hl (by lia)))) fun k=>XD hq k) rfl⟩
 refine (fE (i:=1) (j:=.ofNat r0) (ρ2:=fP (.l s0) .un .un .un .un) (fun _=>rfl) (mV (fun _=>rfl) rfl rfl p0 rfl) ah1 _).trans ((sD (by lia)).trans (bB q4 ?_))
 rw [tE,eN (by lia)];rfl
theorem ah3 {r:V}(hs:mE s (m+7)):∃n k side s',n∈cI∧k∈([1,2,3]:List Int)∧side∈sdI∧mE s' (m+4)∧Es (Cn (d+61)) β q (dP AN 1) (fP (.l s) (.v r) .un .un .un) (fP (.l s') (.v r) (.v (.int n)) (.v (.int k)) (.v (.int side))):=by
 refine iJ fun gG gH=>?_;refine bY (hV (d:=d+59) (m:=5) hs (by decide)) fun r2 s3 h2 p2 hs3=>?_
 refine bY (hV (d:=d+59) (m:=3) hs3 (by decide)) fun r3 s4 h3 p3 hs4=>?_
 refine bY (hV (d:=d+59) (m:=3) hs4 (by decide)) fun r4 s5 h4 p4 hs5=>?_
 refine iK (ac1 h4) fun _ al9 _=>?_;obtain ⟨side,hsd,hsd2⟩:=al9
 refine gH ?_;exact ⟨_,_,side,s5,GL (GG h2),(ac1 h3).2.2,hsd2,hs5,GM (QT (oV (i:=.ofNat r2) (j:=2) (mV (ρ2:=fP (.l s3) (.v r) .un .un .un) (fun _=>rfl) rfl rfl p2 rfl) fun _=>rfl) (QT (fE (i:=1) (j:=.ofNat r3) (fun _=>rfl) (mV (ρ2:=fP (.l s4) (.v r) .un .un .un) (fun _=>rfl) rfl rfl p3 rfl) ah1)
  (QT (qR (fun _=>rfl) (mV (ρ2:=fP (.l s5) (.v r) .un .un .un) (fun _=>rfl) rfl rfl p4 rfl) fun _=>gY hsd (by lia)) ah0))) rfl rfl⟩
theorem ah4 {a:aF}{ns:List Int}{n k side:Int}(hns:∀c∈ns,jZ c)(h4:ns.length≤4)(hn:n∈cI)(hk:k∈([1,2,3]:List Int)):Es (Cn (d+61)) β q (dP AN 2) (fP a (.v (fO ns)) (.v (.int n)) (.v (.int k)) (.v (.int side))) (fL a (fO ns) (.int n) (.int k) (.int side) (fW 0 (tW ns)) (DQ n k) .un .un .un .un .un .un):=
 have b:=(Prod.mk.inj (ml (ml (GJ (d+20)) _ hn) _ hk)).1
 GM (QT (aU (fun _=>rfl) (vW (d:=d+19) h4 hns)) (QT (aU (fS (hK (tJ (fun _=>rfl) (cB (hK (cB (fun _=>rfl) (hK (cB (fun _=>rfl) (hK (tJ (fun _=>rfl) (cB (oV (i:=0) (j:=n) (fun _=>rfl) fun _=>rfl) fun _=>rfl))))))) (hK (tJ (fun _=>rfl) (cB (oV (i:=0) (j:=k) (fun _=>rfl) fun _=>rfl) fun _=>rfl))))))) b) ah0)) rfl rfl
theorem XE (hs:mE s (m+12)):∃r n k u t b s9 s10 s11 s12 s',mE s' (m+1)∧
  qQ (Cn (d+61)) β q DW [.l s,.un,.un,.un,.un,.un,.un,.un,.un,.un,.un,.un,.un] [.l s',.v r,.v n,.v k,.v u,.v t,.v b,.v hW,.v iN,s9,s10,s11,s12]:=by
 refine XW (ah2 (d:=d) (β:=β) (q:=q) hs) fun as l s1 ha hl h1 h3 p1 e0=>?_
 refine qZ (ah3 (d:=d) (β:=β) (q:=q) (r:=fO (as++[l])) p1) fun n k side s2 hn hk hs p2 e1=>?_
 refine JY (XC (d:=d) (β:=β) (q:=q) (a:=.l s2) ha hl h1 h3 hn hk hs) fun s9 s10 s11 s12 e3=>?_
 exact (anL _ _ _ _ _ _ s9 s10 s11 s12 s2 ⟨p2.le (by lia),fF e0 (fF e1 (fF (ah4 (fun c hc=>(List.mem_append.mp hc).elim (ha c) fun hc=>List.mem_singleton.mp hc▸QP hl) (by refine (Eq.symm List.length_append)▸?_;exact Nat.succ_le_succ h3) hn hk) e3))⟩)
end
theorem vY {K:Ct}(h:∀f l,K.C f l=none):cS K:=fun f fn slots r sl fa e=>by rw [h] at e;cases e
theorem yE {K:Ct}(FN:lF K.cx){f:Nat}{fn:Fn}{d:Nat}(RM:fH K.A (d+1)){C:CF}(hb:∀(A:Around) hh hu N io,fH A d→cS (K.at A hh hu C N io)){slots:List aF}{r:V}{sl:aF}{fa:Addr}(hr:kZ C glb fn slots=some (r,sl))(hf:rS[f]? =some fn)(hm:K.cx.mg fn.name=some (.ref fa))
  (s:Shared) (out:Addr→Prop) (io:Option Addr) (args:List Value) (pre:dX K s.heap out io) (AR:iZ K.w.params s.heap (go s.heap out) io args slots) (hio:io.isSome=fn.io) (R:Result→Shared→Prop) (hp:∀h' tk v,pQ K s.heap out io r sl h' v→R (.ok (.ret v)) {s with heap:=h',toks:=tk}):
  codeAny K.M K.A (.call (.ref fa) ⟨args,[]⟩) R s:=by
 refine adU (FN f fn hf) fun params body scope fa' FA OK=>?_
 have e:=FA.there
 rw [hm] at e;cases e
 exact IQ RM FA OK hr hb pre AR hio hp
theorem DX {K:Ct}(FN:lF K.cx){d:Nat}(RM:fH K.A (d+1))(hC:K.C=NT):cS K:=fun f fn slots r sl fa hr hf hm=>by
 rw [hC] at hr
 obtain ⟨e,hr⟩:=aA hr
 cases Nat.eq_of_beq_eq_true e
 cases hf
 exact yE FN (f:=0) RM (fun _ _ _ _ _ _=>vY fun _ _=>rfl) hr rfl hm
theorem yF (d:Nat):∀{K:Ct},lF K.cx→fH K.A (d+1)→K.C=aX d→cS K:=by
 induction d with
 |zero=>exact fun FN RM hC=>vY fun f l=>by refine (Eq.symm hC)▸?_;rfl
 |succ d ih=>
  intro K FN RM hC f fn slots r sl fa hr hf hm
  rw [hC] at hr
  rcases (Nat.zero_add f▸VA.get hf:bC f fn) hr with h|h
  ·exact yE FN RM (fun _ _ _ _ _ RI=>ih FN RI rfl) h hf hm
  ·exact yE FN RM (fun _ _ _ _ _ RI=>DX FN RI rfl) h hf hm
theorem XF {K:Ct}{ns:fJ}{Γ:eO}{l:List S}{b:List Stmt}(h:Option {st // lX K ns Γ l st})(e:h.map (·.1)=some b):lX K ns Γ l b:=by
 cases h with
 |none=>cases e
 |some p=>cases e;exact p.2
noncomputable def okV (scope:Scope)(vars:List Str)(n:Nat):Bool:=Nat.ble n vars.length && Nat.blt 0 n && decide vars.Nodup && vars.all fun x=>(scope.names.lookup x==some .local||scope.names.lookup x==some .cell) && !(x==("__debug__":Str)) && !(x==("__classdict__":Str))
theorem aN {fn:Fn}{params:Arguments}{body:List Stmt}{scope:Scope}(h:okV scope fn.vars fn.arity=true)(hb:∀(vals:List Value) pm cd doc,vals.length=fn.arity→bindArgs (Calls.docDef fn.name params body scope pm cd doc) ⟨vals,[]⟩=pure ((fn.vars.take fn.arity).zip vals))
  (hs:∀(K:Ct) (HC:cS K) (hio:fn.io=false→K.io=none),(CQ HC fn.io hio scope.names (fn.vars.map some) fn.body body).map (·.1)=some body):uQ fn params body scope:=by
 refine aG (iQ h) fun h h4=>?_
 refine aG (iQ h) fun h h3=>?_
 refine aG (iQ h) fun h1 h2=>?_
 have key:∀x∈fn.vars,(scope.names.lookup x=some .local∨scope.names.lookup x=some .cell)∧(x==("__debug__":Str))=false∧(x==("__classdict__":Str))=false:=fun x hx=>by
  refine aG (iQ (List.all_eq_true.mp h4 x hx)) fun q q3=>?_
  refine aG (iQ q) fun q1 q2=>?_
  exact ⟨((Bool.or_eq_true _ _).mp q1).imp eq_of_beq eq_of_beq,aeP q2,aeP q3⟩
 exact ⟨Nat.le_of_ble_eq_true h1,Nat.ne_of_gt (Nat.blt_eq.mp h2),⟨of_decide_eq_true h3,fun x hx=>(key x hx).1,fun x hx=>(key x hx).2⟩,hb,fun K HC hio=>XF _ (hs K HC hio)⟩
noncomputable def dW (j:Nat):Vs:=vs (PySem.Challenge.pw_pf0067_01.main.body.getD j (.Pass p0))
noncomputable def lU (j:Nat):Arguments:=((dW j).f.map (·.1)).getD ⟨[],[],none,[],[],none,[]⟩
noncomputable def dO (j:Nat):Scope:=((dW j).f.map (·.2)).getD ⟨.function,[],false,false,[]⟩
def aS (j:Nat)(fn:Fn):Prop:=(dW j).f=some (lU j,dO j)∧uQ fn (lU j) (dW j).b (dO j)
def aO (j:Nat)(fn:Fn)(pm cd doc:Value)(vals:List Value):Prop:=bindArgs (Calls.docDef fn.name (lU j) (dW j).b (dO j) pm cd doc) ⟨vals,[]⟩=pure ((fn.vars.take fn.arity).zip vals)
theorem fQ {l:List Value}{P:List Value→Prop}(h:∀a,P [a])(e:l.length=1):P l:=by refine aT (List.length_eq_one_iff.mp e) fun a amA=>?_;subst amA;exact h a
theorem cT {l:List Value}{P:List Value→Prop}(h:∀a b,P [a,b])(e:l.length=2):P l:=by refine bD (UC e) fun a b amB=>?_;subst amB;exact h a b
theorem JE {l:List Value}{P:List Value→Prop}(h:∀a b c,P [a,b,c])(e:l.length=3):P l:=by
 cases l with
 |nil=>cases e
 |cons a l=>refine bD (UC (Nat.succ.inj e)) fun b c amC=>?_;subst amC;exact h a b c
theorem JF {l:List Value}{P:List Value→Prop}(h:∀a b c d,P [a,b,c,d])(e:l.length=4):P l:=by
 cases l with
 |nil=>cases e
 |cons a l=>exact JE (P:=fun l=>P (a::l)) (fun b c d=>h a b c d) (Nat.succ.inj e)
theorem fo0:aS 3 rA:=⟨by kernel_rfl,aN (by kernel_rfl) (fun _ pm cd doc=>cT (P:=aO 3 rA pm cd doc) fun a b=>(by kernel_rfl:bindArgs _ _=pure _)) fun K HC hio=>by kernel_rfl⟩
theorem fo1:aS 10 rB:=⟨by kernel_rfl,aN (by kernel_rfl) (fun _ pm cd doc=>cT (P:=aO 10 rB pm cd doc) fun a b=>(by kernel_rfl:bindArgs _ _=pure _)) fun K HC hio=>by kernel_rfl⟩
theorem fo2:aS 11 nU:=⟨by kernel_rfl,aN (by kernel_rfl) (fun _ pm cd doc=>cT (P:=aO 11 nU pm cd doc) fun a b=>(by kernel_rfl:bindArgs _ _=pure _)) fun K HC hio=>by kernel_rfl⟩
theorem fo3:aS 12 nV:=⟨by kernel_rfl,aN (by kernel_rfl) (fun _ pm cd doc=>cT (P:=aO 12 nV pm cd doc) fun a b=>(by kernel_rfl:bindArgs _ _=pure _)) fun K HC hio=>by kernel_rfl⟩
theorem fo4:aS 13 nW:=⟨by kernel_rfl,aN (by kernel_rfl) (fun _ pm cd doc=>cT (P:=aO 13 nW pm cd doc) fun a b=>(by kernel_rfl:bindArgs _ _=pure _)) fun K HC hio=>by kernel_rfl⟩
theorem fo5:aS 14 nY:=⟨by kernel_rfl,aN (by kernel_rfl) (fun _ pm cd doc=>cT (P:=aO 14 nY pm cd doc) fun a b=>(by kernel_rfl:bindArgs _ _=pure _)) fun K HC hio=>by kernel_rfl⟩
theorem fo6:aS 15 nZ:=⟨by kernel_rfl,aN (by kernel_rfl) (fun _ pm cd doc=>fQ (P:=aO 15 nZ pm cd doc) fun a=>(by kernel_rfl:bindArgs _ _=pure _)) fun K HC hio=>by kernel_rfl⟩
theorem fo7:aS 16 oA:=⟨by kernel_rfl,aN (by kernel_rfl) (fun _ pm cd doc=>fQ (P:=aO 16 oA pm cd doc) fun a=>(by kernel_rfl:bindArgs _ _=pure _)) fun K HC hio=>by kernel_rfl⟩
theorem fo8:aS 17 jI:=⟨by kernel_rfl,aN (by kernel_rfl) (fun _ pm cd doc=>cT (P:=aO 17 jI pm cd doc) fun a b=>(by kernel_rfl:bindArgs _ _=pure _)) fun K HC hio=>by kernel_rfl⟩
theorem fo9:aS 18 fZ:=⟨by kernel_rfl,aN (by kernel_rfl) (fun _ pm cd doc=>cT (P:=aO 18 fZ pm cd doc) fun a b=>(by kernel_rfl:bindArgs _ _=pure _)) fun K HC hio=>by kernel_rfl⟩
theorem aqU:aS 22 iC:=⟨by kernel_rfl,aN (by kernel_rfl) (fun _ pm cd doc=>JE (P:=aO 22 iC pm cd doc) fun a b c=>(by kernel_rfl:bindArgs _ _=pure _)) fun K HC hio=>by kernel_rfl⟩
theorem aqV:aS 23 oB:=⟨by kernel_rfl,aN (by kernel_rfl) (fun _ pm cd doc=>cT (P:=aO 23 oB pm cd doc) fun a b=>(by kernel_rfl:bindArgs _ _=pure _)) fun K HC hio=>by kernel_rfl⟩
theorem aqW:aS 24 gA:=⟨by kernel_rfl,aN (by kernel_rfl) (fun _ pm cd doc=>cT (P:=aO 24 gA pm cd doc) fun a b=>(by kernel_rfl:bindArgs _ _=pure _)) fun K HC hio=>by kernel_rfl⟩
theorem aqX:aS 25 cX:=⟨by kernel_rfl,aN (by kernel_rfl) (fun _ pm cd doc=>cT (P:=aO 25 cX pm cd doc) fun a b=>(by kernel_rfl:bindArgs _ _=pure _)) fun K HC hio=>by kernel_rfl⟩
theorem aqY:aS 26 oE:=⟨by kernel_rfl,aN (by kernel_rfl) (fun _ pm cd doc=>cT (P:=aO 26 oE pm cd doc) fun a b=>(by kernel_rfl:bindArgs _ _=pure _)) fun K HC hio=>by kernel_rfl⟩
theorem aqZ:aS 27 cY:=⟨by kernel_rfl,aN (by kernel_rfl) (fun _ pm cd doc=>cT (P:=aO 27 cY pm cd doc) fun a b=>(by kernel_rfl:bindArgs _ _=pure _)) fun K HC hio=>by kernel_rfl⟩
theorem aq0:aS 28 iD:=⟨by kernel_rfl,aN (by kernel_rfl) (fun _ pm cd doc=>fQ (P:=aO 28 iD pm cd doc) fun a=>(by kernel_rfl:bindArgs _ _=pure _)) fun K HC hio=>by kernel_rfl⟩
theorem aq1:aS 30 cZ:=⟨by kernel_rfl,aN (by kernel_rfl) (fun _ pm cd doc=>cT (P:=aO 30 cZ pm cd doc) fun a b=>(by kernel_rfl:bindArgs _ _=pure _)) fun K HC hio=>by kernel_rfl⟩
theorem aq2:aS 32 eV:=⟨by kernel_rfl,aN (by kernel_rfl) (fun _ pm cd doc=>cT (P:=aO 32 eV pm cd doc) fun a b=>(by kernel_rfl:bindArgs _ _=pure _)) fun K HC hio=>by kernel_rfl⟩
theorem aq3:aS 33 cD:=⟨by kernel_rfl,aN (by kernel_rfl) (fun _ pm cd doc=>cT (P:=aO 33 cD pm cd doc) fun a b=>(by kernel_rfl:bindArgs _ _=pure _)) fun K HC hio=>by kernel_rfl⟩
theorem aq4:aS 34 eW:=⟨by kernel_rfl,aN (by kernel_rfl) (fun _ pm cd doc=>fQ (P:=aO 34 eW pm cd doc) fun a=>(by kernel_rfl:bindArgs _ _=pure _)) fun K HC hio=>by kernel_rfl⟩
theorem aq5:aS 36 sQ:=⟨by kernel_rfl,aN (by kernel_rfl) (fun _ pm cd doc=>cT (P:=aO 36 sQ pm cd doc) fun a b=>(by kernel_rfl:bindArgs _ _=pure _)) fun K HC hio=>by kernel_rfl⟩
theorem aq6:aS 37 oF:=⟨by kernel_rfl,aN (by kernel_rfl) (fun _ pm cd doc=>cT (P:=aO 37 oF pm cd doc) fun a b=>(by kernel_rfl:bindArgs _ _=pure _)) fun K HC hio=>by kernel_rfl⟩
theorem aq7:aS 39 lL:=⟨by kernel_rfl,aN (by kernel_rfl) (fun _ pm cd doc=>JE (P:=aO 39 lL pm cd doc) fun a b c=>(by kernel_rfl:bindArgs _ _=pure _)) fun K HC hio=>by kernel_rfl⟩
theorem aq8:aS 40 oG:=⟨by kernel_rfl,aN (by kernel_rfl) (fun _ pm cd doc=>cT (P:=aO 40 oG pm cd doc) fun a b=>(by kernel_rfl:bindArgs _ _=pure _)) fun K HC hio=>by kernel_rfl⟩
theorem aq9:aS 41 gB:=⟨by kernel_rfl,aN (by kernel_rfl) (fun _ pm cd doc=>fQ (P:=aO 41 gB pm cd doc) fun a=>(by kernel_rfl:bindArgs _ _=pure _)) fun K HC hio=>by kernel_rfl⟩
theorem arA:aS 44 eE:=⟨by kernel_rfl,aN (by kernel_rfl) (fun _ pm cd doc=>cT (P:=aO 44 eE pm cd doc) fun a b=>(by kernel_rfl:bindArgs _ _=pure _)) fun K HC hio=>by kernel_rfl⟩
theorem arB:aS 45 oH:=⟨by kernel_rfl,aN (by kernel_rfl) (fun _ pm cd doc=>fQ (P:=aO 45 oH pm cd doc) fun a=>(by kernel_rfl:bindArgs _ _=pure _)) fun K HC hio=>by kernel_rfl⟩
theorem arC:aS 47 gC:=⟨by kernel_rfl,aN (by kernel_rfl) (fun _ pm cd doc=>fQ (P:=aO 47 gC pm cd doc) fun a=>(by kernel_rfl:bindArgs _ _=pure _)) fun K HC hio=>by kernel_rfl⟩
theorem arD:aS 48 oJ:=⟨by kernel_rfl,aN (by kernel_rfl) (fun _ pm cd doc=>fQ (P:=aO 48 oJ pm cd doc) fun a=>(by kernel_rfl:bindArgs _ _=pure _)) fun K HC hio=>by kernel_rfl⟩
theorem arE:aS 52 dA:=⟨by kernel_rfl,aN (by kernel_rfl) (fun _ pm cd doc=>cT (P:=aO 52 dA pm cd doc) fun a b=>(by kernel_rfl:bindArgs _ _=pure _)) fun K HC hio=>by kernel_rfl⟩
theorem arF:aS 54 jJ:=⟨by kernel_rfl,aN (by kernel_rfl) (fun _ pm cd doc=>cT (P:=aO 54 jJ pm cd doc) fun a b=>(by kernel_rfl:bindArgs _ _=pure _)) fun K HC hio=>by kernel_rfl⟩
theorem arG:aS 55 jK:=⟨by kernel_rfl,aN (by kernel_rfl) (fun _ pm cd doc=>cT (P:=aO 55 jK pm cd doc) fun a b=>(by kernel_rfl:bindArgs _ _=pure _)) fun K HC hio=>by kernel_rfl⟩
theorem arH:aS 56 mK:=⟨by kernel_rfl,aN (by kernel_rfl) (fun _ pm cd doc=>cT (P:=aO 56 mK pm cd doc) fun a b=>(by kernel_rfl:bindArgs _ _=pure _)) fun K HC hio=>by kernel_rfl⟩
theorem arI:aS 57 oK:=⟨by kernel_rfl,aN (by kernel_rfl) (fun _ pm cd doc=>cT (P:=aO 57 oK pm cd doc) fun a b=>(by kernel_rfl:bindArgs _ _=pure _)) fun K HC hio=>by kernel_rfl⟩
theorem arJ:aS 58 iX:=⟨by kernel_rfl,aN (by kernel_rfl) (fun _ pm cd doc=>fQ (P:=aO 58 iX pm cd doc) fun a=>(by kernel_rfl:bindArgs _ _=pure _)) fun K HC hio=>by kernel_rfl⟩
theorem arK:aS 59 gD:=⟨by kernel_rfl,aN (by kernel_rfl) (fun _ pm cd doc=>fQ (P:=aO 59 gD pm cd doc) fun a=>(by kernel_rfl:bindArgs _ _=pure _)) fun K HC hio=>by kernel_rfl⟩
theorem arL:aS 60 jL:=⟨by kernel_rfl,aN (by kernel_rfl) (fun _ pm cd doc=>cT (P:=aO 60 jL pm cd doc) fun a b=>(by kernel_rfl:bindArgs _ _=pure _)) fun K HC hio=>by kernel_rfl⟩
theorem arM:aS 61 oM:=⟨by kernel_rfl,aN (by kernel_rfl) (fun _ pm cd doc=>cT (P:=aO 61 oM pm cd doc) fun a b=>(by kernel_rfl:bindArgs _ _=pure _)) fun K HC hio=>by kernel_rfl⟩
theorem arN:aS 65 eX:=⟨by kernel_rfl,aN (by kernel_rfl) (fun _ pm cd doc=>fQ (P:=aO 65 eX pm cd doc) fun a=>(by kernel_rfl:bindArgs _ _=pure _)) fun K HC hio=>by kernel_rfl⟩
theorem arO:aS 66 iE:=⟨by kernel_rfl,aN (by kernel_rfl) (fun _ pm cd doc=>cT (P:=aO 66 iE pm cd doc) fun a b=>(by kernel_rfl:bindArgs _ _=pure _)) fun K HC hio=>by kernel_rfl⟩
theorem arP:aS 68 gE:=⟨by kernel_rfl,aN (by kernel_rfl) (fun _ pm cd doc=>JF (P:=aO 68 gE pm cd doc) fun a b c d=>(by kernel_rfl:bindArgs _ _=pure _)) fun K HC hio=>by kernel_rfl⟩
theorem arQ:aS 69 gR:=⟨by kernel_rfl,aN (by kernel_rfl) (fun _ pm cd doc=>JE (P:=aO 69 gR pm cd doc) fun a b c=>(by kernel_rfl:bindArgs _ _=pure _)) fun K HC hio=>by kernel_rfl⟩
theorem arR:aS 70 dJ:=⟨by kernel_rfl,aN (by kernel_rfl) (fun _ pm cd doc=>JE (P:=aO 70 dJ pm cd doc) fun a b c=>(by kernel_rfl:bindArgs _ _=pure _)) fun K HC hio=>by kernel_rfl⟩
theorem arS:aS 71 eB:=⟨by kernel_rfl,aN (by kernel_rfl) (fun _ pm cd doc=>JF (P:=aO 71 eB pm cd doc) fun a b c d=>(by kernel_rfl:bindArgs _ _=pure _)) fun K HC hio=>by kernel_rfl⟩
theorem arT:aS 76 dK:=⟨by kernel_rfl,aN (by kernel_rfl) (fun _ pm cd doc=>cT (P:=aO 76 dK pm cd doc) fun a b=>(by kernel_rfl:bindArgs _ _=pure _)) fun K HC hio=>by kernel_rfl⟩
theorem arU:aS 77 eG:=⟨by kernel_rfl,aN (by kernel_rfl) (fun _ pm cd doc=>JF (P:=aO 77 eG pm cd doc) fun a b c d=>(by kernel_rfl:bindArgs _ _=pure _)) fun K HC hio=>by kernel_rfl⟩
theorem arV:aS 78 gI:=⟨by kernel_rfl,aN (by kernel_rfl) (fun _ pm cd doc=>cT (P:=aO 78 gI pm cd doc) fun a b=>(by kernel_rfl:bindArgs _ _=pure _)) fun K HC hio=>by kernel_rfl⟩
theorem arW:aS 79 eY:=⟨by kernel_rfl,aN (by kernel_rfl) (fun _ pm cd doc=>JE (P:=aO 79 eY pm cd doc) fun a b c=>(by kernel_rfl:bindArgs _ _=pure _)) fun K HC hio=>by kernel_rfl⟩
theorem arX:aS 80 kA:=⟨by kernel_rfl,aN (by kernel_rfl) (fun _ pm cd doc=>JF (P:=aO 80 kA pm cd doc) fun a b c d=>(by kernel_rfl:bindArgs _ _=pure _)) fun K HC hio=>by kernel_rfl⟩
theorem arY:aS 85 lM:=⟨by kernel_rfl,aN (by kernel_rfl) (fun _ pm cd doc=>cT (P:=aO 85 lM pm cd doc) fun a b=>(by kernel_rfl:bindArgs _ _=pure _)) fun K HC hio=>by kernel_rfl⟩
theorem arZ:aS 86 lN:=⟨by kernel_rfl,aN (by kernel_rfl) (fun _ pm cd doc=>fQ (P:=aO 86 lN pm cd doc) fun a=>(by kernel_rfl:bindArgs _ _=pure _)) fun K HC hio=>by kernel_rfl⟩
theorem ar0:aS 87 lO:=⟨by kernel_rfl,aN (by kernel_rfl) (fun _ pm cd doc=>fQ (P:=aO 87 lO pm cd doc) fun a=>(by kernel_rfl:bindArgs _ _=pure _)) fun K HC hio=>by kernel_rfl⟩
theorem ar1:aS 88 jM:=⟨by kernel_rfl,aN (by kernel_rfl) (fun _ pm cd doc=>fQ (P:=aO 88 jM pm cd doc) fun a=>(by kernel_rfl:bindArgs _ _=pure _)) fun K HC hio=>by kernel_rfl⟩
theorem ar2:aS 89 lP:=⟨by kernel_rfl,aN (by kernel_rfl) (fun _ pm cd doc=>cT (P:=aO 89 lP pm cd doc) fun a b=>(by kernel_rfl:bindArgs _ _=pure _)) fun K HC hio=>by kernel_rfl⟩
theorem ar3:aS 90 iF:=⟨by kernel_rfl,aN (by kernel_rfl) (fun _ pm cd doc=>fQ (P:=aO 90 iF pm cd doc) fun a=>(by kernel_rfl:bindArgs _ _=pure _)) fun K HC hio=>by kernel_rfl⟩
theorem ar4:aS 91 jN:=⟨by kernel_rfl,aN (by kernel_rfl) (fun _ pm cd doc=>fQ (P:=aO 91 jN pm cd doc) fun a=>(by kernel_rfl:bindArgs _ _=pure _)) fun K HC hio=>by kernel_rfl⟩
theorem ar5:aS 92 jO:=⟨by kernel_rfl,aN (by kernel_rfl) (fun _ pm cd doc=>fQ (P:=aO 92 jO pm cd doc) fun a=>(by kernel_rfl:bindArgs _ _=pure _)) fun K HC hio=>by kernel_rfl⟩
theorem ar6:aS 93 dB:=⟨by kernel_rfl,aN (by kernel_rfl) (fun _ pm cd doc=>fQ (P:=aO 93 dB pm cd doc) fun a=>(by kernel_rfl:bindArgs _ _=pure _)) fun K HC hio=>by kernel_rfl⟩
theorem ar7:aS 96 dC:=⟨by kernel_rfl,aN (by kernel_rfl) (fun _ pm cd doc=>cT (P:=aO 96 dC pm cd doc) fun a b=>(by kernel_rfl:bindArgs _ _=pure _)) fun K HC hio=>by kernel_rfl⟩
theorem ar8:aS 97 cJ:=⟨by kernel_rfl,aN (by kernel_rfl) (fun _ pm cd doc=>cT (P:=aO 97 cJ pm cd doc) fun a b=>(by kernel_rfl:bindArgs _ _=pure _)) fun K HC hio=>by kernel_rfl⟩
theorem ar9:aS 98 dD:=⟨by kernel_rfl,aN (by kernel_rfl) (fun _ pm cd doc=>fQ (P:=aO 98 dD pm cd doc) fun a=>(by kernel_rfl:bindArgs _ _=pure _)) fun K HC hio=>by kernel_rfl⟩
theorem asA:aS 99 dS:=⟨by kernel_rfl,aN (by kernel_rfl) (fun _ pm cd doc=>fQ (P:=aO 99 dS pm cd doc) fun a=>(by kernel_rfl:bindArgs _ _=pure _)) fun K HC hio=>by kernel_rfl⟩
theorem asB:aS 100 bR:=⟨by kernel_rfl,aN (by kernel_rfl) (fun _ pm cd doc=>fQ (P:=aO 100 bR pm cd doc) fun a=>(by kernel_rfl:bindArgs _ _=pure _)) fun K HC hio=>by kernel_rfl⟩
theorem asC:aS 101 dE:=⟨by kernel_rfl,aN (by kernel_rfl) (fun _ pm cd doc=>cT (P:=aO 101 dE pm cd doc) fun a b=>(by kernel_rfl:bindArgs _ _=pure _)) fun K HC hio=>by kernel_rfl⟩
theorem asD:aS 102 bS:=⟨by kernel_rfl,aN (by kernel_rfl) (fun _ pm cd doc=>cT (P:=aO 102 bS pm cd doc) fun a b=>(by kernel_rfl:bindArgs _ _=pure _)) fun K HC hio=>by kernel_rfl⟩
theorem asE:aS 103 cP:=⟨by kernel_rfl,aN (by kernel_rfl) (fun _ pm cd doc=>cT (P:=aO 103 cP pm cd doc) fun a b=>(by kernel_rfl:bindArgs _ _=pure _)) fun K HC hio=>by kernel_rfl⟩
theorem asF:aS 104 cE:=⟨by kernel_rfl,aN (by kernel_rfl) (fun _ pm cd doc=>cT (P:=aO 104 cE pm cd doc) fun a b=>(by kernel_rfl:bindArgs _ _=pure _)) fun K HC hio=>by kernel_rfl⟩
theorem asG:aS 105 cQ:=⟨by kernel_rfl,aN (by kernel_rfl) (fun _ pm cd doc=>cT (P:=aO 105 cQ pm cd doc) fun a b=>(by kernel_rfl:bindArgs _ _=pure _)) fun K HC hio=>by kernel_rfl⟩
theorem asH:aS 106 dF:=⟨by kernel_rfl,aN (by kernel_rfl) (fun _ pm cd doc=>cT (P:=aO 106 dF pm cd doc) fun a b=>(by kernel_rfl:bindArgs _ _=pure _)) fun K HC hio=>by kernel_rfl⟩
theorem asI:aS 107 eH:=⟨by kernel_rfl,aN (by kernel_rfl) (fun _ pm cd doc=>fQ (P:=aO 107 eH pm cd doc) fun a=>(by kernel_rfl:bindArgs _ _=pure _)) fun K HC hio=>by kernel_rfl⟩
theorem asJ:aS 117 dT:=⟨by kernel_rfl,aN (by kernel_rfl) (fun _ pm cd doc=>fQ (P:=aO 117 dT pm cd doc) fun a=>(by kernel_rfl:bindArgs _ _=pure _)) fun K HC hio=>by kernel_rfl⟩
theorem asK:aS 118 cF:=⟨by kernel_rfl,aN (by kernel_rfl) (fun _ pm cd doc=>fQ (P:=aO 118 cF pm cd doc) fun a=>(by kernel_rfl:bindArgs _ _=pure _)) fun K HC hio=>by kernel_rfl⟩
theorem asL:aS 119 dU:=⟨by kernel_rfl,aN (by kernel_rfl) (fun _ pm cd doc=>cT (P:=aO 119 dU pm cd doc) fun a b=>(by kernel_rfl:bindArgs _ _=pure _)) fun K HC hio=>by kernel_rfl⟩
theorem asM:aS 120 cU:=⟨by kernel_rfl,aN (by kernel_rfl) (fun _ pm cd doc=>cT (P:=aO 120 cU pm cd doc) fun a b=>(by kernel_rfl:bindArgs _ _=pure _)) fun K HC hio=>by kernel_rfl⟩
theorem asN:aS 121 cK:=⟨by kernel_rfl,aN (by kernel_rfl) (fun _ pm cd doc=>fQ (P:=aO 121 cK pm cd doc) fun a=>(by kernel_rfl:bindArgs _ _=pure _)) fun K HC hio=>by kernel_rfl⟩
theorem asO:aS 122 gJ:=⟨by kernel_rfl,aN (by kernel_rfl) (fun _ pm cd doc=>fQ (P:=aO 122 gJ pm cd doc) fun a=>(by kernel_rfl:bindArgs _ _=pure _)) fun K HC hio=>by kernel_rfl⟩
theorem asP:aS 123 bI:=⟨by kernel_rfl,aN (by kernel_rfl) (fun _ pm cd doc=>fQ (P:=aO 123 bI pm cd doc) fun a=>(by kernel_rfl:bindArgs _ _=pure _)) fun K HC hio=>by kernel_rfl⟩
theorem asQ:aS 124 gK:=⟨by kernel_rfl,aN (by kernel_rfl) (fun _ pm cd doc=>cT (P:=aO 124 gK pm cd doc) fun a b=>(by kernel_rfl:bindArgs _ _=pure _)) fun K HC hio=>by kernel_rfl⟩
theorem asR:aS 134 cR:=⟨by kernel_rfl,aN (by kernel_rfl) (fun _ pm cd doc=>fQ (P:=aO 134 cR pm cd doc) fun a=>(by kernel_rfl:bindArgs _ _=pure _)) fun K HC hio=>by kernel_rfl⟩
theorem ah5:aS 138 bK:=⟨by kernel_rfl,aN (by kernel_rfl) (fun _ pm cd doc=>fQ (P:=aO 138 bK pm cd doc) fun a=>(by kernel_rfl:bindArgs _ _=pure _)) fun K HC hio=>by kernel_rfl⟩
theorem ah6:aS 139 bX:=⟨by kernel_rfl,aN (by kernel_rfl) (fun _ pm cd doc=>JF (P:=aO 139 bX pm cd doc) fun a b c d=>(by kernel_rfl:bindArgs _ _=pure _)) fun K HC hio=>by kernel_rfl⟩
theorem ah7:aS 140 bJ:=⟨by kernel_rfl,aN (by kernel_rfl) (fun _ pm cd doc=>JF (P:=aO 140 bJ pm cd doc) fun a b c d=>(by kernel_rfl:bindArgs _ _=pure _)) fun K HC hio=>by kernel_rfl⟩
theorem asS:aS 143 gM:=⟨by kernel_rfl,aN (by kernel_rfl) (fun _ pm cd doc=>cT (P:=aO 143 gM pm cd doc) fun a b=>(by kernel_rfl:bindArgs _ _=pure _)) fun K HC hio=>by kernel_rfl⟩
theorem asT:aS 144 eZ:=⟨by kernel_rfl,aN (by kernel_rfl) (fun _ pm cd doc=>cT (P:=aO 144 eZ pm cd doc) fun a b=>(by kernel_rfl:bindArgs _ _=pure _)) fun K HC hio=>by kernel_rfl⟩
theorem asU:aS 145 gN:=⟨by kernel_rfl,aN (by kernel_rfl) (fun _ pm cd doc=>cT (P:=aO 145 gN pm cd doc) fun a b=>(by kernel_rfl:bindArgs _ _=pure _)) fun K HC hio=>by kernel_rfl⟩
theorem asV:aS 146 eI:=⟨by kernel_rfl,aN (by kernel_rfl) (fun _ pm cd doc=>cT (P:=aO 146 eI pm cd doc) fun a b=>(by kernel_rfl:bindArgs _ _=pure _)) fun K HC hio=>by kernel_rfl⟩
theorem asW:aS 147 gO:=⟨by kernel_rfl,aN (by kernel_rfl) (fun _ pm cd doc=>fQ (P:=aO 147 gO pm cd doc) fun a=>(by kernel_rfl:bindArgs _ _=pure _)) fun K HC hio=>by kernel_rfl⟩
theorem asX:aS 148 dL:=⟨by kernel_rfl,aN (by kernel_rfl) (fun _ pm cd doc=>cT (P:=aO 148 dL pm cd doc) fun a b=>(by kernel_rfl:bindArgs _ _=pure _)) fun K HC hio=>by kernel_rfl⟩
theorem asY:aS 149 eJ:=⟨by kernel_rfl,aN (by kernel_rfl) (fun _ pm cd doc=>cT (P:=aO 149 eJ pm cd doc) fun a b=>(by kernel_rfl:bindArgs _ _=pure _)) fun K HC hio=>by kernel_rfl⟩
theorem asZ:aS 150 aV:=⟨by kernel_rfl,aN (by kernel_rfl) (fun _ pm cd doc=>cT (P:=aO 150 aV pm cd doc) fun a b=>(by kernel_rfl:bindArgs _ _=pure _)) fun K HC hio=>by kernel_rfl⟩
theorem ah8:aS 152 aE:=⟨by kernel_rfl,aN (by kernel_rfl) (fun _ pm cd doc=>fQ (P:=aO 152 aE pm cd doc) fun a=>(by kernel_rfl:bindArgs _ _=pure _)) fun K HC hio=>by kernel_rfl⟩
theorem ah9:aS 153 aJ:=⟨by kernel_rfl,aN (by kernel_rfl) (fun _ pm cd doc=>fQ (P:=aO 153 aJ pm cd doc) fun a=>(by kernel_rfl:bindArgs _ _=pure _)) fun K HC hio=>by kernel_rfl⟩
theorem aiA:aS 154 kB:=⟨by kernel_rfl,aN (by kernel_rfl) (fun _ pm cd doc=>fQ (P:=aO 154 kB pm cd doc) fun a=>(by kernel_rfl:bindArgs _ _=pure _)) fun K HC hio=>by kernel_rfl⟩
structure GN (base:Heap)(l:List Env)(e:Addr)(C:Value)(da:Option Addr)(fl:Value)(h:Heap):Prop where
 stays:base.StaysIn h
 new:base.get? e=none
 frames:h.FunFrames base l
 tr:∃oe vs T oT ts,h.get? e=some oe∧oe.cls=C∧oe.dict=da∧oe.data=.fields vs∧vs[1]? =some (.ref T)∧base.get? T=none∧T≠e∧h.get? T=some oT∧oT.data=.fields ts∧ts[3]? =some fl
theorem tY (o:Obj)(f:Array Value→Array Value):(o.mapFields f).dict=o.dict:=by
 obtain ⟨c,d,dt,sl⟩:=o
 cases dt<;>rfl
section
variable {M:Model}{A:Around}{E:Value→Shared→Prop}{s:Shared}{base:Heap}{env:Env}{outer:List Env}{L e:Addr}{C:Value}{da:Option Addr}{Q:Unit→Shared→Prop}
theorem vZ {oe:Obj}{vs:Array Value}{head:Value}{hadNext:Bool}
  (hfr:A.frames=some (env::outer)) (hl:s.heap.FunFrames base (env::outer)) (hf:env.frame=some L)
  (he:s.heap.get? e=some oe) (hkb:base.StaysIn s.heap) (hen:base.get? e=none) (hd:oe.data=.fields vs) (hsz:1<vs.size)
  (h:∀h',GN base (env::outer) e oe.cls oe.dict (rawInt L) h'→s.heap.UpToSlots h'→Q () {s with heap:=h'}):
  wpAny M A (do let a←frameOf env;let pl←entryPlaceOf L hadNext;let b←EntryCells.newEntry head a .none (rawInt L) .none pl;setField (.ref e) 1 b) Q E s:=by
 have hene:e∉(env::outer).filterMap (·.frame):=fun hm=>by
  refine iJ fun gG gH=>?_;obtain ⟨_,o,ho,hnf⟩:=hl.mem hm
  refine gH ?_;rw [he] at ho;cases ho;exact hnf vs hd
 refine wpAny_bind (wpAny_frameOf_fun hfr hl hf fun h₁ hs₁=>?_)
 refine wpAny_bind (wpAny_entryPlaceOf fun pl hpl=>?_)
 unfold EntryCells.newEntry newFields
 refine wpAny_bind (wpAny_newObj_type ?_ (hpl.sizeOk5 _ _ _ _ _))
 have he₁:h₁.get? e=some oe:=(hs₁.2.1 e hene).trans he
 have kb₁:base.StaysIn h₁:=fun b o hbo=>(hs₁.2.1 b fun hm=>by rw [(hl.mem hm).1] at hbo;cases hbo).trans (hkb b o hbo)
 generalize hT:({cls:=.type "traceback",dict:=none,data:=.fields ([head,.ref L,.none,rawInt L,.none]++(if pl.isEmpty then List.replicate 6 Value.none else pl)).toArray}:Obj)=oT
 have hTf:oT.isFreed=false:=by subst hT;rfl
 have hTd:∃ts,oT.data=.fields ts∧ts[3]? =some (rawInt L):=by
  subst hT
  refine ⟨_,rfl,?_⟩
  rcases hpl with rfl|⟨_,_,_,_,_,_,_,rfl⟩<;>simp
 have he₂:=Heap.get?_push_of_some (h:=h₁) oT he₁
 refine wpAny_setField he₂ hd hsz (h _ ?_ fun b o hb hnf=>?_)
 ·have hTe:h₁.objs.size≠e:=Nat.ne_of_gt (Heap.lt_size he₁)
  have hd₃:=Obj.data_mapFields hd (·.setIfInBounds 1 (Value.ref h₁.objs.size))
  have he₃:=Heap.get?_update_self (Obj.mapFields (·.setIfInBounds 1 (Value.ref h₁.objs.size))) he₂ (Obj.isFreed_of_fields hd₃)
  have hT₃:=(Heap.get?_update_other (h₁.push oT) (Obj.mapFields (·.setIfInBounds 1 (Value.ref h₁.objs.size))) (Ne.symm hTe)).trans (Heap.get?_push_size h₁ hTf)
  obtain ⟨ts,ht1,ht2⟩:=hTd
  refine ⟨fun b o hbo=>?_,hen,hl.of_keeps fun b o hb hnf=>?_,(ei5 _ _ h₁.objs.size oT ts ⟨he₃,Obj.cls_mapFields _ _,tY _ _,hd₃,by simp [hsz],kb₁.fresh,hTe,hT₃,ht1,ht2⟩)⟩
  ·rw [Heap.get?_update_other _ _ (fun q=>by rw [←q,hen] at hbo;cases hbo)]
   exact Heap.get?_push_of_some _ (kb₁ b o hbo)
  ·obtain ⟨sl,hs⟩:=hs₁.2.2 b o hb
   refine ⟨{o with slots:=sl},?_,rfl⟩
   rw [Heap.get?_update_other _ _ (fun q=>by rw [←q,he] at hb;cases hb;exact hnf vs hd)]
   exact Heap.get?_push_of_some _ hs
 ·obtain ⟨sl,hs⟩:=hs₁.2.2 b o hb
  refine ⟨sl,?_⟩
  rw [Heap.get?_update_other _ _ (fun q=>by rw [←q,he] at hb;cases hb;exact hnf vs hd)]
  exact Heap.get?_push_of_some _ hs
theorem DY {oe:Obj}{vs:Array Value}(hfr:A.frames=some (env::outer))(hl:s.heap.FunFrames base (env::outer))(hf:env.frame=some L)
  (he:s.heap.get? e=some oe) (hkb:base.StaysIn s.heap) (hen:base.get? e=none) (hd:oe.data=.fields vs) (h1:vs[1]? =some .none)
  (h:∀h',GN base (env::outer) e oe.cls oe.dict (rawInt L) h'→s.heap.UpToSlots h'→Q () {s with heap:=h'}):wpAny M A (noteFrame (.ref e) env) Q E s:=by
 unfold noteFrame
 simp only [hf]
 refine wpAny_bind (wpAny_field he hd h1 ?_)
 rw [if_neg (by decide)]
 exact vZ hfr hl hf he hkb hen hd (Array.getElem?_eq_some_iff.mp h1).1 h
theorem wA (hfr:A.frames=some (env::outer))(hf:env.frame=some L)(F:GN base (env::outer) e C da .none s.heap)
  (h:∀h',GN base (env::outer) e C da (rawInt L) h'→s.heap.UpToSlots h'→Q () {s with heap:=h'}):wpAny M A (noteFrame (.ref e) env) Q E s:=by
 refine BD F.tr fun oe vs T oT ts he hcls hda hd h1 hnT hTe hT hdT h3=>?_
 subst hcls hda
 unfold noteFrame
 simp only [hf]
 refine wpAny_bind (wpAny_field he hd h1 ?_)
 refine (Eq.symm (if_pos (show (Value.ref T !=Value.none)=true from by simp)))▸?_
 refine wpAny_bind (wpAny_field hT hdT h3 ?_)
 refine (Eq.symm (if_neg (show ¬((Value.none==rawInt L)=true) from by simp [rawInt])))▸?_
 refine wpAny_bind (wpAny_setField hT hdT (Array.getElem?_eq_some_iff.mp h3).1 ?_)
 have other:∀b,b≠T→(s.heap.update T (Obj.mapFields (·.setIfInBounds 3 Value.none))).get? b=s.heap.get? b:=fun b hb=>Heap.get?_update_other _ _ (Ne.symm hb)
 have noRec:∀b o,s.heap.get? b=some o→(∀vs,o.data≠.fields vs)→b≠T:=fun b o hb hnf q=>by
  rw [q,hT] at hb;cases hb;exact hnf ts hdT
 refine vZ hfr (F.frames.of_keeps fun b o hb hnf=>⟨o,(other b (noRec b o hb hnf)).trans hb,rfl⟩) hf ((other e (Ne.symm hTe)).trans he)
  (fun b o hbo=>(other b fun q=>by rw [q,hnT] at hbo;cases hbo).trans (F.stays b o hbo)) F.new hd (Array.getElem?_eq_some_iff.mp h1).1
  fun h' F' U=>h h' F' fun b o hb hnf=>U b o ((other b (noRec b o hb hnf)).trans hb) hnf
theorem kK {l:List Env}{fl:Value}(F:GN base l e C da fl s.heap)(h:∀h',GN base l e C da .none h'→s.heap.UpToSlots h'→Q () {s with heap:=h'}):
  wpAny M A (setFlight (.ref e) none) Q E s:=by
 refine BD F.tr fun oe vs T oT ts he hcls hda hd h1 hnT hTe hT hdT h3=>?_
 have hsz3:3<ts.size:=(Array.getElem?_eq_some_iff.mp h3).1
 have other:∀b,b≠T→(s.heap.update T (Obj.mapFields (·.setIfInBounds 3 ((none:Option Addr).elim Value.none fun f=>rawInt f)))).get? b=s.heap.get? b:=fun b hb=>Heap.get?_update_other _ _ (Ne.symm hb)
 have noRec:∀b o,s.heap.get? b=some o→(∀vs,o.data≠.fields vs)→b≠T:=fun b o hb hnf q=>by
  rw [q,hT] at hb;cases hb;exact hnf ts hdT
 unfold setFlight
 refine wpAny_bind (wpAny_field he hd h1 ?_)
 refine (Eq.symm (if_pos (show (Value.ref T !=Value.none)=true from by simp)))▸?_
 refine wpAny_setField hT hdT hsz3 (h _ ⟨fun b o hbo=>(other b fun q=>by rw [q,hnT] at hbo;cases hbo).trans (F.stays b o hbo),F.new,F.frames.of_keeps fun b o hb hnf=>⟨o,(other b (noRec b o hb hnf)).trans hb,rfl⟩,?_⟩
  fun b o hb hnf=>⟨o.slots,(other b (noRec b o hb hnf)).trans hb⟩)
 exact (ei5 oe vs T _ _ ⟨(other e (Ne.symm hTe)).trans he,hcls,hda,hd,h1,hnT,hTe,Heap.get?_update_self _ hT (Obj.isFreed_of_fields (Obj.data_mapFields hdT _)),Obj.data_mapFields hdT _,by simp [hsz3]⟩)
theorem GN.pop {fl:Value}{h:Heap}(F:GN base (env::outer) e C da fl h):GN base outer e C da fl h:=⟨F.stays,F.new,F.frames.2.2,F.tr⟩
theorem AO {oe:Obj}{vs:Array Value}(hfr:A.frames=some (env::outer))(hl:s.heap.FunFrames base (env::outer))(hf:env.frame=some L)
  (he:s.heap.get? e=some oe) (hkb:base.StaysIn s.heap) (hen:base.get? e=none) (hd:oe.data=.fields vs) (h1:vs[1]? =some .none)
  (h:∀h',GN base outer e oe.cls oe.dict .none h'→s.heap.UpToSlots h'→Q () {s with heap:=h'}):wpAny M A (leaving env (.ref e)) Q E s:=by
 unfold leaving
 refine wpAny_bind (DY hfr hl hf he hkb hen hd h1 fun h' F U=>?_)
 exact kK (s:={s with heap:=h'}) F fun h'' F' U'=>h h'' F'.pop (U.trans U')
theorem DZ (hfr:A.frames=some (env::outer))(hf:env.frame=some L)(F:GN base (env::outer) e C da .none s.heap)
  (h:∀h',GN base outer e C da .none h'→s.heap.UpToSlots h'→Q () {s with heap:=h'}):wpAny M A (leaving env (.ref e)) Q E s:=by
 unfold leaving
 refine wpAny_bind (wA hfr hf F fun h' F U=>?_)
 exact kK (s:={s with heap:=h'}) F fun h'' F' U'=>h h'' F'.pop (U.trans U')
end
noncomputable abbrev qG:List Value:=[.type "Exception",.type "BaseException",.type "object"]
structure QU (params:Arguments)(bd:List Stmt)(scope:Scope):Prop where
 bind:∀(a b c:Value) body' pm cd doc,bindArgs (methDef "__init__" "CasFail.__init__" params body' scope pm cd doc) ⟨[a,b,c],[]⟩=pure ((["self","kind","text"]:List Str).zip [a,b,c])
 kind:scope.kind=.function
 co:scope.isCoroutine=false
 gen:scope.isGenerator=false
 nc:∀x∈scope.names,(x.2==NameKind.cell)=false
 l1:scope.names.lookup ("self":Str)=some .local
 l2:scope.names.lookup ("kind":Str)=some .local
 l3:scope.names.lookup ("text":Str)=some .local
 l4:scope.names.lookup ("Exception":Str)=some .globalImplicit
 body:∃p1 p2 p3 p4 k5 p5 p6 p7 p8 p9 p10 p11 p12 p13 p14 p15 p16 p17 p18,(Pos.endLine p2==Pos.line p9)=true∧bd=[.Expr (.Call (.Attribute (.Name "Exception" p1) "__init__" p2) [.Name "self" p3,.BinOp (.BinOp (.Name "kind" p4) .Add (.Constant (.str ": ") k5 p5) p6) .Add (.Name "text" p7) p8] [] p9) p10,
   .Assign [.Attribute (.Name "self" p11) "kind" p12] (.Name "kind" p13) p14,.Assign [.Attribute (.Name "self" p15) "text" p16] (.Name "text" p17) p18]
noncomputable def nQ:List Str:=["kind","text","__setattr__","__getattribute__","__getattr__"]
structure wB (bs:Heap)(mg mb:Str→Option Value)(C N fI:Addr)(mN:Str→Option Value):Prop where
 cls:∃nm q bs' sn sub ab col dd k0 k1 k2 k3 k5,bs.get? C=some (excClassObj nm q C N bs' qG true sn sub ab col dd k0 k1 k2 k3 k5 "Exception.__new__")
 ns:bs.Ns N mN
 init:mN "__init__"=some (.ref fI)
 no:∀n∈nQ,mN n=none
 fn:∃o params body scope pm cd doc,bs.get? fI=some o∧o.cls=.type "function"∧o.data=.func (methDef "__init__" "CasFail.__init__" params body scope pm cd doc)∧bs.CodeRec cd "CasFail.__init__"∧QU params body scope
 there:mg "CasFail"=some (.ref C)
 excG:mg "Exception"=none
 excB:mb "Exception"=some (.type "Exception")
section
variable {prog:Program}{w:World}{A:Around}{E:Value→Shared→Prop}{s:Shared}{env:Env}
theorem JG {o:Expr}{name:Str}{apos pos:Pos}{args:List Expr}{trees:List (Bool×Sem Value)}{Q:Value→Shared→Prop}
  (hbase:attributeBase o name env (eval o env)=eval o env)
  (hfew:((backTo pos (starEach args env)).all (fun x=> !x.1) && (backToKw pos (keywordEach [] env)).all (fun x=>x.1.isSome)
   && decide (args.length+([]:List Keyword).length+(if ([]:List Keyword).isEmpty then 0 else 1)<30))=true)
  (hline:(apos.endLine==pos.line)=true) (htrees:backTo pos (starEach args env)=trees)
  (h:wpAny (model prog w) A (eval o env) (fun ov s₁=>∀pl,wpAny (model prog w) A (getMethod ov name pl) (fun fx s₂=>wpAny (model prog w) A (callWith pos fx.1 fx.2 trees []) Q E s₂) E s₁) E s):
  wpAny (model prog w) A (eval (.Call (.Attribute o name apos) args [] pos) env) Q E s:=by
 subst htrees
 rw [arm_eval_Call,hbase]
 refine wpAny_bind (wpAny_mono h (fun ov s₁ h₁=>?_) fun _ _ e=>e)
 refine wpAny_bind (wpAny_standAt ?_)
 have hform:methodCallForm (args.length+([]:List Keyword).length) (backTo pos (starEach args env)) (backToKw pos (keywordEach [] env))=true:=hfew
 have hpos:methodCallPos true o env apos pos=pure pos:=by unfold methodCallPos;simp [hline]
 unfold methodCall
 refine (Eq.symm hform)▸?_
 refine wpAny_bind (wpAny_holding (wpAny_mono (h₁ _) (fun fx s₂ h₂=>?_) fun _ _ e=>e))
 exact wpAny_bind (wpAny_of_eq hpos h₂)
theorem ac2 (h:Heap):Frag.In [] h:=fun _ _ e=>by cases e
theorem JH {T:String}{name:Str}{v:Value}{pl:Sem Bool}{Q:Value×List Value→Shared→Prop}(ht:typeOf (.type T)=pure (.type "type")) (hs:Manifest.isStub T=false)
  (e:findCls [] (.type T) (.type "type") name=some (.val v)) (hh:handedIn v=true) (h:Q (v,[]) {s with toks:=s.toks+1}):wpAny (model prog w) A (getMethod (.type T) name pl) Q E s:=by
 have X:Frag.In [] s.heap:=ac2 _
 have hstub:opaqueClassAbove (.type T)=pure none:=by unfold opaqueClassAbove;dsimp only;refine (Eq.symm hs)▸?_;rfl
 have L0:Looks (model prog w) s.heap (typeOf (.type T)) (.type "type"):=Looks.of_pure ht
 have hg:findIn [] (.type "type") "__getattribute__"=some (some (.builtin "type.__getattribute__")):=type_tga
 unfold getMethod specialOf
 refine wpAny_bind (wpAny_bind (L0.here ((looks_findIn X hg).here ?_)))
 dsimp only
 refine (Eq.symm (if_pos canon_tga))▸?_
 refine wpAny_bind (wpAny_mono (Q:=fun v=>Q (v,[])) (E:=E) ?_ (fun _ _ z=>wpAny_pure z) fun _ _ z=>z)
 have LO:Looks (model prog w) s.heap (opaqueClassAbove (.type T)) none:=Looks.of_pure hstub
 refine cls_open X LO L0 hg (looks_hook X (r:=none) (by rfl)) (by show subIn [] _ _=_;rfl) e
  (wpAny_pure (by show wpAny _ _ (handedOut v) _ _ _;refine (Eq.symm (handedOut_of hh))▸?_;exact wpAny_pure h))
theorem yG:findCls [] (.type "Exception") (.type "type") (Str.ofString "__init__")=some (.val (.builtin "Exception.__init__")):=by kernel_rfl
end
section
open Builtin Builtin.ObjectAttr
section
variable {prog:Program}{w:World}{A:Around}{E:Value→Shared→Prop}{h:Heap}{g:Array GenState}{d:Drawn}{t:Nat}{os:OsState}
variable {nm q:Str}{C N x:Addr}{bs bm:List Value}{sn:List Str}{sub:List Value}{ab:Bool}{col:Option Bool}{dd:Option Addr}{k0 k1 k2 k3 k5:Option Value}{B newId sa owner:String}
 {mN:Str→Option Value} {name:Str} {v:Value} {o:Obj}
abbrev GO (h:Heap) (x:Addr) (o:Obj) (name:Str) (v:Value) (h':Heap):Prop:=
 ∃dx,h.get? dx=none∧h'.get? x=some {o with dict:=some dx}∧dx≠x∧h'.Ns1 dx (fun y=>if y=name then some v else none)∧∀b ob,b≠x→h.get? b=some ob→h'.get? b=some ob
theorem AP {tk:Tok}{Q:Fin→Shared→Prop}(SF:StoreFacts B bm sa owner)
  (hC:h.get? C=some (excClassObj nm q C N bs bm true sn sub ab col dd k0 k1 k2 k3 k5 newId)) (hn:h.Ns N mN) (hna:mN name=none)
  (hB:typeLookup (.type B) name=pure none) (hx:h.get? x=some o) (hc:o.cls=.ref C) (hnc:∀c,o.data≠.cls c) (hdn:o.dict=none)
  (hq:∀h' tk',GO h x o name v h'→Q (.done (.ret .none)) ⟨h',g,d,tk',os⟩):
  wpAny (model prog w) A (Builtin.«object.__setattr__» ⟨[.ref x,.str name tk,v],[]⟩) Q E ⟨h,g,d,t,os⟩:=by
 have hpass:=SF.passes (.ref x)
 unfold Builtin.«object.__setattr__»
 repeat (first|rw [refuse_eq]|(rw [refuseLoop_ref,hpass])|(with_reducible refine wpAny_loadPart_at hx ?_;rw [hc])|with_reducible refine wpAny_mroOf_exc hC ?_|(with_reducible refine wpAny_typeLookup_exc hC hn SF.mro hB ?_;rw [hna])|wp_step)
 rw [hdn,if_neg (by simp [typeHasDict])]
 split
 ·rename_i hcd
  cases hcd
 split
 ·rename_i c hcd
  exact absurd hcd (hnc c)
 ·have hx₁:(h.push {cls:=.type "dict",data:=.dict #[]}).get? x=some o:=Heap.get?_push_of_some _ hx
  have hxs:x≠h.objs.size:=Nat.ne_of_lt (Heap.lt_size hx)
  refine wpAny_bind (wpAny_alloc' ?_)
  refine wpAny_bind (wpAny_update' hx₁ ?_)
  refine wpAny_pure ?_
  generalize hu:((h.push {cls:=.type "dict",data:=.dict #[]}).update x fun o=>{cls:=o.cls,dict:=some h.objs.size,data:=o.data,slots:=o.slots})=hu'
  have hgd:hu'.get? h.objs.size=some {cls:=.type "dict",data:=.dict #[]}:=by
   rw [←hu];exact (Heap.get?_update_ne _ _ _ _ hxs.symm).trans (Heap.get?_push_at rfl rfl)
  have hnd:hu'.Ns h.objs.size (fun _=>none):=(jU _ (#[]) _ ⟨hgd,rfl,fun e he=>absurd he (by simp),fun _=>rfl⟩)
  have hfr:({cls:=o.cls,dict:=some h.objs.size,data:=o.data,slots:=o.slots}:Obj).isFreed=false:=by
   have hf:=(Heap.get?_some_iff.mp hx).2
   obtain ⟨oc,od,odt,osl⟩:=o
   cases odt<;>first|rfl|exact hf
  have hxu:hu'.get? x=some {cls:=o.cls,dict:=some h.objs.size,data:=o.data,slots:=o.slots}:=by
   rw [←hu];exact Heap.get?_update_self _ hx₁ hfr
  have hku:∀b ob,b≠x→h.get? b=some ob→hu'.get? b=some ob:=fun b ob n e=>by
   rw [←hu];exact (Heap.get?_update_ne _ _ _ _ n).trans (Heap.get?_push_of_some _ e)
  show wpAny _ _ (storeInDict h.objs.size (.str name tk) name v) _ _ _
  unfold storeInDict newKeyGuard
  refine wpAny_bind (wpAny_pure (wpAny_bind (wpAny_nsSet1 (Heap.Ns1.of_empty hnd) fun h' hn' hs=>?_)))
  refine eP (hn'.count (Within.cons name v Within.nil)) fun oD esD epD hoD hdD hcD=>?_
  refine wpAny_bind (wpAny_lookBehind hoD (by rw [hdD];exact pastItsLine_dict (Nat.le_trans hcD (by rw [List.length_cons,List.length_nil,sizeLine_eq];lia))) ?_)
  wp_walk
  exact hq h' _ ⟨h.objs.size,Heap.get?_none_of_le (Nat.le_refl _),(hs.2 x hxs).trans hxu,hxs.symm,hn',fun b ob n e=>(hs.2 b (Nat.ne_of_lt (Heap.lt_size e))).trans (hku b ob n e)⟩
theorem qY {Q:Unit→Shared→Prop}(SF:StoreFacts B bm sa owner)
  (hC:h.get? C=some (excClassObj nm q C N bs bm true sn sub ab col dd k0 k1 k2 k3 k5 newId)) (hn:h.Ns N mN) (hns:mN "__setattr__"=none) (hna:mN name=none)
  (hB:typeLookup (.type B) name=pure none) (hx:h.get? x=some o) (hc:o.cls=.ref C) (hnc:∀c,o.data≠.cls c) (hdn:o.dict=none)
  (hq:∀h' tk',GO h x o name v h'→Q () ⟨h',g,d,tk',os⟩):wpAny (model prog w) A (setAttr (.ref x) name v) Q E ⟨h,g,d,t,os⟩:=by
 have f3:=SF.slot.bind (.ref x)
 unfold setAttr callSpecial? specialOf
 repeat (any_goals (first|assumption|(with_reducible refine wpAny_loadPart_at hx ?_;rw [hc])|(with_reducible refine wpAny_typeLookup_exc hC hn SF.mro SF.slot.lookup ?_;rw [hns])|wp_step))
 refine codeAny_call_builtin SF.slot.plain SF.entry (wpAny_check_sa SF hC hx hc (AP SF hC hn hna hB hx hc hnc hdn fun h' tk' I'=>?_))
 repeat (any_goals (first|assumption|wp_step))
 exact hq h' tk' I'
end
end
theorem GP:typeLookup (.type "Exception") (Str.ofString "kind")=pure none:=by rw [typeLookup_type,builtinLookup_eq_fast];kernel_rfl
theorem XG:typeLookup (.type "Exception") (Str.ofString "text")=pure none:=by rw [typeLookup_type,builtinLookup_eq_fast];kernel_rfl
theorem ac3:typeOf (.type "Exception")=pure (.type "type"):=by kernel_rfl
theorem QV:Manifest.isStub "Exception"=false:=by decide+kernel
theorem QW:handedIn (.builtin "Exception.__init__")=true:=by decide+kernel
theorem QX {prog:Program}{w:World}{A:Around}{E:Value→Shared→Prop}{s:Shared}{pl:Sem Bool}{Q:Value×List Value→Shared→Prop}(h:Q (.builtin "Exception.__init__",[]) {s with toks:=s.toks+1}):
  wpAny (model prog w) A (getMethod (.type "Exception") "__init__" pl) Q E s:=JH (T:="Exception") (name:=Str.ofString "__init__") (v:=.builtin "Exception.__init__") ac3 QV yG QW h
structure EA (h0 h:Heap)(e C:Addr)(da:Addr)(k x:Value):Prop where
 keep:∀b o,h0.get? b=some o→h.get? b=some o
 new:h0.get? e=none
 obj:∃oe vs,h.get? e=some oe∧oe.cls=.ref C∧oe.dict=some da∧oe.data=.fields vs∧vs[1]? =some .none
 newD:h0.get? da=none
 dict:∃mA,h.Ns da mA∧mA "kind"=some k
section
variable {prog:Program}{w:World}{A:Around}{E:Value→Shared→Prop}{s:Shared}{bs h0:Heap}{mg mb mN:Str→Option Value}{C N fI e:Addr}
theorem QY {nm q:Str}{bs':List Value}{sn:List Str}{sub:List Value}{ab:Bool}{col:Option Bool}{dd:Option Addr}{k0 k1 k2 k3 k5:Option Value}{hdct:Bool}{ob:Obj}{vs:Array Value}{t0:Addr}{rest:List Value}{Q:Value→Shared→Prop}
  (hC:s.heap.get? C=some (excClassObj nm q C N bs' qG hdct sn sub ab col dd k0 k1 k2 k3 k5 "Exception.__new__")) (he:s.heap.get? e=some ob) (hcls:ob.cls=.ref C) (hd:ob.data=.fields vs) (h0:vs[0]? =some (.ref t0))
  (h:Q .none {s with heap:=(s.heap.push {cls:=.type "tuple",data:=.seq rest.toArray}).update e (Obj.mapFields (·.setIfInBounds 0 (.ref s.heap.objs.size)))}) (hrest:rest.length≤sizeLine):
  wpAny (model prog w) A (call (.builtin "Exception.__init__") (.ref e::rest)) Q E s:=by
 obtain ⟨hh,g,d,t,os⟩:=s
 refine wpAny_call (codeAny_call_builtin PySem.F.excBase_Exception.init.plain PySem.F.excBase_Exception.initEntry (wpAny_check_init_sub PySem.F.excBase_Exception hC he hcls ?_))
 unfold Builtin.«BaseException.__init__»
 dsimp only
 rw [if_neg (by simp)]
 unfold newTuple Builtin.BaseException.bexcPut
 have hsz:0<vs.size:=(Array.getElem?_eq_some_iff.mp h0).1
 have he₁:=Heap.get?_push_of_some (h:=hh) {cls:=.type "tuple",data:=.seq rest.toArray} he
 refine wpAny_bind (wpAny_newObj_type (wpAny_bind (wpAny_bind (wpAny_field he₁ hd h0 (wpAny_bind (wpAny_setField he₁ hd hsz ?_))))) (by show rest.toArray.size≤sizeLine;refine (Eq.symm List.size_toArray)▸?_;exact hrest))
 exact wpAny_letGo (wpAny_pure h)
theorem QZ {k x:Str}{t1 t2:Tok}{L:Addr}{h1:Heap}{m:Str→Option Value}{Q:Flow→Shared→Prop}{p1 p2 p3 p4 p5 p6 p7 p8 p9 p10 p11 p12 p13 p14 p15 p16 p17 p18:Pos}{k5:Nat}(CA:wB bs mg mb C N fI mN)(hnsg:bs.Ns mainGlobals mg)(hnsb:bs.Ns builtinsNs mb)
  (hm:Heap.MadeExcOf h0 h1 e (.ref C) [.str k t1,.str x t2]) (hb0:∀a o,bs.get? a=some o→h0.get? a=some o) (hk1:∀a o,h1.get? a=some o→s.heap.get? a=some o) (hL:h1.get? L=none)
  (k1:env.scope.kind=.function) (g1:env.globals=mainGlobals) (g2:env.builtins=builtinsNs) (l1:env.kindOf "self"=some .local) (l2:env.kindOf "kind"=some .local) (l3:env.kindOf "text"=some .local) (l4:env.kindOf "Exception"=some .globalImplicit) (eL:env.locals=L)
  (hns:s.heap.Ns L m) (m1:m "self"=some (.ref e)) (m2:m "kind"=some (.str k t1)) (m3:m "text"=some (.str x t2)) (qL:(p2.endLine==p9.line)=true) (hk:k.length≤1000) (hx:x.length≤1000)
  (hq:∀h' tk da,EA h0 h' e C da (.str k t1) (.str x t2)→Q .next {s with heap:=h',toks:=tk}):
  wpAny (model prog w) A (execs [.Expr (.Call (.Attribute (.Name "Exception" p1) "__init__" p2) [.Name "self" p3,.BinOp (.BinOp (.Name "kind" p4) .Add (.Constant (.str ": ") k5 p5) p6) .Add (.Name "text" p7) p8] [] p9) p10,
   .Assign [.Attribute (.Name "self" p11) "kind" p12] (.Name "kind" p13) p14,.Assign [.Attribute (.Name "self" p15) "text" p16] (.Name "text" p17) p18] env) Q E s:=by
 have hi:interactive env=false:=by unfold interactive;refine (Eq.symm k1)▸?_;rfl
 have hbs:∀a o,bs.get? a=some o→s.heap.get? a=some o:=fun a o g=>hk1 _ _ (hm.keeps a o (hb0 a o g))
 have eld:∀{n:Str} {p:Pos} {v:Value} {A':Around} {E':Value→Shared→Prop} {s':Shared} {m':Str→Option Value} {Q':Value→Shared→Prop},env.kindOf n=some .local→(n==("__debug__":Str))=false→s'.heap.Ns L m'→m' n=some v→Q' v s'→
   wpAny (model prog w) A' (eval (.Name n p) env) Q' E' s':=fun h1 h2 h3 h4 h5=>wpAny_Name (wpAny_loadName_local k1 h1 (eL.symm▸h3) h4 h5) h2
 refine wH CA.cls fun nm q bs' sn sub ab col dd c0 c1 c2 c3 c5 hC=>?_
 refine iA hm.there fun t0 he htn ht=>?_
 have he':=hk1 _ _ he
 refine wpAny_execs_cons (wpAny_Expr (JG rfl rfl qL rfl ?_) hi rfl)
 refine Calls.Name_function_global k1 l4 (Calls.loadGlobal_builtin (g1.symm▸hnsg.keeps hbs) CA.excG (g2.symm▸hnsb.keeps hbs) CA.excB ?_)
 intro pl
 refine QX ?_
 refine Calls.callWith_builtin rfl (Calls.evalArgs_plain (Calls.spliced_cons (eld l1 (by decide) hns m1 (Calls.spliced_cons (wpAny_BinOp (wpAny_BinOp (eld l2 (by decide) hns m2 (wpAny_Constant_str (SBL.add (fun t' tk _=>?_) ?_)))))))))
 ·refine eld l3 (by decide) hns m3 (SBL.add (fun t'' tk' _=>?_) ?_)
  ·refine Calls.spliced_nil ?_
   refine QY (s:={s with toks:=tk'}) (hbs _ _ hC) he' rfl rfl rfl ?_ (show 1≤sizeLine by decide)
   generalize hh2:(Heap.update (Heap.push s.heap {cls:=.type "tuple",data:=.seq [Value.str (k++Str.ofString ": "++x) t''].toArray}) e (Obj.mapFields (·.setIfInBounds 0 (.ref s.heap.objs.size))))=h2
   have ne:∀a o,h0.get? a=some o→a≠e:=fun a o g q=>by rw [q,hm.new] at g;cases g
   have keep2:∀b o,b≠e→s.heap.get? b=some o→h2.get? b=some o:=fun b o n g=>by
    refine hh2▸?_;refine (Eq.symm (Heap.get?_update_other _ _ (Ne.symm n)))▸?_;exact Heap.get?_push_of_some _ g
   have he2:=Heap.get?_update_self (Obj.mapFields (·.setIfInBounds 0 (.ref s.heap.objs.size))) (Heap.get?_push_of_some {cls:=.type "tuple",data:=.seq [Value.str (k++Str.ofString ": "++x) t''].toArray} he') rfl
   rw [hh2] at he2
   have hb2:∀a o,bs.get? a=some o→h2.get? a=some o:=fun a o g=>keep2 a o (ne a o (hb0 a o g)) (hbs a o g)
   have hLe:L≠e:=fun q=>by rw [q,he] at hL;cases hL
   have hns2:h2.Ns L m:=hns.at' fun o g=>keep2 L o hLe g
   have hCe:e≠C:=Ne.symm (ne C _ (hb0 _ _ hC))
   have kp2:∀b o,h0.get? b=some o→h2.get? b=some o:=fun b o g=>keep2 b o (ne b o g) (hk1 _ _ (hm.keeps b o g))
   show wpAny _ _ (execs _ env) _ _ _
   refine wpAny_execs_cons (plainObj_wpAny_Assign_Attribute (eld l2 (by decide) hns2 m2 (eld l1 (by decide) hns2 m1 ?_)))
   refine qY PySem.F.store_Exception (hb2 _ _ hC) (CA.ns.keeps hb2) (CA.no _ (by simp [nQ])) (CA.no _ (by simp [nQ])) GP he2 rfl (by intro c q;cases q) rfl (fun h3 tk3 NA=>?_)
   refine XV NA fun da hdn he3 hde hn3 keep3=>?_
   have hb3:∀a o,bs.get? a=some o→h3.get? a=some o:=fun a o g=>keep3 a o (ne a o (hb0 a o g)) (hb2 a o g)
   have hns3:h3.Ns L m:=hns2.at' fun o g=>keep3 L o hLe g
   have kp3:∀b o,h0.get? b=some o→h3.get? b=some o:=fun b o g=>keep3 b o (ne b o g) (kp2 b o g)
   have da0:∀b o,h2.get? b=some o→b≠da:=fun b o g q=>by rw [q,hdn] at g;cases g
   refine wpAny_execs_cons (plainObj_wpAny_Assign_Attribute (eld l3 (by decide) hns3 m3 (eld l1 (by decide) hns3 m1 ?_)))
   refine store_attr PySem.F.store_Exception (hb3 _ _ hC) (CA.ns.keeps hb3) (CA.no _ (by simp [nQ])) (CA.no _ (by simp [nQ])) XG hCe ⟨_,he3,rfl,(by intro c q;cases q),.inr ⟨da,rfl,hde,hn3⟩⟩ (fun h4 tk4 I4 hk4 hs4=>?_) (Within.cons _ _ Within.nil) (by decide)
   refine XV (hs4 _ he3) fun o1 f1 f2 f3 f4 f5=>?_
   refine XU I4 fun o2 i1 i2 i3 i4=>?_
   rw [f1] at i1;cases i1
   have f6:=f5 da rfl
   rcases i4 with ⟨i4,_⟩|⟨d,i4,i5,i6⟩
   ·rw [f6] at i4;cases i4
   rw [f6] at i4;cases i4
   refine wpAny_execs_nil (hq h4 tk4 da ⟨fun b o g=>?_,hm.new,(bW o1 _ ⟨f1,f2,f6,f3,rfl⟩),?_,_,i6.ns,rfl⟩)
   rotate_left
   ·cases q:h0.get? da with
    |none=>rfl
    |some o=>exact absurd rfl (da0 _ _ (kp2 _ _ q))
   exact hk4 b o (ne b o g) (fun o₀ dx e0 e1=>by rw [he3] at e0;cases e0;cases e1;exact da0 b o (kp2 b o g)) (kp3 b o g)
  ·rw [Str.length_append,sizeLine_eq]
   have:(Str.ofString ": ").length=2:=by decide
   lia
 ·refine (Eq.symm sizeLine_eq)▸?_
  have:(Str.ofString ": ").length=2:=by decide
  lia
set_option maxHeartbeats 1000000 in
theorem RB {k x:Str}{t1 t2:Tok}{Q:Value→Shared→Prop}(CA:wB bs mg mb C N fI mN)(hnsg:bs.Ns mainGlobals mg)(hnsb:bs.Ns builtinsNs mb)(nolim:bs.NoLimit)(hb0:∀a o,bs.get? a=some o→h0.get? a=some o)
  (hm:Heap.MadeExcOf h0 s.heap e (.ref C) [.str k t1,.str x t2]) (hroom:A.depth<1000) (hk:k.length≤1000) (hx:x.length≤1000)
  (hq:∀h' tk da,EA h0 h' e C da (.str k t1) (.str x t2)→Q .none {s with heap:=h',toks:=tk}):wpAny (model prog w) A (call (.ref fI) [.ref e,.str k t1,.str x t2]) Q E s:=by
 have hbs:∀a o,bs.get? a=some o→s.heap.get? a=some o:=fun a o g=>hm.keeps a o (hb0 a o g)
 refine iJ fun gG gH=>?_;refine XX CA.fn fun o params body scope pm cd doc hfI hcls hdat hcd hok=>?_
 obtain ⟨p1,p2,p3,p4,k5,p5,p6,p7,p8,p9,p10,p11,p12,p13,p14,p15,p16,p17,p18,qL,rfl⟩:=hok.body
 refine wH CA.cls fun nm q bs' sn sub ab col dd c0 c1 c2 c3 c5 hC=>?_
 refine gH ?_;refine wpAny_call (codeAny_call_def hroom (hbs _ _ hfI) hdat (nolim.keeps hbs) (hcd.keeps hbs) rfl (.of_eq (hok.bind _ _ _ _ _ _ _)) (fun y hy q=>?_) (fun y hy=>?_) (fun h₁ hns hk₁=>?_) hok.co hok.gen hok.kind)
 ·have:=hok.nc y hy
  rw [q] at this;cases this
 ·rcases List.mem_cons.mp hy with rfl|hy
  ·exact hok.l1
  ·rcases List.mem_cons.mp hy with rfl|hy
   ·exact hok.l2
   ·rcases List.mem_cons.mp hy with rfl|hy
    ·exact hok.l3
    ·exact absurd hy List.not_mem_nil
 ·have F:Fr s.heap s.heap.objs.size h₁ _:=⟨hns,hk₁,Nat.le_refl _⟩
  refine wpAny_mono (Q:=fun f s'=>f=.next∧Q .none s') (E:=fun _ _=>False) (QZ (s:={s with heap:=h₁,toks:=_}) (L:=s.heap.objs.size) (h1:=s.heap) CA hnsg hnsb hm hb0 hk₁ (Heap.get?_none_of_le (Nat.le_refl _)) hok.kind rfl rfl hok.l1 hok.l2 hok.l3 hok.l4 rfl hns ?_ ?_ ?_ qL hk hx ?_) ?_ ?_
  ·rfl
  ·rfl
  ·rfl
  ·exact fun h' tk da CO=>⟨rfl,hq h' tk da CO⟩
  ·rintro f s' ⟨rfl,h⟩;exact h
  ·exact fun _ _ z=>z.elim
end
section
variable {M:Model}{A:Around}{E:Value→Shared→Prop}{env:Env}
variable {nm q:Str}{C N:Addr}{bs bm:List Value}{hdct:Bool}{sn:List Str}{sub:List Value}{ab:Bool}{col:Option Bool}{dd:Option Addr}{k0 k1 k2 k3 k5:Option Value}{newId:String}
theorem EB {s:Shared}{x:Sem Value}{Q:Flow→Shared→Prop}(hbase:bm.contains (.type "BaseException")=true) (hh:A.handled=none)
  (h:wpAny M A x (fun v s₁=>∃e oe vs,v=.ref e∧s₁.heap.get? C=some (excClassObj nm q C N bs bm hdct sn sub ab col dd k0 k1 k2 k3 k5 newId)∧
   s₁.heap.get? e=some oe∧oe.cls=.ref C∧oe.data=.fields vs∧vs[1]? =some .none∧E (.ref e) s₁) E s):
  wpAny M A (raiseStmt env (some x) none) Q E s:=by
 have hcB:(Value.ref C::bm).contains (.type "BaseException")=true:=by rw [List.contains_cons,hbase,Bool.or_true]
 unfold raiseStmt
 refine wpAny_bind (wpAny_mono h (fun v s₁ h₁=>?_) fun _ _ x=>x)
 refine adT h₁ fun e oe vs amD hC he hc hd h1 hE=>?_;subst amD
 obtain ⟨hp,g,d,tk,os⟩:=s₁
 repeat (first|(with_reducible refine wpAny_loadPart_at he ?_;rw [hc])|with_reducible refine wpAny_loadPart_at hC ?_|(with_reducible refine wpAny_isSubtype_exc hC ?_;rw [hcB])|(with_reducible refine wpAny_field he hd h1 ?_)|wp_step)
 exact wpAny_raiseNew_none hh hE
end
section
variable {prog:Program}{w:World}{A:Around}{E:Value→Shared→Prop}{s:Shared}{env:Env}{bs:Heap}{mg mb mN:Str→Option Value}{C N fI:Addr}
theorem JI {k x:Str}{np cpos pos p1 p2:Pos}{k1 k2:Nat}{Q:Flow→Shared→Prop}(CA:wB bs mg mb C N fI mN)(hnsg:bs.Ns mainGlobals mg)(hnsb:bs.Ns builtinsNs mb)(nolim:bs.NoLimit)(hb:∀a o,bs.get? a=some o→s.heap.get? a=some o)
  (hh:A.handled=none) (hd:A.depth+1<1000) (ek:env.scope.kind=.function) (g1:env.globals=mainGlobals) (hg:env.kindOf "CasFail"=some .globalImplicit) (hk:k.length≤1000) (hx:x.length≤1000)
  (h:∀h' tk e da t1 t2,EA s.heap h' e C da (.str k t1) (.str x t2)→E (.ref e) {s with heap:=h',toks:=tk}):
  wpAny (model prog w) A (exec (.Raise (some (.Call (.Name "CasFail" np) [.Constant (.str k) k1 p1,.Constant (.str x) k2 p2] [] cpos)) none pos) env) Q E s:=by
 refine wH CA.cls fun nm q bs' sn sub ab col dd c0 c1 c2 c3 c5 hC=>?_
 refine XX CA.fn fun oI params body scope pm cd doc hfI hcls hdat hcd hok=>?_
 rw [arm_exec_Raise]
 refine wpAny_bind (wpAny_standAt (EB (C:=C) (nm:=nm) (q:=q) (N:=N) (bs:=bs') (bm:=qG) (hdct:=true) (sn:=sn) (sub:=sub) (ab:=ab) (col:=col) (dd:=dd) (k0:=c0) (k1:=c1) (k2:=c2) (k3:=c3) (k5:=c5) (newId:="Exception.__new__") (by decide) hh
  (wpAny_bind (wpAny_mono (wpAny_Call_ofName ?_) (fun v s₃ h₃=>wpAny_bind (wpAny_standAt (wpAny_pure h₃))) fun _ _ x=>x))))
 refine Calls.Name_function_global ek hg (Calls.loadGlobal_global (g1.symm▸hnsg.keeps hb) CA.there ?_)
 have ha:backTo cpos (starEach [.Constant (.str k) k1 p1,.Constant (.str x) k2 p2] env)=[(false,eval (.Constant (.str k) k1 p1) env),(false,eval (.Constant (.str x) k2 p2) env)]:=rfl
 rw [ha]
 unfold callWith
 refine wpAny_bind (wpAny_holding (wpAny_mono (Calls.evalArgs_plain (Calls.spliced_cons (wpAny_Constant_str (Calls.spliced_cons (wpAny_Constant_str (Calls.spliced_nil ?_)))))) (fun a s₂ h₂=>wpAny_bind (wpAny_standAt h₂)) fun _ _ x=>x))
 dsimp only [List.any_cons,List.any_nil,Bool.or_false,Bool.false_or]
 refine wpAny_bind (wpAny_keeperOf_exc (hb _ _ hC) ?_)
 refine wpAny_bind (wpAny_call_exc_init PySem.F.excBase_Exception (hb _ _ hC) (CA.ns.keeps hb) CA.init (hb _ _ hfI) hcls (fun h' e hm=>?_) (show 2≤sizeLine by decide))
 refine RB (s:={s with heap:=h',toks:=_}) (h0:=s.heap) CA hnsg hnsb nolim hb hm (by show A.depth+1<1000;exact hd) hk hx fun h'' tk da CO=>⟨rfl,?_⟩
 refine wpAny_bind (wpAny_holding (wpAny_point (wpAny_pure ?_)))
 refine mF CO.obj fun oe vs o1 o2 o3 o4 o5=>?_
 exact (jU e oe vs ⟨rfl,CO.keep _ _ (hb _ _ hC),o1,o2,o4,o5,h _ _ _ _ _ _ CO⟩)
end
section
open Builtin Builtin.ObjectAttr
section
variable {prog:Program}{w:World}{A:Around}{E:Value→Shared→Prop}{h:Heap}{g:Array GenState}{d:Drawn}{t:Nat}{os:OsState}
variable {nm q:Str}{C N e da:Addr}{bs:List Value}{sn:List Str}{sub:List Value}{ab:Bool}{col:Option Bool}{dd:Option Addr}{k0 k1 k2 k3 k5:Option Value}{newId:String}
 {mN mA:Str→Option Value} {v:Value} {oe:Obj} {vs:Array Value}
theorem EC {tk:Tok}{Q:Fin→Shared→Prop}(hC:h.get? C=some (excClassObj nm q C N bs qG true sn sub ab col dd k0 k1 k2 k3 k5 newId))(hn:h.Ns N mN)(hna:mN "kind"=none)
  (hx:h.get? e=some oe) (hc:oe.cls=.ref C) (hd:oe.dict=some da) (hdt:oe.data=.fields vs) (hns:h.Ns da mA) (hv:mA "kind"=some v) (hq:Q (.done (.ret v)) ⟨h,g,d,t,os⟩):
  wpAny (model prog w) A (Builtin.«object.__getattribute__» ⟨[.ref e,.str "kind" tk],[]⟩) Q E ⟨h,g,d,t,os⟩:=by
 unfold Builtin.«object.__getattribute__»
 repeat (first|(with_reducible refine wpAny_loadPart_at hx ?_;rw [hc])|(with_reducible refine wpAny_typeLookup_exc hC hn PySem.F.excBase_Exception.mroIs GP ?_;rw [hna])|wp_step)
 split
 ·rename_i c hcd
  rw [hdt] at hcd;cases hcd
 unfold instanceDict
 repeat (first|(with_reducible refine wpAny_loadPart_at hx ?_;rw [hc])|with_reducible refine wpAny_loadPart_at hC ?_|wp_step)
 rw [hd]
 repeat (first|(with_reducible refine wpAny_nsGet hns ?_;rw [hv])|wp_step)
 exact hq
theorem RC {M:Model}{nameV:Value}{Q:Unit→Shared→Prop}(hC:h.get? C=some (excClassObj nm q C N bs qG true sn sub ab col dd k0 k1 k2 k3 k5 newId))(hx:h.get? e=some oe)(hc:oe.cls=.ref C)(hq:Q () ⟨h,g,d,t,os⟩):
  wpAny M A (checkBuiltinCall "BaseException.__getattribute__" ⟨[.ref e,nameV],[]⟩) Q E ⟨h,g,d,t,os⟩:=by
 have hk:builtinKind "BaseException.__getattribute__"=some .slot:=by decide+kernel
 have hsplit:splitId "BaseException.__getattribute__"=some ("BaseException","__getattribute__"):=by decide+kernel
 have hcB:(Value.ref C::qG).contains (.type "BaseException")=true:=by rw [List.contains_cons];rfl
 have ha:=PySem.F.args_bexc_ga (.ref e) nameV
 simp only [checkBuiltinCall,hk,hsplit]
 refine wpAny_bind ?_
 unfold isInstance
 repeat (first|(with_reducible refine wpAny_loadPart_at hx ?_;rw [hc])|(with_reducible refine wpAny_isSubtype_exc hC ?_;rw [hcB])|wp_step)
 exact hq
theorem JJ {expr:Bool}{Q:Value→Shared→Prop}(hC:h.get? C=some (excClassObj nm q C N bs qG true sn sub ab col dd k0 k1 k2 k3 k5 newId))(hn:h.Ns N mN)(hna:mN "kind"=none) (hng:mN "__getattribute__"=none) (hnh:mN "__getattr__"=none)
  (hx:h.get? e=some oe) (hc:oe.cls=.ref C) (hd:oe.dict=some da) (hdt:oe.data=.fields vs) (hns:h.Ns da mA) (hv:mA "kind"=some v) (hh:handedOut v=pure v) (hq:Q v ⟨h,g,d,t+1,os⟩):
  wpAny (model prog w) A (getAttr (.ref e) "kind" expr) Q E ⟨h,g,d,t,os⟩:=by
 have FB:=PySem.F.attrBase_Exception
 have f3:=FB.ga.bind (.ref e)
 have hx0:(expr && onTheHeap (Value.builtin "BaseException.__getattribute__"))=false:=by cases expr<;>rfl
 have hx2:(Value.builtin "BaseException.__getattribute__"==Value.builtin "object.__getattribute__")=false:=by decide+kernel
 have hx1:(onTheHeap (Value.ref C) && Value.builtin "BaseException.__getattribute__"==Value.builtin "object.__getattribute__")=false:=by rw [hx2];rfl
 have hcB:(Value.ref C::qG).contains (.type "BaseException")=true:=by rw [List.contains_cons];rfl
 unfold getAttr getAttrBy
 repeat (any_goals (first|assumption|(with_reducible refine wpAny_loadPart_at hx ?_;rw [hc])|(with_reducible refine wpAny_typeLookup_exc hC hn FB.mro FB.ga.lookup ?_;rw [hng])|wp_step))
 refine wpAny_typeLookup_exc hC hn FB.mro FB.noGetattr ?_
 rw [hnh]
 repeat (any_goals (first|assumption|wp_step))
 refine codeAny_call_builtin FB.ga.plain PySem.F.entry_bexc_ga (RC hC hx hc (EC hC hn hna hx hc hd hdt hns hv ?_))
 show wpAny _ _ (handedOut v) _ _ _
 rw [hh]
 exact wpAny_pure hq
end
end
def GQ (L:Addr)(h h':Heap):Prop:=∀b o,b≠L→h.get? b=some o→(∀vs,o.data≠.fields vs)→∃sl,h'.get? b=some {o with slots:=sl}
theorem GQ.trans {L:Addr}{a b c:Heap}(x:GQ L a b)(y:GQ L b c):GQ L a c:=fun q o n g f=>by
 refine aT (x q o n g f) fun sl g1=>?_
 refine aT (y q _ n g1 f) fun sl' g2=>?_
 exact ⟨sl',g2⟩
theorem GQ.of {L:Addr}{a b:Heap}(x:a.UpToSlots b):GQ L a b:=fun q o _ g f=>x q o g f
theorem GQ.but {L:Addr}{a b:Heap}(x:Heap.SameBut L a b):GQ L a b:=fun q o n g _=>⟨o.slots,(x.2 q n).trans g⟩
theorem GQ.ns {L L':Addr}{a b:Heap}{m:Str→Option Value}(x:GQ L a b)(n:L'≠L)(hn:a.Ns L' m):b.Ns L' m:=by
 refine eP hn fun o es ep ho hd r=>?_
 obtain ⟨sl,g⟩:=x L' o n ho fun vs q=>by rw [hd] at q;cases q
 exact (jU _ es ep ⟨g,hd,r⟩)
theorem rK {h h' base:Heap}(k:∀b o,h.get? b=some o→(∀vs,o.data≠.fields vs)→∃o',h'.get? b=some o'∧∀vs,o'.data≠.fields vs):∀{l:List Env},h.FunFrames base l→h'.FunFrames base l
 |[],_=>trivial
 |env::l,hl=>by
  refine iJ fun gG gH=>?_;refine iK hl fun a amK r=>?_;obtain ⟨L,o,f1,f2,f3,f4⟩:=amK
  refine aD (k L o f3 f4) fun o' g1 g2=>?_
  refine gH ?_;exact ⟨a,(bW L o' ⟨f1,f2,g1,g2⟩),rK k r⟩
def RD (v:Value):Prop:=handedOut v=pure v
structure ac4 (base:Heap)(l:List Env)(C:Addr)(L:Addr)(k:Value)(e:Value)(h h':Heap):Prop where
 at':∃ea da mA,e=.ref ea∧GN base l ea (.ref C) (some da) .none h'∧h'.Ns da mA∧mA "kind"=some k∧da≠L
 up:GQ L h h'
 ns:∃m,h'.Ns L m
section
variable {prog:Program}{w:World}{A:Around}{E:Value→Shared→Prop}{s:Shared}{env:Env}{bs:Heap}{P:Heap→Heap→Value→Prop}{mg mb mN:Str→Option Value}{C N fI L fL:Addr}{outer:List Env}
theorem JK {m:Str→Option Value}{oL:Obj}{fd:FuncData}{Q:Flow→Shared→Prop}{p1 p2 p3 p4 p5 p6 p7 p8 p9:Pos}(CA:wB bs mg mb C N fI mN)(hnsg:bs.Ns mainGlobals mg)
  (hfr:A.frames=some (env::outer)) (hh:A.handled=none) (ek:env.scope.kind=.function) (g1:env.globals=mainGlobals) (l1:env.kindOf "work"=some .local) (l2:env.kindOf "refusal"=some .local) (l3:env.kindOf "CasFail"=some .globalImplicit)
  (eL:env.locals=L) (eF:env.frame=some L) (hns:s.heap.Ns L m) (hm:m "work"=some (.ref fL)) (hfL:s.heap.get? fL=some oL) (hfd:oL.data=.func fd)
  (hcall:wpAny (model prog w) A (call (.ref fL) []) (fun _ _=>False) (fun e s'=>∃base hm k,P base hm k∧RD k∧(∀a o,bs.get? a=some o→base.get? a=some o)∧ac4 base (env::outer) C L k e hm s'.heap∧∃h' tk,s'={s with heap:=h',toks:=tk}) s)
  (hq:∀base hm k h' tk,P base hm k→base.StaysIn h'→h'.FunFrames base outer→GQ L hm h'→Q (.ret k) {s with heap:=h',toks:=tk}):
  wpAny (model prog w) A (execs [.Try [.Return (some (.Call (.Name "work" p1) [] [] p2)) p3] [.ExceptHandler (some (.Name "CasFail" p4)) (some "refusal") [.Return (some (.Attribute (.Name "refusal" p5) "kind" p6)) p7] p8] [] [] p9] env) Q E s:=by
 refine wH CA.cls fun nm q bs' sn sub ab col dd c0 c1 c2 c3 c5 hC=>?_
 refine wpAny_execs_cons (wpAny_Try_except (wpAny_execs_cons (wpAny_Return_some (Call_Name0 (wpAny_Name (wpAny_loadName_local ek l1 (eL.symm▸hns) hm (Calls.callWith_function (PyProof.Rows.evalArgs_none ⟨⟨hfL,hfd⟩,?_⟩))) (by decide))))))
 refine wpAny_mono hcall (fun _ _ z=>z.elim) fun e s1 h1=>?_
 refine iJ fun gG gH=>?_;refine sL h1 fun base hm0 k hP hk hbb LA amE=>?_;obtain ⟨h1',tk1,rfl⟩:=amE
 refine sL LA.at' fun ea da mA amF F1 hda hkd hdL=>?_;subst amF
 refine aT LA.ns fun m1 hns1=>?_
 refine gH ?_;refine wA hfr eF F1 fun h2 F2 U2=>?_
 refine kK (s:={s with heap:=h2,toks:=tk1}) F2 fun h3 F3 U3=>?_
 have hns3:h3.Ns L m1:=U3.ns (U2.ns hns1)
 have hda3:h3.Ns da mA:=U3.ns (U2.ns hda)
 have U13:GQ L hm0 h3:=(LA.up.trans (.of U2)).trans (.of U3)
 have hmark:(A.mark (some (.ref ea))).frames=some (env::outer):=hfr
 refine wpAny_handleBy_cons (codeAny_handlers_test ?_) (by intro q;cases q)
 refine Calls.Name_function_global ek l3 (Calls.loadGlobal_global (s:={s with heap:=h3,toks:=tk1}) (g1.symm▸(hnsg.keeps hbb).keeps F3.stays) CA.there ?_)
 refine BD F3.tr fun oe vs T oT ts he hcls hdict hdat h11 hnT hTe hT hdT h33=>?_
 refine wpAny_excMatches_sub_self (F3.stays _ _ (hbb _ _ hC)) he hcls (by decide) (codeAny_handlers_suite_as ?_)
 refine kK (s:={s with heap:=h3,toks:=tk1}) F3 fun h4 F4 U4=>?_
 have hns4:h4.Ns L m1:=U4.ns hns3
 have hda4:h4.Ns da mA:=U4.ns hda3
 refine wpAny_storeName_local (s:={s with heap:=h4,toks:=tk1}) l2 (eL.symm▸hns4) (fun h5 hn5 hs5=>?_) (by refine (Eq.symm ek)▸?_;rfl)
 rw [eL] at hn5 hs5
 refine adY F4.tr fun oe4 vs4 T4 oT4 ts4 he4 hcls4 hdict4 hdat4 _=>?_
 have heL:ea≠L:=fun q=>by
  refine eP hns4 fun oL' es ep g gd _=>?_
  rw [←q,he4] at g;cases g;rw [hdat4] at gd;cases gd
 have hLb:base.get? L=none:=by
  refine iK F4.frames fun _ amG _=>?_;obtain ⟨L',o',f1,f2,_⟩:=amG
  rw [eF] at f1;cases f1;exact f2
 have st5:base.StaysIn h5:=fun b o g=>(hs5.2 b fun q=>by rw [q,hLb] at g;cases g).trans (F4.stays b o g)
 refine wpAny_execs_cons (wpAny_Return_some (Attribute_name (wpAny_Name (wpAny_loadName_local (s:={s with heap:=h5,toks:=tk1+1}) ek l2 (eL.symm▸hn5) (if_pos rfl:_=some (Value.ref ea)) ?_) (by decide))))
 refine JJ (st5 _ _ (hbb _ _ hC)) ((CA.ns.keeps hbb).keeps st5) (CA.no _ (by simp [nQ])) (CA.no _ (by simp [nQ])) (CA.no _ (by simp [nQ])) ((hs5.2 _ heL).trans he4) hcls4 hdict4 hdat4 (hda4.sameBut hs5 hdL) hkd hk ?_
 refine wpAny_nameGoes (s:={s with heap:=h5,toks:=tk1+1+1}) l2 (eL.symm▸hn5) (by refine (Eq.symm ek)▸?_;rfl) fun h6 m6 hn6 hs6=>?_
 rw [eL] at hs6
 refine hq base hm0 k h6 _ hP (fun b o g=>(hs6.2 b fun q=>by rw [q,hLb] at g;cases g).trans (st5 b o g)) ?_ (((U13.trans (.of U4)).trans (.but hs5)).trans (.but hs6))
 refine rK (fun b o g f=>?_) F4.frames.2.2
 by_cases q:b=L
 ·refine eP ((eL▸hn6:h6.Ns L m6)) fun o6 es ep g6 gd _=>?_
  exact ⟨o6,q▸g6,fun vs e=>by rw [gd] at e;cases e⟩
 ·exact ⟨o,(hs6.2 b q).trans ((hs5.2 b q).trans g),f⟩
end
noncomputable def T0:Tb:=⟨fun _=>False,fun _=>True,fun _ _ _ h=>h⟩
def GR (v:Value):Prop:=∃t,v=.str "domain" t
structure wC (base:Heap)(outer:List Env)(C:Addr)(e:Value)(s s':Shared):Prop where
 at':∃ea da mA,e=.ref ea∧GN base outer ea (.ref C) (some da) .none s'.heap∧s'.heap.Ns da mA∧(∃k,mA "kind"=some k∧GR k)∧s.heap.get? da=none
 up:s.heap.UpToSlots s'.heap
 same:Up s s'
def fX (K:Ct)(C:Addr)(f:Nat)(xs:List V):Prop:=∀fn fa,rS[f]? =some fn→K.cx.mg fn.name=some (.ref fa)→∀(s:Shared) (out:Addr→Prop) (args:List Value) (base:Heap) (outer:List Env),
 dX K s.heap out none→bP K.w.params (go s.heap out) args xs→K.A.frames=some outer→base.StaysIn s.heap→s.heap.FunFrames base outer→
 codeAny K.M K.A (.call (.ref fa) ⟨args,[]⟩) (fun r s'=>∃e,r=.error e∧wC base outer C e s s') s
inductive rQ (K:Ct)(ns:fJ)(Γ:eO):List S→List Stmt→Prop
 |nil:rQ K ns Γ [] []
 |cons {st p r t}:jB K ns Γ st p→rQ K ns Γ r t→rQ K ns Γ (st::r) (p::t)
section
variable {K:Ct}{ns:fJ}{Γ:eO}
theorem tZ {pre ppre}(h:rQ K ns Γ pre ppre){B:eA K ns Γ}{β:Type}{z:β}{r:List Stmt}{Q:Flow→Shared→Prop}{E:Value→Shared→Prop}{k:Fm→Option β}:∀{σ:Pt},gZ B.toBs σ→aW K.C Internal.glb pre β σ.ρ k (fun _ _=>none)=some z→
  (∀σ',jA B.toBs [] σ σ'→k σ'.ρ=some z→wpAny K.M K.A (execs r B.env) Q E σ'.s)→wpAny K.M K.A (execs (ppre++r) B.env) Q E σ.s:=by
 induction h with
 |nil=>exact fun {σ} S hev hn=>hn σ (.here S) hev
 | @cons st p t t' h1 _ ih=>exact fun {σ} S hev hn=>wpAny_execs_cons (h1 B σ β _ _ z _ E S hev (fun σ1 g1 k1=>ih g1.S k1 fun σ2 g2=>hn σ2 (g1.trans g2)) fun _ _ _ _ _ e=>nomatch e)
theorem rL {C:Addr}{base:Heap}{outer:List Env}{env:Env}{L:Addr}{e:Value}{s0 s1 s2:Shared}{R:Result→Shared→Prop}{M:Model}{A:Around}(hfr:A.frames=some outer)(hf:env.frame=some L)(k0:∀a o,s0.heap.get? a=some o→s1.heap.get? a=some o)(e0:Up s0 s1)
  (F:wC base (env::outer) C e s1 s2) (h:∀s',wC base outer C e s0 s'→R (.error e) s'):wpAny M (A.deeper env) (leaving env e) (fun _ s'=>R (.error e) s') (fun e' s'=>R (.error e') s') s2:=by
 refine sL F.at' fun ea da mA amH F1 n1 kd nd=>?_;subst amH
 refine DZ (A:=A.deeper env) (Around.frames_deeper hfr) hf F1 fun h' F2 U=>h _ ⟨(jU ea da mA ⟨rfl,F2,U.ns n1,kd,?_⟩),((Heap.UpToSlots.of_keeps k0).trans F.up).trans U,(e0.trans F.same).trans (show Up s2 {s2 with heap:=h'} from rfl)⟩
 cases q:s0.heap.get? da with
 |none=>rfl
 |some o=>rw [k0 _ _ q] at nd;cases nd
theorem wD {base:Heap}{outer:List Env}{env:Env}{L:Addr}{h0 h1:Heap}{m:Str→Option Value}(hf:env.frame=some L)(hk:env.scope.kind=.function)(hL:h0.get? L=none)(st:base.StaysIn h0)(fr:h0.FunFrames base outer)(k:∀a o,h0.get? a=some o→h1.get? a=some o)(hn:h1.Ns L m):
  h1.FunFrames base (env::outer):=by
 refine ⟨by refine (Eq.symm hk)▸?_;decide,⟨L,?_⟩,fr.of_keeps fun b o g _=>⟨o,k b o g,rfl⟩⟩
 refine eP hn fun o es ep g gd _=>?_
 refine ⟨o,hf,?_,g,fun vs q=>by rw [gd] at q;cases q⟩
 cases q:base.get? L with
 |none=>rfl
 |some o'=>rw [st _ _ q] at hL;cases hL
theorem kH.old {fn:Fn}{scope:Scope}{K':Ct}{B:eA K' scope.names (fn.vars.map some)}{σ σ':Pt}{s:Shared}{out:Addr→Prop}{slots:List aF}{env:Env}(EN:kH B σ s fn out none slots env)(hN:K'.N=s.heap.objs.size)(hT:K'.T=T0)(G:jA B.toBs [] σ σ'):lJ s.heap σ'.s.heap:=fun a o g=>
 G.w.k a o (EN.keep a o g) (by show ¬K'.T.tb a;refine (Eq.symm hT)▸?_;exact id) (fun ⟨p,hp,e⟩=>absurd (Heap.lt_size g) (Nat.not_lt.mpr (e▸hN▸(B.pl p hp).1))) fun m=>by
  rw [EN.own] at m
  exact (List.mem_cons.mp m).elim (fun e=>nomatch e) fun m=>(nomatch (List.mem_replicate.mp m).2)
theorem kH.tab {fn:Fn}{scope:Scope}{K':Ct}{B:eA K' scope.names (fn.vars.map some)}{σ σ':Pt}{s:Shared}{out:Addr→Prop}{io:Option Addr}{slots:List aF}{env:Env}(EN:kH B σ s fn out io slots env)(hl:∃x∈fn.vars,scope.names.lookup x=some .local)(S:gZ B.toBs σ'):∃m,σ'.s.heap.Ns s.heap.objs.size m:=by
 refine aD hl fun x hx hl=>?_
 exact S.plLive (p:=.loc s.heap.objs.size x) (by refine (Eq.symm EN.pls)▸?_;refine (show pU scope s.heap.objs.size x=.loc s.heap.objs.size x from if_pos hl)▸?_;exact List.mem_map_of_mem hx)
end
structure YZ (w:World)(cx:Cx w)(C:Addr):Prop where
 at':∃N fI mN,wB cx.bs cx.mg cx.mb C N fI mN
def GS (rb:List Stmt):Prop:=∃n1 k1 q1 x k2 q2 c p,rb=[.Raise (some (.Call (.Name "CasFail" n1) [.Constant (.str "domain") k1 q1,.Constant (.str x) k2 q2] [] c)) none p]∧x.length≤1000
structure yH (fn:Fn)(body:List Stmt)(scope:Scope)(pre:List S)(t:E):Prop where
 hb:∃ppre pt rb ip prest,body=ppre++.If pt rb [] ip::prest∧GS rb∧∀(K:Ct),cS K→K.io=none→rQ K scope.names (fn.vars.map some) pre ppre∧kM K scope.names (fn.vars.map some) t pt
 cas:scope.names.lookup ("CasFail":Str)=some .globalImplicit
 loc:∃x∈fn.vars,scope.names.lookup x=some .local
theorem AQ {K:Ct}{C:Addr}(CA:YZ K.w K.cx C)(hT:K.T=T0)(FN:lF K.cx){d:Nat}(RM:fH K.A (d+2)){f:Nat}{fn:Fn}(hf:rS[f]? =some fn){params:Arguments}{body:List Stmt}{scope:Scope}{fa:Addr}(FA:mC K.cx.bs K.cx.mg fn.name params body scope fa)(OK:uQ fn params body scope)
  {pre:List S} {t:E} (RA:yH fn body scope pre t) {xs:List V} (hlen:xs.length=fn.arity)
  (ev:aW (aX d) glb pre Bool (xs.map .v++List.replicate (fn.vars.length - fn.arity) .un) (fun ρ=>kE (aX d) glb t Bool ρ fun v _=>fD v some) (fun _ _=>none)=some true):fX K C f xs:=by
 intro fn' fa' hf' hm' s out args base outer SK AR hfr st fr
 rw [hf] at hf';cases hf'
 have e:=FA.there
 rw [hm'] at e;cases e
 refine iJ fun gG gH=>?_;refine nK CA.at' fun N fI mN CA=>?_
 refine adW RA.hb fun ppre pt rb ip prest amI amJ hsim=>?_;subst amI;obtain ⟨n1,k1,q1,x,k2,q2,c,p,rfl,hx⟩:=amJ
 refine gH ?_;refine jQ (io:=none) (slots:=xs.map .v) RM.dl FA OK (by rw [List.length_map];exact hlen) SK ⟨xs,rfl,AR⟩ (aX d) (fun env=>⟨RM.handled,(RM.deeper env).hu⟩) fun cd _ B σ EN=>?_
 have RI:=RM.deeper (envOfC fn.name scope s.heap.objs.size fa cd)
 refine aG (hsim (K.at (K.A.deeper (envOfC fn.name scope s.heap.objs.size fa cd)) RM.handled RI.hu (aX d) s.heap.objs.size none) (yF d FN RI rfl) rfl) fun hA ht=>?_
 refine tZ hA EN.S (by rw [EN.ρ];exact ev) fun σ1 G1 k1=>?_
 refine wpAny_execs_cons (wpAny_If (ht B σ1 Bool _ true _ _ (pP (f:=fun b _=>some b)) G1.S k1 fun σ2 b g2 k2=>?_))
 cases (Option.some.inj k2:b=true)
 have G2:=G1.trans g2.os
 have k02:=EN.old rfl hT G2
 have eenv:=EN.env
 refine wpAny_execs_cons (JI (s:=σ2.s) CA K.cx.nsg K.cx.nsb K.cx.nolim (fun a o g=>(G2.S.base g).1) RI.handled (Nat.lt_of_le_of_lt (Nat.le_trans (Nat.add_le_add_left (Nat.le_add_left 2 _) _) RM.depth) (by decide)) B.ok.kind B.ok.gl (by refine (Eq.symm eenv)▸?_;exact RA.cas) (by decide) hx fun h4 tk4 e da t1 t2 CO=>?_)
 refine mF CO.obj fun oe vs o1 o2 o3 o4 o5=>?_
 refine aT (EN.tab RA.loc G2.S) fun m3 hn3=>?_
 have k04:∀a o,s.heap.get? a=some o→h4.get? a=some o:=fun a o g=>CO.keep _ _ (k02 a o g)
 have hkk:(envOfC fn.name scope s.heap.objs.size fa cd).scope.kind=.function:=by refine eenv▸?_;exact B.ok.kind
 refine (Eq.symm eenv)▸?_
 refine AO (base:=base) (s:={σ2.s with heap:=h4,toks:=tk4}) (Around.frames_deeper hfr) (wD rfl hkk (Heap.get?_none_of_le (Nat.le_refl _)) st fr k04 (hn3.keeps CO.keep)) rfl o1 (fun a o g=>k04 a o (st a o g)) ?_ o4 o5 fun h5 F5 U5=>?_
 ·cases q:base.get? e with
  |none=>rfl
  |some o=>have:=k02 _ _ (st _ _ q);rw [CO.new] at this;cases this
 ·refine aD CO.dict fun mA d1 d2=>?_
  refine ⟨_,rfl,(jU e da mA ⟨rfl,by rw [o2,o3] at F5;exact F5,U5.ns d1,⟨_,d2,t1,rfl⟩,?_⟩),(Heap.UpToSlots.of_keeps k04).trans U5,(EN.up.trans G2.u).trans (show Up σ2.s {σ2.s with heap:=h5,toks:=tk4} from rfl)⟩
  cases q:s.heap.get? da with
  |none=>rfl
  |some o=>have:=k02 _ _ q;rw [CO.newD] at this;cases this
structure ZA (fn fng fnl:Fn)(body:List Stmt)(scope:Scope):Prop where
 hb:∃y n0 n1 n2 p1 p2 p3 p4 p5 p6 p7 p8 p9 z prest,body=.Assign [.Name y p1] (.Call (.Name fng.name p2) [.Name n0 p3,.Name n1 p4,.Call (.Name fnl.name p5) [.Name n2 p6] [] p7,z] [] p8) p9::prest∧fn.vars[0]? =some n0∧fn.vars[1]? =some n1∧fn.vars[2]? =some n2
 ig:jX scope.names fng.name=true
 il:jX scope.names fnl.name=true
 loc:∃x∈fn.vars,scope.names.lookup x=some .local
theorem RE {K:Ct}{ns:fJ}{Γ:eO}{B:eA K ns Γ}{fng fnl:Fn}{σ:Pt}{y n0 n1 n2:Str}{p1 p2 p3 p4 p5 p6 p7 p8 p9:Pos}{z:Expr}(ig:jX ns fng.name=true)(il:jX ns fnl.name=true)(v0:Γ[0]? =some (some n0))(v1:Γ[1]? =some (some n1))(v2:Γ[2]? =some (some n2))(S:gZ B.toBs σ){x0 x1 x2:V}{xr:Fm}(hρ:σ.ρ=.v x0::.v x1::.v x2::xr)
  {fg fl:Nat} (hg:rS[fg]? =some fng) (hl:rS[fl]? =some fnl) {Q:Flow→Shared→Prop} {E:Value→Shared→Prop} {F:Value→Pt→Shared→Prop} (hE:∀e σ' s',F e σ' s'→E e s')
  (h:∀fla σ' w,K.cx.mg fnl.name=some (.ref fla)→eC B.toBs true σ σ'→Vl B.toBs σ' w x2→codeAny K.M K.A (.call (.ref fla) ⟨[w],[]⟩) (fun r s'=>∃e,r=.error e∧F e σ' s') σ'.s):
  wpAny K.M K.A (exec (.Assign [.Name y p1] (.Call (.Name fng.name p2) [.Name n0 p3,.Name n1 p4,.Call (.Name fnl.name p5) [.Name n2 p6] [] p7,z] [] p8) p9) B.env) Q E σ.s:=by
 refine iJ fun gG gH=>?_;obtain ⟨fga,og,fdg,hmg,hbg,hdg⟩:=K.cx.fns fg fng hg
 obtain ⟨fla,ol,fdl,hml,hbl,hdl⟩:=K.cx.fns fl fnl hl
 obtain ⟨ig1,ig2⟩:=eT ig
 obtain ⟨il1,il2⟩:=eT il
 refine gH ?_;rw [exec_Assign_Name _ _ _ _ _ (gW rfl)]
 refine wpAny_bind (wpAny_standAt (wpAny_bind (Call_Name rfl (eM K.cx B.ok (B.glb _ ig1) (B.nsg S) hmg ?_ ig2))))
 refine Calls.callWith_function (o:=og) (fd:=fdg) (Calls.evalArgs_plain (Calls.spliced_cons (rT v0 B σ V (fun v _=>some v) x0 _ _ S (by rw [hρ];rfl) fun σ1 w1 u1 g1 r1 _=>Calls.spliced_cons ?_)))
 refine rT v1 B σ1 V (fun v _=>some v) x1 _ _ g1.S (by rw [g1.p rfl,hρ];rfl) fun σ2 w2 u2 g2 r2 _=>Calls.spliced_cons ?_
 have g02:=g1.trans g2
 refine Call_Name rfl (eM K.cx B.ok (B.glb _ il1) (B.nsg g2.S) hml ?_ il2)
 refine Calls.callWith_function (o:=ol) (fd:=fdl) (Calls.evalArgs_plain (Calls.spliced_cons (rT v2 B σ2 V (fun v _=>some v) x2 _ _ g2.S (by rw [g02.p rfl,hρ];rfl) fun σ3 w3 u3 g3 r3 k3=>Calls.spliced_nil ⟨⟨(g3.S.base hbl).1,hdl⟩,wpAny_call ?_⟩)))
 refine codeAny_mono (h fla σ3 w3 hml (g02.trans g3) ((Option.some.inj k3:u3=x2)▸r3)) fun r s' hr=>?_
 obtain ⟨e,rfl,q⟩:=hr
 exact hE e σ3 s' q
theorem JL {K:Ct}{C:Addr}(hT:K.T=T0){d:Nat}(RM:fH K.A (d+2)){f:Nat}{fn:Fn}(hf:rS[f]? =some fn){params:Arguments}{body:List Stmt}{scope:Scope}{fa:Addr}(FA:mC K.cx.bs K.cx.mg fn.name params body scope fa)(OK:uQ fn params body scope)
  {fg fl:Nat} {fng fnl:Fn} (hg:rS[fg]? =some fng) (hl:rS[fl]? =some fnl) (AA:ZA fn fng fnl body scope) {x0 x1 x2:V} {xr:List V} (hlen:(x0::x1::x2::xr).length=fn.arity)
  (hraise:∀env hh hu N,fX (K.at (K.A.deeper env) hh hu (aX d) N none) C fl [x2]):fX K C f (x0::x1::x2::xr):=by
 refine iJ fun gG gH=>?_;obtain ⟨y,n0,n1,n2,p1,p2,p3,p4,p5,p6,p7,p8,p9,z,prest,rfl,v0,v1,v2⟩:=AA.hb
 refine gH ?_;intro fn' fa' hf' hm' s out args base outer SK AR hfr st fr
 cases hf.symm.trans hf'
 cases FA.there.symm.trans hm'
 have hΓ:∀{i:Nat} {n:Str},fn.vars[i]? =some n→(fn.vars.map some)[i]? =some (some n):=fun e=>by refine (Eq.symm List.getElem?_map)▸?_;refine (Eq.symm e)▸?_;rfl
 refine jQ (io:=none) (slots:=(x0::x1::x2::xr).map .v) RM.dl FA OK (by rw [List.length_map];exact hlen) SK ⟨_,rfl,AR⟩ (aX d) (fun env=>⟨RM.handled,(RM.deeper env).hu⟩) fun cd _ B σ EN=>?_
 have eenv:=EN.env
 have k0:=fun σ' (G:eC B.toBs true σ σ')=>EN.old rfl hT G.os
 refine wpAny_execs_cons (RE (F:=fun e σ' s'=>eC B.toBs true σ σ'∧wC base (envOfC fn.name scope s.heap.objs.size fa cd::outer) C e σ'.s s') AA.ig AA.il (hΓ v0) (hΓ v1) (hΓ v2) EN.S EN.ρ hg hl (fun e σ' s' q=>?_) fun fla σ' w hm G r=>?_)
 ·refine (Eq.symm eenv)▸?_
  exact rL (R:=fun r s'=>∃e,r=.error e∧wC base outer C e s s') (s0:=s) (s1:=σ'.s) hfr rfl (k0 σ' q.1) (EN.up.trans q.1.os.u) q.2 fun s' F'=>⟨_,rfl,F'⟩
 ·refine aT (EN.tab AA.loc G.S) fun m3 hn3=>?_
  refine codeAny_mono (hraise _ _ _ _ fnl fla hl hm σ'.s (Xs B.toBs σ'.own) [w] base (envOfC fn.name scope s.heap.objs.size fa cd::outer) (tD G.S nofun) (bP.cons r bP.nil) (Around.frames_deeper hfr) (fun a o g=>k0 σ' G a o (st a o g)) (wD rfl (by refine eenv▸?_;exact B.ok.kind) (Heap.get?_none_of_le (Nat.le_refl _)) st fr (k0 σ' G) hn3)) fun r s' ⟨e,he,F⟩=>⟨e,he,G,F⟩
def AS (g:Gh)(P:Addr)(pos:Pos)(qual:Str):Prop:=∃ps,g P (tabObj ps)∧(ps= #[]∨∃c' oc vs t,ps= #[rawInt pos.line,rawInt pos.col,.ref c']∧g c' oc∧oc.data=.fields vs∧vs[1]? =some (.str qual t))
structure iO where
 P:Addr
 pos:Pos
 qual:Str
noncomputable def rR (ts:List iO):Tb:=⟨fun a=>∃t∈ts,t.P=a,fun g=>∀t∈ts,AS g t.P t.pos t.qual,fun g g' h i t ht=>
 aD (i t ht) fun ps h1 h2=>
 ⟨ps,h _ _ h1,h2.imp id fun ⟨c',oc,vs,u,e,k,r⟩=>⟨c',oc,vs,u,e,h _ _ k,r⟩⟩⟩
section
variable {K:Ct}{ns:fJ}{Γ:eO}{B:eA K ns Γ}{Q:Value→Shared→Prop}{E:Value→Shared→Prop}
theorem RF {ts:List iO}(hT:K.T=rR ts){t:iO}(ht:t∈ts)(hts:∀u∈ts,u.P=t.P→u=t){c:Addr}(hc:B.env.code=.ref c)(CH:CodeHd K.cx.bs c t.P)(hgP:mainGlobals≠t.P)(hB:K.cx.bs.BuiltinsAt K.cx.mg t.P)
  {body:Expr} {scope:Scope} (hq:t.qual=B.env.qual++"<lambda>") (F:cN ns Γ scope []) {σ:Pt} (S:gZ B.toBs σ)
  (h:∀f o cl cv ctv h' tk,(∀x,(x,NameKind.free)∈scope.names→cl.lookup x=B.env.cells.lookup x)→h'.get? f=some o→o={cls:=.type "function",data:=.func (kla_fn "<lambda>" t.qual ⟨[],[],none,[],[],none,[]⟩ body scope cl ((K.cx.mg "__name__").getD .none) cv ctv)}→h'.CodeRec cv t.qual→
   gZ B.toBs (σ.to h' tk)→¬Xs B.toBs σ.own f→σ.s.heap.get? f=none→(∀a o,σ.s.heap.get? a=some o→a≠t.P→h'.get? a=some o)→Q (.ref f) (σ.to h' tk).s):
  wpAny K.M K.A (eval (.Lambda ⟨[],[],none,[],[],none,[]⟩ body scope t.pos) B.env) Q E σ.s:=by
 refine aD (nN (scope:=scope) (env:=B.env) fun x hx=>B.cellAt (F.free x hx).1 (F.free x hx).2) fun cl hcl hcl2=>?_
 have hti:(rR ts).inv (gt B.toBs σ.own σ.s.heap):=by have:=S.ti;rw [show K.kx.T=rR ts from hT] at this;exact this
 refine aD (hti t ht) fun ps hP hps=>?_
 have tbP:K.T.tb t.P:=by refine (Eq.symm hT)▸?_;exact ⟨t,ht,rfl⟩
 have base:∀a o,K.cx.bs.get? a=some o→σ.s.heap.get? a=some o:=fun a o e=>(S.base e).1
 have hns:σ.s.heap.Ns mainGlobals K.cx.mg:=K.cx.nsg.keeps base
 have hbA:σ.s.heap.BuiltinsAt K.cx.mg t.P:=by
  refine JX hB fun bm ob b1 b2 b3 b4 b5 b6=>?_
  exact (bW bm ob ⟨b1,b2,b3,b4,base _ _ b5,b6⟩)
 have CH':=CH.keeps base
 have ge:B.env.globals=mainGlobals:=B.ok.gl
 refine kla_eval (by rfl) ?_
 refine hq▸?_
 have grow:∀h',(∀a o,σ.s.heap.get? a=some o→a≠t.P→h'.get? a=some o)→AS (gt B.toBs σ.own h') t.P t.pos t.qual→gZ B.toBs (σ.to h' σ.s.toks):=by
  intro h' hk ht'
  refine S.chg (D:=fun b=>b=t.P) hk (fun b e=>e▸⟨(B.tbN _ tbP).2.1,(B.tbN _ tbP).2.2,.inl (B.tbN _ tbP).1⟩) ?_
  have:∀u∈ts,AS (gt B.toBs σ.own h') u.P u.pos u.qual:=by
   intro u hu
   by_cases e:u.P=t.P
   ·refine (Eq.symm (hts u hu e))▸?_;exact ht'
   ·refine aD (hti u hu) fun qs h1 h2=>?_
    have cr:∀a o,a≠t.P→gt B.toBs σ.own σ.s.heap a o→gt B.toBs σ.own h' a o:=fun a o n g=>⟨hk a o g.1 n,g.2⟩
    refine ⟨qs,cr _ _ e h1,h2.imp id ?_⟩
    rintro ⟨c',oc,vs,v,e1,k,r1,r2⟩
    refine (EG c' oc vs v ⟨e1,cr _ _ (fun q=>?_) k,r1,r2⟩)
    rw [q] at k
    have:=hP.1.symm.trans k.1
    cases this
    cases r1
    rcases hps with rfl|⟨_,_,_,_,rfl,_⟩<;>cases r2
  refine (Eq.symm (show K.kx.T=rR ts from hT))▸?_
  exact this
 rcases hps with rfl|⟨c',oc,vs,u,rfl,hoc,hod,hvs⟩
 ·refine kla_makeFunction (mg:=K.cx.mg) hcl ge hns hc CH' hP.1 trivial rfl hgP hbA fun c' ctv h' tk hx hge hlt hrec htab=>?_
  have hk:∀a o,σ.s.heap.get? a=some o→a≠t.P→(h'.push (kla_obj "<lambda>" t.qual ⟨[],[],none,[],[],none,[]⟩ body scope cl ((K.cx.mg "__name__").getD .none) c' ctv)).get? a=some o:=fun a o g n=>Heap.get?_push_of_some _ (hx a o n g)
  refine uS hrec fun c2 oc vs v e2 hoc hod hvs=>?_
  cases e2
  refine h _ _ cl (.ref c') ctv _ tk hcl2 (Heap.get?_push_size _ rfl) rfl (EG c' oc vs v ⟨rfl,Heap.get?_push_of_some _ hoc,hod,hvs⟩) (grow _ hk ⟨_,⟨Heap.get?_push_of_some _ htab,.inl tbP⟩,.inr (EG c' oc vs v ⟨rfl,⟨Heap.get?_push_of_some _ hoc,.inr (S.fresh (.le hge)).1⟩,hod,hvs⟩)⟩) (S.fresh (.le (Nat.le_trans hge (Nat.le_of_lt hlt)))).1 (Heap.get?_none_of_le (Nat.le_trans hge (Nat.le_of_lt hlt))) hk
 ·refine kla_makeFunctionHit (mg:=K.cx.mg) hcl ge hns hc CH' hP.1 trivial (cv:=.ref c') (by
   show (if ((t.pos.line:Int)==t.pos.line && (t.pos.col:Int)==t.pos.col)=true then some (Value.ref c') else _)=_
   rw [if_pos (by simp)]) hbA fun ctv h' tk hk0 hsz=>?_
  have hk:∀a o,σ.s.heap.get? a=some o→a≠t.P→(h'.push {cls:=.type "function",data:=.func (kla_fn "<lambda>" t.qual ⟨[],[],none,[],[],none,[]⟩ body scope cl ((K.cx.mg "__name__").getD .none) (.ref c') ctv)}).get? a=some o:=fun a o g _=>Heap.get?_push_of_some _ (hk0 a o g)
  exact h _ _ cl (.ref c') ctv _ tk hcl2 (Heap.get?_push_size _ rfl) rfl (EG c' oc vs u ⟨rfl,Heap.get?_push_of_some _ (hk0 _ _ hoc.1),hod,hvs⟩) (grow _ hk ⟨_,⟨Heap.get?_push_of_some _ (hk0 _ _ hP.1),.inl tbP⟩,.inr (EG c' oc vs u ⟨rfl,⟨Heap.get?_push_of_some _ (hk0 _ _ hoc.1),hoc.2⟩,hod,hvs⟩)⟩) (S.fresh (.le hsz)).1 (Heap.get?_none_of_le hsz) hk
end
section
variable {K:Ct}{ns:fJ}{Γ:eO}{B:eA K ns Γ}{scope:Scope}{cl:List (Str×Addr)}
theorem RG {qual:Str}{L f:Addr}{cv:Value}(F:cN ns Γ scope [])(hcl:∀x,(x,NameKind.free)∈scope.names→cl.lookup x=B.env.cells.lookup x):iS (envX qual scope L f cv cl) (dV Γ scope []) B.pls where
 kind:=F.kind
 gl:=rfl
 bl:=rfl
 names:=fun i x h=>by
  rcases lR h with ⟨hi,h1,hf⟩|⟨_,h1⟩
  ·have hm:=mem_of_lookup hf
   rcases B.ok.names i _ h1 with ⟨hk,_⟩|⟨_,c,hc,hp⟩
   ·rw [B.cel _ (F.free _ hm).1] at hk;cases hk
   ·exact .inr ⟨.inr hf,c,(hcl _ hm).trans hc,hp⟩
  ·cases h1
 dbg:=fun i x h=>(lR h).elim (fun q=>B.ok.dbg i _ q.2.1) fun q=>(nomatch q.2)
 len:=by unfold dV;rw [List.length_append,List.length_map,B.ok.len];rfl
noncomputable abbrev Ct.t0 (K:Ct):Ct:={K with T:=T0}
theorem ac5 {σ:Pt}(S:gZ B.toBs σ):dX K.t0 σ.s.heap (Xs B.toBs σ.own) none:=
 have P:=tD S (io:=none) nofun
 ⟨P.base,P.live,fun a x=>x.elim,trivial,P.sys,nofun⟩
def ED (h:Heap)(l:List Env):Prop:=∀env∈l,env.scope.kind≠.module∧∃L m,env.frame=some L∧h.Ns L m
theorem ED.funs {h:Heap}{as:List Addr}{l:List Env}:ED h l→(∀env∈l,∀a,env.frame=some a→a∈as)→h.FunFrames (hideAll h as) l:=by
 induction l with
 |nil=>exact fun _ _=>trivial
 |cons env l ih=>
  intro k m
  refine iJ fun gG gH=>?_;obtain ⟨k1,L,_,f,o,es,ep,g,gd,_⟩:=k env (.head _)
  refine gH ?_;exact ⟨k1,(bW L o ⟨f,hideAll_none _ (m env (.head _) L f),g,fun vs q=>by rw [gd] at q;cases q⟩),ih (fun e h=>k e (.tail _ h)) fun e h=>m e (.tail _ h)⟩
theorem EE {C:Addr}(FN:lF K.cx){d:Nat}{A:Around}(RM:fH A (d+2)){f:Addr}{qual:Str}{cv ctv pm:Value}{p1 p2:Pos}{vs:List Expr}{fi:Nat}{fn:Fn}{σ:Pt}
  (ho:σ.s.heap.get? f=some {cls:=.type "function",data:=.func (kla_fn "<lambda>" qual ⟨[],[],none,[],[],none,[]⟩ (.Call (.Name fn.name p1) vs [] p2) scope cl pm cv ctv)}) (hrec:σ.s.heap.CodeRec cv qual) (hco:scope.isCoroutine=false) (hgen:scope.isGenerator=false)
  (F:cN ns Γ scope []) (hcl:∀x,(x,NameKind.free)∈scope.names→cl.lookup x=B.env.cells.lookup x) (hf:rS[fi]? =some fn) (isg:jX scope.names fn.name=true) {e1:Internal.E} {er:List Internal.E} (hes:∀K':Ct,cS K'→K'.io=K.io→qP K' scope.names (dV Γ scope []) (e1::er) vs)
  (S:gZ B.toBs σ) {xs:List V} {ρ':Fm} (hev:cL (aX d) Internal.glb (e1::er) _ σ.ρ (fun l ρ=>some (l,ρ))=some (xs,ρ'))
  (hraise:∀env hh hu,fX (K.at (A.deeper env) hh hu (aX d) K.N K.io).t0 C fi xs) {outer:List Env} (hfr:A.frames=some outer) {as:List Addr} (has:∀env∈outer,∀a,env.frame=some a→a∈as) (hff:∀σ',eC B.toBs false σ σ'→ED σ'.s.heap outer)
  {R:Result→Shared→Prop} (h:∀e s' σ',eC B.toBs false σ σ'→σ'.ρ=ρ'→(∃m,σ'.s.heap.Ns σ.s.heap.objs.size m)→wC (hideAll σ'.s.heap (σ.s.heap.objs.size::as)) outer C e σ'.s s'→R (.error e) s'):codeAny K.M A (.call (.ref f) ⟨[],[]⟩) R σ.s:=by
 refine kla_callFunE RM.dl ho rfl hco hgen rfl hrec ?_
 have base:∀a o,K.cx.bs.get? a=some o→σ.s.heap.get? a=some o:=fun a o e=>(S.base e).1
 have hb:bindArgs (kla_fn "<lambda>" qual ⟨[],[],none,[],[],none,[]⟩ (.Call (.Name fn.name p1) vs [] p2) scope cl pm cv ctv) ⟨[],[]⟩=pure []:=rfl
 refine (Eq.symm hb)▸?_
 refine wpAny_pure (wpAny_newFunctionEnv F.ncell (fun _ hx=>absurd hx List.not_mem_nil) (fun h₁ hns hsb=>⟨((K.cx.nolim).keeps base).fresh _ hsb,?_⟩) F.kind)
 have hk₁:∀b o,σ.s.heap.get? b=some o→h₁.get? b=some o:=fun b o e=>hsb.extBut b o (Nat.ne_of_lt (Heap.lt_size e)) (Heap.get?_push_of_some _ e)
 refine kla_codeExpr ?_
 have RI:=RM.deeper (envX qual scope σ.s.heap.objs.size f cv cl)
 let K2:=K.at (A.deeper (envX qual scope σ.s.heap.objs.size f cv cl)) RI.handled RI.hu (aX d) K.N K.io
 have hC2:cS K2:=yF d (K:=K2) FN RI rfl
 let BL:eA K2 scope.names (dV Γ scope []):=⟨B.toBs,envX qual scope σ.s.heap.objs.size f cv cl,RG F hcl,fun _ h=>h,fun x h=>absurd rfl (F.ncell _ (mem_of_lookup h))⟩
 have hX:=hes K2 hC2 rfl
 refine iJ fun gG gH=>?_;refine eP (K.cx.fns fi fn hf) fun fga og fdg hmg hbg hdg=>?_
 refine aG (eT isg) fun isg1 isg2=>?_
 have g0:eC B.toBs true σ (σ.to h₁ _):=.new S (σ.s.toks+([]:List (Str×Value)).length) hk₁
 refine dI (hX.hd e1 er rfl) fun p t amL he=>?_;subst amL
 refine gH ?_;show wpAny K2.M K2.A (eval (.Call (.Name fn.name p1) (p::t) [] p2) BL.env) _ _ (σ.to h₁ _).s
 refine Call_Name rfl (eM K2.cx BL.ok (BL.glb _ isg1) (BL.nsg g0.S) hmg ?_ isg2)
 refine Calls.callWith_function (o:=og) (fd:=fdg) (rE (he.plain (show kE K2.C Internal.glb e1 _ _ _=some (xs,ρ') from hev)) (hX.all BL (σ.to h₁ _) _ _ _ _ _ p2 g0.S hev fun σ4 vs4 xs4 g4 r4 _ k4=>⟨⟨(g4.S.base hbg).1,hdg⟩,wpAny_call ?_⟩))
 refine aG (Prod.mk.inj (Option.some.inj k4)) fun e5 e6=>?_
 subst e5
 have G4:eC B.toBs false σ σ4:=g0.any.trans (g4.any)|>.any
 have nL:∃m,σ4.s.heap.Ns σ.s.heap.objs.size m:=by
  refine mG hns fun oL es ep gL r=>?_
  exact (jU _ oL es ⟨ep,(g4.g _ _ ⟨gL,(S.fresh aY).1⟩).1,r⟩)
 have fL:σ4.s.heap.FunFrames (hideAll σ4.s.heap (σ.s.heap.objs.size::as)) (BL.env::outer):=by
  refine ED.funs (fun e he=>?_) fun e he a ha=>?_
  ·rcases List.mem_cons.mp he with rfl|he
   ·exact ⟨by show scope.kind≠_;refine (Eq.symm F.kind)▸?_;decide,_,nL.choose,rfl,nL.choose_spec⟩
   ·exact hff σ4 G4 e he
  ·rcases List.mem_cons.mp he with rfl|he
   ·cases ha;exact .head _
   ·exact .tail _ (has e he a ha)
 refine codeAny_mono (hraise BL.env RI.handled RI.hu fn fga hf hmg σ4.s (Xs B.toBs σ4.own) vs4 (hideAll σ4.s.heap (σ.s.heap.objs.size::as)) (BL.env::outer) (ac5 (K:=K2) (B:=BL) g4.S) r4 (Around.frames_deeper hfr) (fun a o g=>of_hideAll _ g) fL) fun r s' hr=>?_
 refine aD hr fun ee amM FL=>?_;subst amM
 exact rL (R:=R) (s0:=σ4.s) (s1:=σ4.s) hfr rfl (fun _ _ g=>g) rfl FL fun s' F'=>h ee s' σ4 G4 e6 nL F'
end
theorem yI {k:Value}(h:GR k):RD k:=by
 obtain ⟨t,rfl⟩:=h;rfl
structure GT (K:Ct)(t:iO)(qual:Str)(c:Addr):Prop where
 hd:CodeHd K.cx.bs c t.P
 ne:mainGlobals≠t.P
 bi:K.cx.bs.BuiltinsAt K.cx.mg t.P
 qual:t.qual=qual++"<lambda>"
structure yJ {w:World}(cx:Cx w)(params:Arguments)(body:List Stmt)(scope:Scope)(fa:Addr):Prop where
 fn:mC cx.bs cx.mg "_law_told" params body scope fa
 bind:∀(v:Value) pm cd doc,bindArgs (Calls.docDef "_law_told" params body scope pm cd doc) ⟨[v],[]⟩=pure ((["work"]:List Str).zip [v])
 l1:scope.names.lookup ("work":Str)=some .local
 l2:scope.names.lookup ("refusal":Str)=some .local
 l3:scope.names.lookup ("CasFail":Str)=some .globalImplicit
 body:∃p1 p2 p3 p4 p5 p6 p7 p8 p9,body=[.Try [.Return (some (.Call (.Name "work" p1) [] [] p2)) p3] [.ExceptHandler (some (.Name "CasFail" p4)) (some "refusal") [.Return (some (.Attribute (.Name "refusal" p5) "kind" p6)) p7] p8] [] [] p9]
section
variable {K:Ct}{ns:fJ}{Γ:eO}{B:eA K ns Γ}{Q:Value→Shared→Prop}{E:Value→Shared→Prop}
structure GU (B:eA K ns Γ)(σ:Pt)(P:Addr)(ρ':Fm)(as:List Addr)(k:Value)(σ4:Pt)(h':Heap)(L1 L2:Addr):Prop where
 dom:GR k
 G:eC B.toBs false σ σ4
 ρ:σ4.ρ=ρ'
 n1:∃m,σ4.s.heap.Ns L1 m
 n2:∃m,σ4.s.heap.Ns L2 m
 fr:∀a o,σ.s.heap.get? a=some o→a≠P→a≠L1∧a≠L2
 st:(hideAll σ4.s.heap (L2::L1::as)).StaysIn h'
 u:GQ L1 σ4.s.heap h'
theorem JM {C:Addr}{ts:List iO}(hT:K.T=rR ts)(FN:lF K.cx){d:Nat}(RM:fH K.A (d+3))(CA:YZ K.w K.cx C){t:iO}(ht:t∈ts)(hts:∀u∈ts,u.P=t.P→u=t){c:Addr}(hc:B.env.code=.ref c)(LH:GT K t B.env.qual c)
  {pT:Arguments} {bT:List Stmt} {sT:Scope} {fT:Addr} (TD:yJ K.cx pT bT sT fT) (isT:jX ns "_law_told"=true) {scope:Scope} (hco:scope.isCoroutine=false) (hgen:scope.isGenerator=false) (F:cN ns Γ scope [])
  {p1 p2 p3 pos:Pos} {vs:List Expr} {fi:Nat} {fn:Fn} (hf:rS[fi]? =some fn) (isg:jX scope.names fn.name=true) {e1:Internal.E} {er:List Internal.E} (hes:∀K':Ct,cS K'→K'.io=K.io→qP K' scope.names (dV Γ scope []) (e1::er) vs)
  {σ:Pt} (S:gZ B.toBs σ) {xs:List V} {ρ':Fm} (hev:cL (aX d) Internal.glb (e1::er) _ σ.ρ (fun l ρ=>some (l,ρ))=some (xs,ρ'))
  (hraise:∀A hh hu,fH A (d+1)→fX (K.at A hh hu (aX d) K.N K.io).t0 C fi xs) {low:List Env} (hfr:K.A.frames=some low) {as:List Addr} (has:∀env∈low,∀a,env.frame=some a→a∈as) (hbas:∀a∈as,K.cx.bs.get? a=none) (hff:∀σ',eC B.toBs false σ σ'→ED σ'.s.heap low)
  (h:∀k σ4 h' tk L1 L2,GU B σ t.P ρ' as k σ4 h' L1 L2→Q k {σ4.s with heap:=h',toks:=tk}):
  wpAny K.M K.A (eval (.Call (.Name "_law_told" p3) [.Lambda ⟨[],[],none,[],[],none,[]⟩ (.Call (.Name fn.name p1) vs [] p2) scope t.pos] [] pos) B.env) Q E σ.s:=by
 refine aG (eT isT) fun isT1 isT2=>?_
 refine JZ TD.fn.obj fun oT pm cd doc hbs hdata hcode=>?_
 have tbP:K.T.tb t.P:=by refine (Eq.symm hT)▸?_;exact ⟨t,ht,rfl⟩
 refine Call_Name rfl (eM K.cx B.ok (B.glb _ isT1) (B.nsg S) TD.fn.there ?_ isT2)
 refine Calls.callWith_function (o:=oT) (fd:=Calls.docDef "_law_told" pT bT sT pm cd doc) (Calls.evalArgs_plain (Calls.spliced_cons ?_))
 refine RF hT ht hts hc LH.hd LH.ne LH.bi LH.qual F S fun f o cl cv ctv h1 tk1 hcl ho hod hrec S1 nX hnew hk1=>?_
 subst hod
 have g1:eC B.toBs true σ (σ.to h1 tk1):=⟨S1,⟨⟨fun a o g tt _ _=>hk1 a o g fun e=>tt (e▸tbP),fun _ m=>.inl m⟩,fun p hp v r=>r.at fun o g=>hk1 _ o g fun e=>(XZ hp).1 (e▸tbP)⟩,rfl,fun _=>rfl⟩
 refine Calls.spliced_nil ⟨⟨(S1.base hbs).1,hdata⟩,wpAny_call ?_⟩
 refine ad1 TD.body fun q1 q2 q3 q4 q5 q6 q7 q8 q9 hbody=>?_
 subst hbody
 have base1:∀a o,K.cx.bs.get? a=some o→h1.get? a=some o:=fun a o e=>(S1.base e).1
 refine call_cells (s:=(σ.to h1 tk1).s) (binds:=[(("work":Str),.ref f)]) RM.dl (base1 _ _ hbs) hdata (K.cx.nolim.keeps base1) (hcode.keeps base1) (TD.bind _ _ _ _)
  (fun x hx=>by refine (Eq.symm (List.mem_singleton.mp hx))▸?_;exact .inl TD.l1) (fun h2 tk2 Fh X=>?_) TD.fn.co TD.fn.gen TD.fn.kind
 have RI:=RM.deeper (envOfC "_law_told" sT h1.objs.size fT cd)
 have g2:eC B.toBs true σ (σ.to h2 tk2):=g1.trans (.new (σ:=σ.to h1 tk1) S1 tk2 Fh.keep)
 have nL1:=Fh.ns
 refine nK CA.at' fun N fI mN CA=>?_
 have hX1:¬Xs B.toBs σ.own h1.objs.size:=(S1.fresh aY).1
 refine JK (E:=fun e s'=>wpAny K.M (K.A.deeper (envOfC "_law_told" sT h1.objs.size fT cd)) (leaving (envOfC "_law_told" sT h1.objs.size fT cd) e) _ _ s') (s:=(σ.to h2 tk2).s) (L:=h1.objs.size) (outer:=low) (fL:=f)
  (P:=fun base hm k=>∃σ4 L2,hm=σ4.s.heap∧GR k∧eC B.toBs false σ σ4∧σ4.ρ=ρ'∧(∃m,hm.Ns h1.objs.size m)∧(∃m,hm.Ns L2 m)∧(∀a o,σ.s.heap.get? a=some o→a≠t.P→a≠h1.objs.size∧a≠L2)∧base=hideAll hm (L2::h1.objs.size::as))
  CA K.cx.nsg (Around.frames_deeper hfr) RI.handled TD.fn.kind rfl TD.l1 TD.l2 TD.l3 rfl rfl nL1 ?_ (Fh.keep _ _ ho) rfl ?_ ?_
 ·show bindL _ _ _ "work"=_
  exact vN (ns:=["work"]) (vs:=[.ref f]) (i:=0) TD.l1 (List.nodup_cons.mpr ⟨List.not_mem_nil,List.nodup_nil⟩) rfl rfl
 ·have nl14:∀{σ':Pt},eC B.toBs false (σ.to h2 tk2) σ'→∃m,σ'.s.heap.Ns h1.objs.size m:=fun g=>by
   refine mG nL1 fun oL es ep gL r=>?_
   exact (jU _ oL es ⟨ep,(g.g _ _ ⟨gL,hX1⟩).1,r⟩)
  refine wpAny_call (EE (σ:=σ.to h2 tk2) (as:=h1.objs.size::as) (outer:=envOfC "_law_told" sT h1.objs.size fT cd::low) FN RI (Fh.keep _ _ ho) (hrec.keeps Fh.keep) hco hgen F hcl hf isg hes g2.S hev (fun env hh hu=>hraise _ hh hu (RI.deeper env)) (Around.frames_deeper hfr) (fun env he a ha=>?_) (fun σ' G4 env he=>?_) fun e s' σ4 G4 e4 nL2 FL=>?_)
  ·rcases List.mem_cons.mp he with rfl|he
   ·cases ha;exact .head _
   ·exact .tail _ (has env he a ha)
  ·rcases List.mem_cons.mp he with rfl|he
   ·exact ⟨by show sT.kind≠_;refine (Eq.symm TD.fn.kind)▸?_;decide,_,(nl14 G4).choose,rfl,(nl14 G4).choose_spec⟩
   ·exact hff σ' (g2.trans G4).any env he
  ·refine sL FL.at' fun ea da mA amP Fl n1 amQ nd=>?_;subst amP;obtain ⟨k,kd,kD⟩:=amQ
   have G04:eC B.toBs false σ σ4:=(g2.trans G4).any
   have fr2:∀a o,σ.s.heap.get? a=some o→a≠t.P→a≠h1.objs.size∧a≠h2.objs.size:=fun a o e n=>⟨fun q=>absurd (Heap.lt_size (hk1 a o e n)) (by refine (Eq.symm q)▸?_;exact Nat.lt_irrefl _),fun q=>absurd (Heap.lt_size (Fh.keep _ _ (hk1 a o e n))) (by refine (Eq.symm q)▸?_;exact Nat.lt_irrefl _)⟩
   refine (jU _ σ4.s.heap k ⟨(bW σ4 h2.objs.size ⟨rfl,kD,G04,e4,nl14 G4,nL2,fr2,rfl⟩),yI kD,fun a o e=>?_,⟨(jU ea da mA ⟨rfl,Fl,n1,kd,fun q=>?_⟩),.of FL.up,?_⟩,_,_,(g2.u.trans G4.u).trans FL.same⟩)
   ·have e1:=S.base e
    have nP:a≠t.P:=fun q=>e1.2 (.inl (B.tbN a (q▸tbP)).2.1)
    refine hideAll_get _ (G04.S.base e).1 fun hm=>?_
    rcases List.mem_cons.mp hm with q|hm
    ·exact (fr2 a o e1.1 nP).2 q
    ·rcases List.mem_cons.mp hm with q|hm
     ·exact (fr2 a o e1.1 nP).1 q
     ·rw [hbas a hm] at e;cases e
   ·refine aT (nl14 G4) fun m amR=>?_;obtain ⟨oL,es,ep,g1,_⟩:=amR
    rw [q,g1] at nd;cases nd
   ·refine aT (nl14 G4) fun m n14=>?_
    exact ⟨m,FL.up.ns n14⟩
 ·intro base hm k h' tk P hst hfs U
  refine iJ fun gG gH=>?_;refine adS P fun σ4 L2 amS kD G4 e4 nl1 nl2 fr2 amT=>?_;subst amS;subst amT
  refine gH ?_;have:=h k σ4 h' tk _ L2 ⟨kD,G4,e4,nl1,nl2,fr2,hst,U⟩
  rw [show σ4.s={σ.s with heap:=σ4.s.heap,toks:=σ4.s.toks} from G4.u] at this
  exact this
end
structure uA (ns:fJ)(Γ:eO)(io:Bool)(fn:Fn)(es:List E)(st:Stmt)(lp:Pos):Prop where
 ex:∃p1 p2 p3 p4 p5 p6 ck cp vs scope,st=.Return (some (.Compare (.Call (.Name "_law_told" p3) [.Lambda ⟨[],[],none,[],[],none,[]⟩ (.Call (.Name fn.name p1) vs [] p2) scope lp] [] p4) [.Eq] [.Constant (.str (nm 24)) ck cp] p5)) p6∧
  jX scope.names fn.name=true∧scope.isCoroutine=false∧scope.isGenerator=false∧cN ns Γ scope []∧∀K':Ct,cS K'→(io=false→K'.io=none)→qP K' scope.names (dV Γ scope []) es vs
 isT:jX ns "_law_told"=true
section
variable {K:Ct}{ns:fJ}{Γ:eO}{B:eA K ns Γ}{Q:Flow→Shared→Prop}{E:Value→Shared→Prop}
theorem JN {C:Addr}{ts:List iO}(hT:K.T=rR ts)(FN:lF K.cx){d:Nat}(RM:fH K.A (d+3))(CA:YZ K.w K.cx C){t:iO}(ht:t∈ts)(hts:∀u∈ts,u.P=t.P→u=t){c:Addr}(hc:B.env.code=.ref c)(LH:GT K t B.env.qual c)
  {pT:Arguments} {bT:List Stmt} {sT:Scope} {fT:Addr} (TD:yJ K.cx pT bT sT fT) {st:Stmt} {fi:Nat} {fn:Fn} (hf:rS[fi]? =some fn) {io:Bool} {e1:Internal.E} {er:List Internal.E} (LA:uA ns Γ io fn (e1::er) st t.pos) (hio:io=false→K.io=none)
  {σ:Pt} (S:gZ B.toBs σ) {xs:List V} {ρ':Fm} (hev:cL (aX d) Internal.glb (e1::er) _ σ.ρ (fun l ρ=>some (l,ρ))=some (xs,ρ'))
  (hraise:∀A hh hu,fH A (d+1)→fX (K.at A hh hu (aX d) K.N K.io).t0 C fi xs) {low:List Env} (hfr:K.A.frames=some low) {as:List Addr} (has:∀env∈low,∀a,env.frame=some a→a∈as) (hbas:∀a∈as,K.cx.bs.get? a=none) (hff:∀σ',eC B.toBs false σ σ'→ED σ'.s.heap low)
  (h:∀σ4 h' tk L1 L2,(∃k,GU B σ t.P ρ' as k σ4 h' L1 L2)→Q (.ret (.bool true)) {σ4.s with heap:=h',toks:=tk}):wpAny K.M K.A (exec st B.env) Q E σ.s:=by
 refine ZM LA.ex fun p1 p2 p3 p4 p5 p6 ck cp vs scope amN isg hco hgen F hes=>?_;subst amN
 refine wpAny_Return_some (wpAny_Compare1 (JM hT FN RM CA ht hts hc LH TD LA.isT hco hgen F hf isg (fun K' HC e=>hes K' HC fun q=>e.trans (hio q)) S hev hraise hfr has hbas hff fun k σ4 h' tk L1 L2 TE=>wpAny_Constant_str ?_) (oR .eq _))
 refine aT TE.dom fun t' e=>?_
 subst e
 refine KL (o:=.eq) (g:=fun _ _=>False) (k:=fun v=>some v) (x:=.str 24) (y:=.str 24) (z:=.bool true) (s:={σ4.s with heap:=h',toks:=_}) (fun _ _ g=>g.elim) (aeD K) ⟨by decide,t',rfl⟩ ⟨by decide,_,rfl⟩ rfl fun h'' tk' r x hk hx hr=>?_
 cases hx
 cases hr
 exact h σ4 h'' tk' L1 L2 ⟨_,TE.dom,TE.G,TE.ρ,TE.n1,TE.n2,TE.fr,fun b o g=>hk b o (TE.st b o g),TE.u.trans fun b o n g _=>⟨o.slots,hk b o g⟩⟩
end
noncomputable def penL (l:List Int)(k t:Int):List V:=[.lst (l.map .int),.int k,.int t]
abbrev NoD (o:Obj):Prop:=∀es ep,o.data≠.dict es ep
theorem RH {P:Params}{g g':Gh}{l:List Int}:∀{vs:List Value},bP P g vs (l.map .int)→bP P g' vs (l.map .int):=by
 induction l with
 |nil=>intro vs h;cases h;rfl
 |cons i l ih=>intro vs h;refine bY h fun v t amU amV r=>?_;subst amU;obtain ⟨tk,rfl⟩:=amV;exact (bW _ _ ⟨rfl,⟨tk,rfl⟩,ih r⟩)
theorem RJ {P:Params}{g g':Gh}{vs:List Value}{l:List Int}{k t:Int}(h:bP P g vs (penL l k t))(m:∀a o,g a o→NoD o→g' a o):bP P g' vs (penL l k t):=by
 obtain ⟨v,w,rfl,⟨a,us,n,rfl,ga,ra⟩,v2,w2,rfl,⟨t2,rfl⟩,v3,w3,rfl,⟨t3,rfl⟩,h4⟩:=h
 cases h4
 exact (bW _ _ ⟨rfl,(jU a us n ⟨rfl,m _ _ ga fun es ep q=>(nomatch q),RH ra⟩),_,_,rfl,⟨t2,rfl⟩,_,_,rfl,⟨t3,rfl⟩,rfl⟩)
theorem RK {g g':Gh}{P:Addr}{pos:Pos}{qual:Str}(h:AS g P pos qual)(m:∀a o,g a o→NoD o→g' a o):AS g' P pos qual:=by
 refine aD h fun ps h1 h2=>?_
 refine ⟨ps,m _ _ h1 (fun es ep q=>(nomatch q)),h2.imp id ?_⟩
 rintro ⟨c',oc,vs,u,e,k,r1,r2⟩
 exact (EG c' oc vs u ⟨e,m _ _ k (fun es ep q=>by rw [r1] at q;cases q),r1,r2⟩)
structure GV (K:Ct)(h:Heap)(low:List Env)(ls:List Addr)(a:Addr):Prop where
 fr:K.A.frames=some low
 ok:ED h low
 sub:∀env∈low,∀b,env.frame=some b→b∈ls
 ne:∀l∈ls,¬K.T.tb l∧l≠a∧K.cx.bs.get? l=none∧∃m,h.Ns l m
theorem kH.kept {fn:Fn}{scope:Scope}{K':Ct}{B:eA K' scope.names (fn.vars.map some)}{σ σ':Pt}{s:Shared}{out:Addr→Prop}{io:Option Addr}{slots:List aF}{env:Env}(EN:kH B σ s fn out io slots env)(hN:K'.N=s.heap.objs.size)(G:jA B.toBs [] σ σ')(b:Addr)(o:Obj)(g:s.heap.get? b=some o)(n1:¬K'.T.tb b)(n2:io≠some b):σ'.s.heap.get? b=some o:=
 G.w.k b o (EN.keep b o g) n1 (fun ⟨p,hp,e⟩=>absurd (Heap.lt_size g) (Nat.not_lt.mpr (e▸hN▸(B.pl p hp).1))) fun m=>by
  rw [EN.own] at m
  exact (List.mem_cons.mp m).elim (fun e=>n2 e.symm) fun m=>(nomatch (List.mem_replicate.mp m).2)
theorem AT {h:Heap}{L b:Addr}{o:Obj}(n:∃m,h.Ns L m)(g:h.get? b=some o)(nd:NoD o):b≠L:=fun q=>by
 refine aT n fun m amO=>?_;obtain ⟨o',es,ep,g',gd,_⟩:=amO
 rw [←q,g] at g';cases g';exact nd es ep gd
theorem AU {K:Ct}{C:Addr}{ts:List iO}(hT:K.T=rR ts)(FN:lF K.cx){d:Nat}(RM:fH K.A (d+4))(CA:YZ K.w K.cx C){t:iO}(ht:t∈ts)(hts:∀u∈ts,u.P=t.P→u=t)
  {pT:Arguments} {bT:List Stmt} {sT:Scope} {fT:Addr} (TD:yJ K.cx pT bT sT fT) {fn:Fn} (hio:fn.io=true) (har:fn.arity=1) {params:Arguments} {body:List Stmt} {scope:Scope} {fa:Addr} (FA:mC K.cx.bs K.cx.mg fn.name params body scope fa) (OK:uQ fn params body scope)
  {init:List S} {fi:Nat} {gfn:Fn} (hfi:rS[fi]? =some gfn) {x1:E} {xr:List E} (hb:∃pinit st,body=pinit++[st]∧(∀K':Ct,cS K'→rQ K' scope.names (fn.vars.map some) init pinit)∧uA scope.names (fn.vars.map some) true gfn (x1::xr) st t.pos)
  {c:Addr} (hcd:∀o pm cd doc,K.cx.bs.get? fa=some o→o.data=.func (Calls.docDef fn.name params body scope pm cd doc)→cd=.ref c) (LH:GT K t (fn.name++".<locals>.") c) (hloc:∃x∈fn.vars,scope.names.lookup x=some .local) {s:Shared} {out:Addr→Prop} {a:Addr} (pre:dX K s.heap out (some a)) {sl:List V} (ho:eQ K.w.params (go s.heap out) s.heap a (.l sl))
  {ρ2:Fm} {xs:List V} {l:List Int} {k tt:Int} (ev:aW (aX (d+2)) glb init _ (.l sl::List.replicate (fn.vars.length - 1) .un) (fun ρ=>cL (aX d) glb (x1::xr) _ ρ fun l ρ=>some (l,ρ)) (fun _ _=>none)=some (xs,ρ2)) (hpen:ρ2[0]? =some (.l (penL l k tt)))
  (hraise:∀A hh hu N,fH A (d+1)→fX (K.at A hh hu (aX d) N (some a)).t0 C fi xs) {low:List Env} {ls:List Addr} (LO:GV K s.heap low ls a) {R:Result→Shared→Prop}
  (h:∀h' tk,(∀b o,s.heap.get? b=some o→¬K.T.tb b→b≠a→b∉ls→h'.get? b=some o)→(∀b∈ls,∀m,s.heap.Ns b m→h'.Ns b m)→K.T.inv (fun b o=>h'.get? b=some o∧(K.T.tb b∨¬out b))→eQ K.w.params (go h' out) h' a (.l (penL l k tt))→R (.ok (.ret (.bool true))) {s with heap:=h',toks:=tk}):
  codeAny K.M K.A (.call (.ref fa) ⟨[.ref a],[]⟩) R s:=by
 refine bY hb fun pinit st amW hA LA=>?_;subst amW
 refine jQ (io:=some a) (slots:=[.l sl]) RM.dl FA OK (by refine (Eq.symm har)▸?_;rfl) pre (jU (.l sl) [] [] ⟨rfl,rfl,ho,rfl⟩) (aX (d+2)) (fun env=>⟨RM.handled,(RM.deeper env).hu⟩) fun cd hcdo B σ EN=>?_
 have RI:=RM.deeper (envOfC fn.name scope s.heap.objs.size fa cd)
 let K1:=K.at (K.A.deeper (envOfC fn.name scope s.heap.objs.size fa cd)) RI.handled RI.hu (aX (d+2)) s.heap.objs.size (some a)
 have hC1:cS K1:=yF (d+2) (K:=K1) FN RI rfl
 have eenv:=EN.env
 refine mG hcdo fun oa pm doc hbs hdt=>?_
 have ecd:=hcd oa pm cd doc hbs hdt
 have tbP:K.T.tb t.P:=by refine (Eq.symm hT)▸?_;exact ⟨t,ht,rfl⟩
 have kp:∀{σ'},jA B.toBs [] σ σ'→∀b o,s.heap.get? b=some o→¬K.T.tb b→b≠a→σ'.s.heap.get? b=some o:=fun G b o g n1 n2=>EN.kept rfl G b o g n1 fun q=>n2 (Option.some.inj q).symm
 have lsN:∀{σ'},jA B.toBs [] σ σ'→∀b∈ls,∀m,s.heap.Ns b m→σ'.s.heap.Ns b m:=fun G b hb m n=>by
  refine mG n fun o es ep g r=>?_
  exact (jU o es ep ⟨kp G b o g (LO.ne b hb).1 (LO.ne b hb).2.1,r⟩)
 refine tZ (hA K1 hC1) EN.S (by rw [EN.ρ,har];exact ev) fun σ2 G2 k2=>?_
 refine wpAny_execs_cons (JN (K:=K1) (as:=s.heap.objs.size::ls) (low:=envOfC fn.name scope s.heap.objs.size fa cd::low) hT FN RI CA ht hts (c:=c) (by refine (Eq.symm eenv)▸?_;exact ecd) ⟨LH.hd,LH.ne,LH.bi,by refine (Eq.symm eenv)▸?_;exact LH.qual⟩ TD hfi LA (by intro q;cases q) G2.S k2
  (fun A hh hu RA=>hraise A hh hu _ RA) (Around.frames_deeper LO.fr) (fun env he b hb=>?_) (fun b hb=>?_) (fun σ' G env he=>?_) fun σ4 h' tk' L1 L2 ⟨kk,TE⟩=>?_)
 ·rcases List.mem_cons.mp he with rfl|he
  ·cases hb;exact .head _
  ·exact .tail _ (LO.sub env he b hb)
 ·show K.cx.bs.get? b=none
  rcases List.mem_cons.mp hb with rfl|hb
  ·cases q:K.cx.bs.get? s.heap.objs.size with
   |none=>rfl
   |some o=>exact absurd (Heap.lt_size (pre.base _ _ q).1) (Nat.lt_irrefl _)
  ·exact (LO.ne b hb).2.2.1
 ·have G':=G2.trans G.os
  rcases List.mem_cons.mp he with rfl|he
  ·refine aT (EN.tab hloc G.S) fun m n=>?_
   exact ⟨by refine eenv▸?_;refine (Eq.symm B.ok.kind)▸?_;decide,_,m,rfl,n⟩
  ·refine aG (LO.ok env he) fun kd amX=>?_;obtain ⟨L,m,f,n⟩:=amX
   exact ⟨kd,L,m,f,lsN G' L (LO.sub env he L f) m n⟩
 ·have G4:=G2.trans TE.G.os
  have nF:=EN.tab hloc TE.G.S
  have nLs:∀b∈ls,∃m,σ4.s.heap.Ns b m:=fun b hb=>aT ((LO.ne b hb).2.2.2) fun m n=>⟨m,lsN G4 b hb m n⟩
  have st:∀b o,σ4.s.heap.get? b=some o→b≠L1→b≠L2→b≠s.heap.objs.size→b∉ls→h'.get? b=some o:=fun b o g m1 m2 m3 m4=>TE.st b o (hideAll_get _ g fun q=>by
   rcases List.mem_cons.mp q with q|q
   ·exact m2 q
   rcases List.mem_cons.mp q with q|q
   ·exact m1 q
   rcases List.mem_cons.mp q with q|q
   ·exact m3 q
   ·exact m4 q)
  have sd:∀b o,σ4.s.heap.get? b=some o→NoD o→h'.get? b=some o:=fun b o g nd=>st b o g (AT TE.n1 g nd) (AT TE.n2 g nd) (AT nF g nd) fun hb=>AT (nLs b hb) g nd rfl
  have fr:∀b o,s.heap.get? b=some o→¬K.T.tb b→b≠a→b≠L1∧b≠L2:=fun b o g m1 m2=>TE.fr b o (kp G2 b o g m1 m2) fun q=>m1 (q▸tbP)
  have:=h h' tk' (fun b o g m1 m2 m3=>st b o (kp G4 b o g m1 m2) (fr b o g m1 m2).1 (fr b o g m1 m2).2 (Nat.ne_of_lt (Heap.lt_size g)) m3) (fun b hb m n=>?_) ?_ ?_
  ·refine (Eq.symm (show σ4.s={s with heap:=σ4.s.heap,toks:=σ4.s.toks} from (EN.up.trans G2.u).trans TE.G.u))▸?_;exact this
  ·refine mG (id n) fun o _ _ g _=>?_
   exact TE.u.ns (fr b o g (LO.ne b hb).1 (LO.ne b hb).2.1).1 (lsN G4 b hb m n)
  ·have ti:=TE.G.S.ti
   rw [show K1.kx.T=rR ts from hT] at ti
   have tbT:∀b,K.T.tb b→(rR ts).tb b:=fun b q=>hT▸q
   refine (Eq.symm hT)▸?_
   exact fun u hu=>RK (ti u hu) fun b o g nd=>⟨sd b o g.1 nd,(show K.T.tb b∨¬Xs B.toBs σ4.own b from g.2).imp (tbT b) fun n x=>n (.inl (EN.out▸x))⟩
  ·have w3:=TE.G.S.own0 a rfl
   refine iJ fun gG gH=>?_;refine bY (TE.G.S.get (TE.ρ▸hpen)) fun p oo w1 w2 k4=>?_
   rw [w3] at w2;cases w2
   refine aG k4 fun _ amY=>?_;obtain ⟨vs,n,g,r⟩:=amY
   refine gH ?_;exact (bW vs n ⟨sd a _ g fun es ep q=>(nomatch q),RJ r fun b o g nd=>⟨sd b o g.1 nd,fun x=>g.2 (.inl (EN.out▸x))⟩⟩)
noncomputable def sI (j n:Nat):Stmt:=(dW j).b.getD n (.Pass p0)
noncomputable def hdS (l:List Stmt):Stmt:=l.headD (.Pass p0)
noncomputable def rzX (st:Stmt):Expr:=(vs st).v
noncomputable def rzP (st:Stmt):Pos:=match st with
 |.Raise _ _ p=>p
 |_=>p0
noncomputable def aiC (e:Expr):Str:=(vw e).s
noncomputable def ehV (h:ExceptHandler):Expr×List Stmt×Pos:=match h with
 |.ExceptHandler t _ b p=>(t.getD dx,b,p)
noncomputable def laV (e:Expr):Expr×Scope×Pos:=(x1 e,(vw e).sc.getD ⟨.function,[],false,false,[]⟩,xp e)
noncomputable def ZB (j n:Nat):Expr:=rzX (hdS (vs (sI j n)).b)
theorem XH {K:Ct}{ns:fJ}{Γ:eO}{l:List E}{b:List Expr}(h:Option {st // qP K ns Γ l st})(e:h.map (·.1)=some b):qP K ns Γ l b:=by
 cases h with
 |none=>cases e
 |some p=>cases e;exact p.2
theorem GW {K:Ct}{ns:fJ}{Γ:eO}{l:E}{b:Expr}(h:Option {st // cM K ns Γ l st})(e:h.map (·.1)=some b):cM K ns Γ l b:=by
 cases h with
 |none=>cases e
 |some p=>cases e;exact p.2
theorem sJ {K:Ct}{ns:fJ}{Γ:eO}{l:List S}{b:List Stmt}(h:Option {st // rQ K ns Γ l st})(e:h.map (·.1)=some b):rQ K ns Γ l b:=by
 cases h with
 |none=>cases e
 |some p=>cases e;exact p.2
noncomputable def prA {K:Ct}(HC:cS K)(io:Bool)(hio:io=false→K.io=none)(ns:fJ)(Γ:eO):(l:List S)→List Stmt→Option {st // rQ K ns Γ l st}
 |[],_=>some ⟨[],.nil⟩
 |s::r,l=>(prS HC io hio ns Γ s (l.headD (.Pass p0))).bind fun p=>(prA HC io hio ns Γ r l.tail).bind fun q=>some ⟨p.1::q.1,.cons p.2 q.2⟩
noncomputable def ac6 (fn:Fn)(scope:Scope):Bool:=fn.vars.any fun x=>scope.names.lookup x==some .local
theorem lI {fn:Fn}{scope:Scope}(h:ac6 fn scope=true):∃x∈fn.vars,scope.names.lookup x=some .local:=by
 refine aD (List.any_eq_true.mp h) fun x hx e=>?_
 exact ⟨x,hx,eq_of_beq e⟩
theorem uB {j n:Nat}(h:(vs (sI j n)).b=[.Raise (some (.Call (.Name "CasFail" (xp (x1 (ZB j n)))) [.Constant (.str "domain") (xk (l1 (xl (ZB j n)))) (xp (l1 (xl (ZB j n)))),.Constant (.str (aiC (l2 (xl (ZB j n))))) (xk (l2 (xl (ZB j n)))) (xp (l2 (xl (ZB j n))))] [] (xp (ZB j n)))) none (rzP (hdS (vs (sI j n)).b))])
  (hl:Nat.ble (aiC (l2 (xl (ZB j n)))).length 1000=true):GS (vs (sI j n)).b:=(ei8 _ _ _ _ _ _ _ _ ⟨h,Nat.le_of_ble_eq_true hl⟩)
noncomputable def tst (s:S):E:=match s with
 |.ite t _ _=>t
 |_=>.bad
noncomputable def t82:E:=tst (dP bJ.body 0)
noncomputable def t80:E:=tst (dP bK.body 2)
theorem as3:yH bJ (dW 140).b (dO 140) [] t82:=⟨⟨[],(vs (sI 140 0)).v,(vs (sI 140 0)).b,(vs (sI 140 0)).p,(dW 140).b.tail,by kernel_rfl,uB (by kernel_rfl) (by kernel_rfl),
 fun K HC hio=>⟨.nil,(GW (iL HC false (fun _=>hio) (dO 140).names (bJ.vars.map some) t82 (vs (sI 140 0)).v) (by kernel_rfl)).t⟩⟩,by kernel_rfl,lI (by kernel_rfl)⟩
noncomputable def RL:List S:=[dP bK.body 0,dP bK.body 1]
theorem as4:yH bK (dW 138).b (dO 138) RL t80:=⟨⟨(dW 138).b.take 2,(vs (sI 138 2)).v,(vs (sI 138 2)).b,(vs (sI 138 2)).p,(dW 138).b.drop 3,by kernel_rfl,uB (by kernel_rfl) (by kernel_rfl),
 fun K HC hio=>⟨sJ (prA HC false (fun _=>hio) (dO 138).names (bK.vars.map some) RL ((dW 138).b.take 2)) (by kernel_rfl),(GW (iL HC false (fun _=>hio) (dO 138).names (bK.vars.map some) t80 (vs (sI 138 2)).v) (by kernel_rfl)).t⟩⟩,by kernel_rfl,lI (by kernel_rfl)⟩
noncomputable def ZC:Expr:=(vs (sI 139 0)).v
noncomputable def w81:Expr:=l1 (xl ZC).tail.tail
noncomputable def u81:Expr:=l2 (xl ZC).tail.tail
theorem as5:ZA bX kA bK (dW 139).b (dO 139):=⟨⟨xs (vs (sI 139 0)).t,xs (l1 (xl ZC)),xs (l2 (xl ZC)),xs (l1 (xl w81)),xp (vs (sI 139 0)).t,xp (x1 ZC),xp (l1 (xl ZC)),xp (l2 (xl ZC)),xp (x1 w81),xp (l1 (xl w81)),xp w81,xp ZC,(vs (sI 139 0)).p,u81,(dW 139).b.tail,by kernel_rfl,by kernel_rfl,by kernel_rfl,by kernel_rfl⟩,by kernel_rfl,by kernel_rfl,lI (by kernel_rfl)⟩
structure ac7 (params:Arguments)(body:List Stmt)(scope:Scope):Prop where
 bind:∀(v:Value) pm cd doc,bindArgs (Calls.docDef "_law_told" params body scope pm cd doc) ⟨[v],[]⟩=pure ((["work"]:List Str).zip [v])
 l1:scope.names.lookup ("work":Str)=some .local
 l2:scope.names.lookup ("refusal":Str)=some .local
 l3:scope.names.lookup ("CasFail":Str)=some .globalImplicit
 body:∃p1 p2 p3 p4 p5 p6 p7 p8 p9,body=[.Try [.Return (some (.Call (.Name "work" p1) [] [] p2)) p3] [.ExceptHandler (some (.Name "CasFail" p4)) (some "refusal") [.Return (some (.Attribute (.Name "refusal" p5) "kind" p6)) p7] p8] [] [] p9]
noncomputable def RN:Stmt:=sI 151 0
noncomputable def RO:Stmt:=hdS (vs RN).b
noncomputable def RP:Expr×List Stmt×Pos:=ehV ((vs RN).h.headD (.ExceptHandler none none [] p0))
noncomputable def RQ:Stmt:=hdS RP.2.1
theorem AV:ac7 (lU 151) (dW 151).b (dO 151):=⟨fun v pm cd doc=>by kernel_rfl,by kernel_rfl,by kernel_rfl,by kernel_rfl,
 (ei9 (xp (x1 (vs RO).v)) (xp (vs RO).v) ((vs RO).p) (xp RP.1) (xp (x1 (vs RQ).v)) (xp (vs RQ).v) ((vs RQ).p) RP.2.2 ((vs RN).p) (by kernel_rfl))⟩
noncomputable def RS:Stmt:=sI 152 6
noncomputable def RT:Stmt:=sI 153 10
noncomputable def RU (st:Stmt):Expr:=x1 (vs st).v
noncomputable def ac8 (st:Stmt):Expr:=l1 (xl (RU st))
noncomputable def AW (st:Stmt):Expr:=(laV (ac8 st)).1
noncomputable def EF (st:Stmt):Scope:=(laV (ac8 st)).2.1
noncomputable def AX (st:Stmt):Pos:=(laV (ac8 st)).2.2
noncomputable def aiE:List E:=[.var 2,.str 17,.sub (.var 12) (.int 0),.sub (.var 12) (.int 1)]
noncomputable def aiF:List E:=[.var 5,.str 17,.sub (.lst [.tup [.str 1,.str 18],.tup [.str 3,.tup [.tup [.str 0,.int 2,.int 1],.var 7]],.glob 15]) (.callO 83 0 [.int 3]),.int 0]
theorem wE {ns:fJ}{Γ:eO}{fn:Fn}{es:List E}{st:Stmt}(h:st=.Return (some (.Compare (.Call (.Name "_law_told" (xp (x1 (RU st)))) [.Lambda ⟨[],[],none,[],[],none,[]⟩ (.Call (.Name fn.name (xp (x1 (AW st)))) (xl (AW st)) [] (xp (AW st))) (EF st) (AX st)] [] (xp (RU st))) [.Eq] [.Constant (.str (nm 24)) (xk (l1 (xl (vs st).v))) (xp (l1 (xl (vs st).v)))] (xp (vs st).v))) (vs st).p)
  (h1:jX (EF st).names fn.name=true) (h2:(EF st).isCoroutine=false) (h3:(EF st).isGenerator=false) (h4:xH ns Γ (EF st) []=true) (h5:jX ns "_law_told"=true)
  (h6:∀(K':Ct) (HC:cS K'),(tH HC true (fun e=>nomatch e) (EF st).names (dV Γ (EF st) []) es (xl (AW st))).map (·.1)=some (xl (AW st))):uA ns Γ true fn es st (AX st):=
 ⟨(anK _ _ _ _ _ _ _ _ _ _ ⟨h,h1,h2,h3,vM h4,fun K' HC _=>XH _ (h6 K' HC)⟩),h5⟩
theorem aiG:uA (dO 152).names (aE.vars.map some) true bJ aiE RS (AX RS):=wE (by kernel_rfl) (by kernel_rfl) (by kernel_rfl) (by kernel_rfl) (by kernel_rfl) (by kernel_rfl) fun K' HC=>by kernel_rfl
theorem aiH:uA (dO 153).names (aJ.vars.map some) true bX aiF RT (AX RT):=wE (by kernel_rfl) (by kernel_rfl) (by kernel_rfl) (by kernel_rfl) (by kernel_rfl) (by kernel_rfl) fun K' HC=>by kernel_rfl
theorem ZD:(dW 152).b=(dW 152).b.take 6++[RS]∧∀K':Ct,cS K'→rQ K' (dO 152).names (aE.vars.map some) DM ((dW 152).b.take 6):=⟨by kernel_rfl,fun K' HC=>sJ (prA HC true (fun e=>nomatch e) (dO 152).names (aE.vars.map some) DM ((dW 152).b.take 6)) (by kernel_rfl)⟩
theorem ZE:(dW 153).b=(dW 153).b.take 10++[RT]∧∀K':Ct,cS K'→rQ K' (dO 153).names (aJ.vars.map some) DW ((dW 153).b.take 10):=⟨by kernel_rfl,fun K' HC=>sJ (prA HC true (fun e=>nomatch e) (dO 153).names (aJ.vars.map some) DW ((dW 153).b.take 10)) (by kernel_rfl)⟩
theorem aiI:∃x∈aE.vars,(dO 152).names.lookup x=some .local:=lI (by kernel_rfl)
theorem aiJ:∃x∈aJ.vars,(dO 153).names.lookup x=some .local:=lI (by kernel_rfl)
section
variable {K:Ct}{C:Addr}
theorem ZF {d:Nat}{t:V}{x y:Int}{w:V}(hw:w∈pA x y):∃a b,w=.tup [a,b]∧kE (aX (d+31)) glb t82 Bool [.v t,.v (.str 17),.v a,.v b,.un,.un,.un,.un] (fun v _=>fD v some)=some true:=by
 simp only [pA,List.mem_cons,List.not_mem_nil,or_false] at hw
 rcases hw with rfl|rfl|rfl|rfl
 ·exact (bW _ _ ⟨rfl,by kernel_rfl⟩)
 ·exact (bW _ _ ⟨rfl,by kernel_rfl⟩)
 ·exact (bW _ _ ⟨rfl,by kernel_rfl⟩)
 ·exact (bW _ _ ⟨rfl,by kernel_rfl⟩)
theorem XI (CA:YZ K.w K.cx C)(hT:K.T=T0)(FN:lF K.cx){d:Nat}(RM:fH K.A (d+33)){fa:Addr}(FA:mC K.cx.bs K.cx.mg bJ.name (lU 140) (dW 140).b (dO 140) fa){t:V}{x y:Int}{a b:V}(hw:.tup [a,b]∈pA x y):fX K C 82 [t,.str 17,a,b]:=by
 refine dI (ZF (d:=d) (t:=t) hw) fun a' b' e h=>?_
 cases e
 exact AQ CA hT FN RM rfl FA ah7.2 as3 rfl h
noncomputable def mW:List V:=[.tup [.str 1,.str 18],.tup [.str 3,.tup [.tup [.str 0,.int 2,.int 1],hW]],.tup [.str 1,.str 17]]
theorem aiK {d:Nat}{e:V}(he:e∈mW):aW (aX (d+31)) glb RL Bool [.v e] (fun ρ=>kE (aX (d+31)) glb t80 Bool ρ fun v _=>fD v some) (fun _ _=>none)=some true:=by
 simp only [mW,List.mem_cons,List.not_mem_nil,or_false] at he
 rcases he with rfl|rfl|rfl<;>kernel_rfl
theorem XJ (CA:YZ K.w K.cx C)(hT:K.T=T0)(FN:lF K.cx){d:Nat}(RM:fH K.A (d+33)){fa:Addr}(FA:mC K.cx.bs K.cx.mg bK.name (lU 138) (dW 138).b (dO 138) fa){e:V}(he:e∈mW):fX K C 80 [e]:=
 AQ CA hT FN RM rfl FA ah5.2 as4 rfl (aiK (d:=d) he)
theorem XK (CA:YZ K.w K.cx C)(hT:K.T=T0)(FN:lF K.cx){d:Nat}(RM:fH K.A (d+34)){fa fa':Addr}(FA:mC K.cx.bs K.cx.mg bK.name (lU 138) (dW 138).b (dO 138) fa)(FA':mC K.cx.bs K.cx.mg bX.name (lU 139) (dW 139).b (dO 139) fa'){t e s:V}(he:e∈mW):fX K C 81 [t,.str 17,e,s]:=
 JL (d:=d+32) hT RM (f:=81) rfl FA' ah6.2 (fg:=49) (fl:=80) rfl rfl as5 rfl fun env hh hu N=>XJ (K:=K.at (K.A.deeper env) hh hu (aX (d+32)) N none) CA hT FN (RM.deeper env) FA he
end
structure ZG (K:Ct)(fn:Fn)(j:Nat)(t:iO)(c:Addr):Prop where
 d:∃fa,mC K.cx.bs K.cx.mg fn.name (lU j) (dW j).b (dO j) fa∧∀o pm cd doc,K.cx.bs.get? fa=some o→o.data=.func (Calls.docDef fn.name (lU j) (dW j).b (dO j) pm cd doc)→cd=.ref c
 lam:GT K t (fn.name++".<locals>.") c
structure AY (K:Ct)(C:Addr)(t1 t2:iO)(c1 c2:Addr):Prop where
 T:K.T=rR [t1,t2]
 ne:t1.P≠t2.P
 fn:lF K.cx
 cas:YZ K.w K.cx C
 told:∃pT bT sT fT,yJ K.cx pT bT sT fT
 l1:ZG K aE 152 t1 c1
 p1:t1.pos=AX RS
 l2:ZG K aJ 153 t2 c2
 p2:t2.pos=AX RT
 d82:∃fa,mC K.cx.bs K.cx.mg bJ.name (lU 140) (dW 140).b (dO 140) fa
 d80:∃fa,mC K.cx.bs K.cx.mg bK.name (lU 138) (dW 138).b (dO 138) fa
 d81:∃fa,mC K.cx.bs K.cx.mg bX.name (lU 139) (dW 139).b (dO 139) fa
structure lV (K:Ct)(h:Heap)(out:Addr→Prop)(a:Addr)(ls:List Addr)(m:Nat)(h':Heap):Prop where
 keep:∀b o,h.get? b=some o→¬K.T.tb b→b≠a→b∉ls→h'.get? b=some o
 ns:∀b∈ls,∀m,h.Ns b m→h'.Ns b m
 ti:K.T.inv fun b o=>h'.get? b=some o∧(K.T.tb b∨¬out b)
 own:∃sl,mE sl m∧eQ K.w.params (go h' out) h' a (.l sl)
theorem mE.penL {s:List V}{n:Nat}(h:mE s n):∃l k t,s=Internal.penL l k t:=by
 refine mG h fun l k t e _=>?_
 exact (jU l _ t e)
theorem RV {t1 t2 t u:iO}(ne:t1.P≠t2.P)(ht:t∈[t1,t2])(hu:u∈[t1,t2])(q:u.P=t.P):u=t:=by
 simp only [List.mem_cons,List.not_mem_nil,or_false] at ht hu
 rcases ht with rfl|rfl<;>rcases hu with rfl|rfl
 ·rfl
 ·exact absurd q.symm ne
 ·exact absurd q ne
 ·rfl
section
variable {K:Ct}{C:Addr}{t1 t2:iO}{c1 c2:Addr}
theorem RW (H:AY K C t1 t2 c1 c2)(RM:fH K.A 62){s:Shared}{out:Addr→Prop}{a:Addr}(pre:dX K s.heap out (some a)){sl:List V}(ho:eQ K.w.params (go s.heap out) s.heap a (.l sl)){m:Nat}(hp:mE sl (12+m))
  {low:List Env} {ls:List Addr} (LO:GV K s.heap low ls a) {fa:Addr} (hm:K.cx.mg aE.name=some (.ref fa)) {R:Result→Shared→Prop}
  (h:∀h' tk,lV K s.heap out a ls m h'→R (.ok (.ret (.bool true))) {s with heap:=h',toks:=tk}):codeAny K.M K.A (.call (.ref fa) ⟨[.ref a],[]⟩) R s:=by
 refine iJ fun gG gH=>?_;obtain ⟨fa',FA,hcd⟩:=H.l1.d
 have e:fa'=fa:=by have:=FA.there;rw [hm] at this;cases this;rfl
 subst e
 obtain ⟨pT,bT,sT,fT,TD⟩:=H.told
 obtain ⟨e,t,p,r,x,y,s6,s7,s8,s9,s10,s11,w,s',hs',hw,ev⟩:=acU (d:=0) hp (β:=List V×Fm) (k:=fun ρ=>cL (aX 58) glb aiE _ ρ fun l ρ=>some (l,ρ)) (q:=fun _ _=>none)
 obtain ⟨p1,p2,p3,rfl⟩:=hs'.penL
 refine gH ?_;obtain ⟨u,v,rfl⟩:∃u v,w=.tup [u,v]:=by
  refine iJ fun gG gH=>?_;obtain ⟨u,v,q,_⟩:=ZF (d:=0) (t:=t) hw
  refine gH ?_;exact (bW u v q)
 obtain ⟨f82,F82⟩:=H.d82
 exact AU (d:=58) (ts:=[t1,t2]) H.T H.fn RM H.cas (t:=t1) (.head _) (fun u hu q=>RV H.ne (.head _) hu q) TD rfl rfl FA ah8.2 rfl (bW _ _ ⟨ZD.1,ZD.2,H.p1▸aiG⟩) hcd H.l1.lam aiI pre ho (xs:=[t,.str 17,u,v]) (ev.trans rfl) rfl
  (fun A hh hu N RA=>XI (d:=26) (K:=(K.at A hh hu (aX 58) N (some a)).t0) H.cas rfl H.fn RA F82 hw) LO fun h' tk k1 k2 k3 k4=>h h' tk ⟨k1,k2,k3,_,hs',k4⟩
theorem ac9 (H:AY K C t1 t2 c1 c2)(RM:fH K.A 62){s:Shared}{out:Addr→Prop}{a:Addr}(pre:dX K s.heap out (some a)){sl:List V}(ho:eQ K.w.params (go s.heap out) s.heap a (.l sl)){m:Nat}(hp:mE sl (13+m))
  {low:List Env} {ls:List Addr} (LO:GV K s.heap low ls a) {fa:Addr} (hm:K.cx.mg aJ.name=some (.ref fa)) {R:Result→Shared→Prop}
  (h:∀h' tk,lV K s.heap out a ls m h'→R (.ok (.ret (.bool true))) {s with heap:=h',toks:=tk}):codeAny K.M K.A (.call (.ref fa) ⟨[.ref a],[]⟩) R s:=by
 refine iJ fun gG gH=>?_;refine aD H.l2.d fun fa' FA hcd=>?_
 have e:fa'=fa:=by have:=FA.there;rw [hm] at this;cases this;rfl
 subst e
 refine JY H.told fun pT bT sT fT TD=>?_
 refine ZN (XE (d:=0) (m:=m) (hp.le (by lia)) (β:=List V×Fm) (q:=fun _ _=>none)) fun r n k u t b s9 s10 s11 s12 s1 hs1 ev=>?_
 refine bY (hV (d:=57) (m:=3) hs1 (by decide)) fun q s' hq pk hs'=>?_
 refine nK hs'.penL fun p1 p2 p3 am6=>?_;subst am6
 refine gH ?_;obtain ⟨e,he,hen⟩:∃e,mW[q]? =some e∧e∈mW:=⟨mW[q]'hq,List.getElem?_eq_getElem hq,List.getElem_mem hq⟩
 have ev2:cL (aX 58) glb aiF (List V×Fm) [.l s1,.v r,.v n,.v k,.v u,.v t,.v b,.v hW,.v iN,s9,s10,s11,s12] (fun l ρ=>some (l,ρ))
   =some ([t,.str 17,e,.int 0],[.l (penL p1 p2 p3),.v r,.v n,.v k,.v u,.v t,.v b,.v hW,.v iN,s9,s10,s11,s12]):=by
  refine (?_:(Cn 59 83 [.l s1,.v (.int 3)]).bind _=_)
  rw [show Cn 59 83 [.l s1,.v (.int 3)]=_ from pk,aB]
  refine (?_:sP (.lst mW) (.int (.ofNat q)) _=_)
  rw [gY he (by lia)];rfl
 refine aT H.d80 fun f80 F80=>?_
 refine aT H.d81 fun f81 F81=>?_
 exact AU (d:=58) (ts:=[t1,t2]) H.T H.fn RM H.cas (t:=t2) (.tail _ (.head _)) (fun u hu q=>RV H.ne (.tail _ (.head _)) hu q) TD rfl rfl FA ah9.2 rfl (bW _ _ ⟨ZE.1,ZE.2,H.p2▸aiH⟩) hcd H.l2.lam aiJ pre ho (xs:=[t,.str 17,e,.int 0]) ((ev _).trans ev2) rfl
  (fun A hh hu N RA=>XK (d:=25) (K:=(K.at A hh hu (aX 58) N (some a)).t0) H.cas rfl H.fn RA F80 F81 hen) LO fun h' tk k1 k2 k3 k4=>h h' tk ⟨k1,k2,k3,_,hs',k4⟩
end
section
variable {K:Ct}{ns:fJ}{Γ:eO}{B:eA K ns Γ}{σ:Pt}
theorem RX {L:Addr}{h h':Heap}(hn:∀m,h.Ns L m→h'.Ns L m){p:Pl}(hp:∃x,p=.loc L x){v:Value}(r:rd h p v):rd h' p v:=by
 refine aT hp fun x amZ=>?_;subst amZ
 refine aD r fun m n e=>?_
 exact ⟨m,hn m n,e⟩
theorem RY (S:gZ B.toBs σ){L a:Addr}(hpl:∀p∈B.pls,∃x,p=.loc L x)(hout:∀b,B.out b→b<K.N)(io:K.io=none){n:Nat}{sl0:List V}(hn:σ.own[n]? =some (some a))(hρ:σ.ρ[n]? =some (.l sl0))(ho:∀b,some b∈σ.own→b=a){m:Nat}{h':Heap}{tk:Nat}(P:lV K σ.s.heap (Xs B.toBs σ.own) a [L] m h'):
  ∃sl,mE sl m∧gZ B.toBs ⟨σ.own,σ.ρ.set n (.l sl),{σ.s with heap:=h',toks:=tk}⟩:=by
 refine aD P.own fun sl hp OO=>?_
 have hL:∀m,σ.s.heap.Ns L m→h'.Ns L m:=P.ns L (.head _)
 have xa:Xs B.toBs σ.own a:=.inr (.inr (List.mem_of_getElem? hn))
 have xL:∀b,b∈[L]→Xs B.toBs σ.own b:=fun b hb=>by
  rw [List.mem_singleton] at hb
  subst hb
  cases e:B.pls with
  |nil=>exact absurd e B.ne
  |cons p l=>
   refine aT (hpl p (e▸.head _)) fun x q=>?_
   exact .inr (.inl ⟨p,e▸.head _,q▸rfl⟩)
 have kv:∀b o,gv B.toBs σ.own σ.s.heap b o→gv B.toBs σ.own h' b o:=fun b o g=>⟨P.keep b o g.1 (fun t=>g.2 (.inl (B.tbN b t).2.1)) (fun e=>g.2 (e▸xa)) fun e=>g.2 (xL b e),g.2⟩
 refine ⟨sl,hp,fun b o e=>P.keep b o (S.bs b o e) (fun t=>(B.bas b o e).2.1 (B.tbN b t).2.1) (fun q=>?_) fun q=>?_,fun b x=>.inl (hout b x),S.ow,by refine (Eq.symm List.length_set)▸?_;exact S.lenP,by refine (Eq.symm List.length_set)▸?_;exact S.lenO,fun i p s' oa h1 h2 h3=>?_,S.sep,S.dis,P.ti,S.own0⟩
 ·subst q
  rcases S.ow n b hn with ⟨w,_⟩|⟨_,w⟩
  ·exact absurd (B.bas b o e).1 (Nat.not_lt.mpr w)
  ·exact nomatch (io.symm.trans w)
 ·obtain ⟨w,hw⟩:∃p∈B.pls,p.addr=b:=by
   rw [List.mem_singleton] at q
   subst q
   cases e:B.pls with
   |nil=>exact absurd e B.ne
   |cons p l=>
    refine aT (hpl p (e▸.head _)) fun x q=>?_
    exact ⟨p,.head _,q▸rfl⟩
  exact absurd (B.bas b o e).1 (Nat.not_lt.mpr (hw.2▸(B.pl w hw.1).1))
 ·have hpl':=hpl p (List.mem_of_getElem? h1)
  by_cases e:i=n
  ·subst e
   rw [List.getElem?_set_self (by exact (List.getElem?_eq_some_iff.mp hρ).1)] at h2
   cases h2
   rw [hn] at h3
   cases h3
   exact ⟨RX hL hpl' (S.slot i p _ _ h1 hρ hn).1,OO.move (fun b o g=>g) fun o g=>g⟩
  ·rw [List.getElem?_set_ne (fun q=>e q.symm)] at h2
   have k:=S.slot i p s' oa h1 h2 h3
   cases oa with
   |some b=>exact absurd (S.dis i n a (by refine (Eq.symm h3)▸?_;exact (Eq.symm (ho b (List.mem_of_getElem? h3)))▸rfl) hn) e
   |none=>
    cases s' with
    |un=>
     refine aT hpl' fun x am0=>?_;subst am0
     refine aT ((k:there σ.s.heap (.loc L x))) fun m q=>?_
     exact ⟨m,hL m q⟩
    |v x=>exact aD k fun pv r q=>⟨pv,RX hL hpl' r,q.mono kv⟩
    |l _=>exact k.elim
    |d _=>exact k.elim
end
structure yK (nmF:Str)(pe:Expr):Prop where
 ex:∃p1 p2 p3,pe=.Call (.Name nmF p1) [.Name "pen" p2] [] p3
theorem yL {K:Ct}{ns:fJ}{Γ:eO}{B:eA K ns Γ}{σ:Pt}{f:Nat}{fn:Fn}{pe:Expr}(CA:yK fn.name pe)(hf:rS[f]? =some fn)(hg:jX ns fn.name=true)(hΓ:Γ[1]? =some (some ("pen":Str))) (S:gZ B.toBs σ) {L a:Addr} {sl:List V} (hn:σ.own[1]? =some (some a)) (hρ:σ.ρ[1]? =some (.l sl))
  {Q:Value→Shared→Prop} {E:Value→Shared→Prop} {m:Nat}
  (hc:∀fa,K.cx.mg fn.name=some (.ref fa)→dX K σ.s.heap (Xs B.toBs σ.own) (some a)→eQ K.w.params (go σ.s.heap (Xs B.toBs σ.own)) σ.s.heap a (.l sl)→∀R:Result→Shared→Prop,(∀h' tk,lV K σ.s.heap (Xs B.toBs σ.own) a [L] m h'→R (.ok (.ret (.bool true))) {σ.s with heap:=h',toks:=tk})→codeAny K.M K.A (.call (.ref fa) ⟨[.ref a],[]⟩) R σ.s)
  (hq:∀h' tk,lV K σ.s.heap (Xs B.toBs σ.own) a [L] m h'→Q (.bool true) {σ.s with heap:=h',toks:=tk}):wpAny K.M K.A (eval pe B.env) Q E σ.s:=by
 refine iJ fun gG gH=>?_;refine nK CA.ex fun p1 p2 p3 am1=>?_;subst am1
 refine eP (K.cx.fns f fn hf) fun fa o fd hm hb hd=>?_
 refine aG (eT hg) fun hg1 hg2=>?_
 refine bY (S.get hρ) fun p oa q1 q2 k=>?_
 refine gH ?_;rw [hn] at q2;cases q2
 refine Call_Name rfl (eM K.cx B.ok (B.glb _ hg1) (B.nsg S) hm ?_ hg2)
 exact Calls.callWith_function (o:=o) (fd:=fd) (Calls.evalArgs_plain (Calls.spliced_cons (B.ok.evalName hΓ q1 k.1 (Calls.spliced_nil ⟨⟨(S.base hb).1,hd⟩,wpAny_call (hc fa hm (tD S fun b e=>Option.some.inj e▸List.mem_of_getElem? hn) k.2 _ fun h' tk P=>hq h' tk P)⟩))))
structure ZH (st:Stmt):Prop where
 ex:∃e1 e2 e3 p1 p2,st=.Return (some (.BoolOp .And [e1,e2,e3] p1)) p2∧yK aE.name e1∧yK aJ.name e2∧yK aE.name e3
noncomputable def qH:List Expr:=xl (vs (sI 154 1)).v
noncomputable def ca (e:Expr)(n:Str):Expr:=.Call (.Name n (xp (x1 e))) [.Name "pen" (xp (l1 (xl e)))] [] (xp e)
theorem adA:ZH (sI 154 1):=⟨(ei5 (l1 qH) (l2 qH) (l2 qH.tail) (xp (vs (sI 154 1)).v) ((vs (sI 154 1)).p) ⟨by kernel_rfl,⟨(jU _ _ _ (by kernel_rfl:l1 qH=ca (l1 qH) aE.name))⟩,⟨(jU _ _ _ (by kernel_rfl:l2 qH=ca (l2 qH) aJ.name))⟩,⟨(jU _ _ _ (by kernel_rfl:l2 qH.tail=ca (l2 qH.tail) aE.name))⟩⟩)⟩
noncomputable def RZ:List S:=[dP kB.body 0]
theorem ZI:(dW 154).b=(dW 154).b.take 1++[sI 154 1]∧∀K':Ct,cS K'→K'.io=none→rQ K' (dO 154).names (kB.vars.map some) RZ ((dW 154).b.take 1):=⟨by kernel_rfl,fun K' HC hio=>sJ (prA HC false (fun _=>hio) (dO 154).names (kB.vars.map some) RZ ((dW 154).b.take 1)) (by kernel_rfl)⟩
theorem g91:jX (dO 154).names aE.name=true:=by kernel_rfl
theorem g92:jX (dO 154).names aJ.name=true:=by kernel_rfl
theorem aiL:kB.vars.map (fun x=>(dO 154).names.lookup x)=[some .local,some .local]:=by kernel_rfl
theorem JO (l:List Int):∃S,wK (l.map .int)=some S:=by
 induction l with
 |nil=>exact ⟨0,rfl⟩
 |cons a l ih=>
  obtain ⟨S,h⟩:=ih
  exact ⟨a+S,by rw [List.map_cons,wK,h];rfl⟩
theorem SA (l:List Int)(hl:l.length≤1000):∃sl,mE sl 37∧aW (aX 1) glb RZ Fm [.v (.lst (l.map .int)),.un] some (fun _ _=>none)=some [.v (.lst (l.map .int)),.l sl]:=by
 refine aT (JO (l.take 40)) fun S hS=>?_
 have h40:(l.take 40).length≤40:=List.length_take_le _ _
 have hm:((l.take 40).map V.int).length≤40:=by rw [List.length_map];exact h40
 have hc:nT (.lst (l.map .int)) (.int 40)=some (.lst ((l.take 40).map .int)):=by
  refine (if_pos ⟨by decide,?_⟩).trans (by rw [List.map_take];rfl)
  rw [List.length_map];exact Nat.le_trans hl (by decide)
 refine ⟨[.lst ((l.take 40).map .int),.int (.ofNat 0),.int (Int.fmod S 997)],(jU _ 0 _ ⟨rfl,h40,by decide⟩),?_⟩
 refine (?_:(nT (.lst (l.map .int)) (.int 40)).bind _=_)
 rw [hc]
 refine (?_:cond (Nat.ble ((l.take 40).map V.int).length 1000) ((nT (.lst (l.map .int)) (.int 40)).bind _) none=_)
 rw [eN (Nat.le_trans hm (by decide)),hc]
 refine (?_:cond (Nat.ble ((l.take 40).map V.int).length mH) ((wK ((l.take 40).map V.int)).bind _) none=_)
 rw [eN (Nat.le_trans hm (by decide)),hS]
 refine (?_:pG (Int.fmod S 997) (fun z=>some [aF.v (.lst (l.map .int)),.l [.lst ((l.take 40).map .int),.int (.ofNat 0),.int z]])=_)
 rw [hG]
theorem fH.le {A:Around}{d e:Nat}(h:fH A e)(l:d≤e):fH A d:=⟨h.handled,Nat.le_trans (Nat.add_le_add_left l _) h.depth,Nat.le_trans (Nat.add_le_add_right (Nat.add_le_add_left (Nat.mul_le_mul_left _ l) _) _) h.units⟩
section
variable {K:Ct}{C:Addr}{t1 t2:iO}{c1 c2:Addr}
theorem AY.at (H:AY K C t1 t2 c1 c2){A:Around}{hh hu}{D:CF}{N:Nat}{io:Option Addr}:AY (K.at A hh hu D N io) C t1 t2 c1 c2:=
 ⟨H.T,H.ne,H.fn,H.cas,H.told,⟨H.l1.d,⟨H.l1.lam.hd,H.l1.lam.ne,H.l1.lam.bi,H.l1.lam.qual⟩⟩,H.p1,⟨H.l2.d,⟨H.l2.lam.hd,H.l2.lam.ne,H.l2.lam.bi,H.l2.lam.qual⟩⟩,H.p2,H.d82,H.d80,H.d81⟩
structure GX {ns:fJ}{Γ:eO}(B:eA K ns Γ)(L a:Addr)(x:V):Prop where
 pls:∀p∈B.pls,∃y,p=.loc L y
 out:∀b,B.out b→b<K.N
 io:K.io=none
 fr:K.A.frames=some [B.env]
 frame:B.env.frame=some L
 hL:K.N≤L
structure wF {ns:fJ}{Γ:eO}(B:eA K ns Γ)(σ:Pt)(a:Addr)(m:Nat):Prop where
 S:gZ B.toBs σ
 own:σ.own[1]? =some (some a)
 on:∀b,some b∈σ.own→b=a
 pen:∃sl,σ.ρ[1]? =some (.l sl)∧mE sl m
theorem yM {ns:fJ}{Γ:eO}{B:eA K ns Γ}{L a:Addr}{x:V}{m:Nat}(F:GX B L a x){σ:Pt}(T:wF B σ a m):GV K σ.s.heap [B.env] [L] a:=by
 have hp:∃y,Pl.loc L y∈B.pls:=by
  cases e:B.pls with
  |nil=>exact absurd e B.ne
  |cons p l=>
   refine aT (F.pls p (e▸.head _)) fun y q=>?_
   exact ⟨y,q▸.head _⟩
 refine iJ fun gG gH=>?_;refine aT hp fun y hp=>?_
 have hns:∃m,σ.s.heap.Ns L m:=T.S.plLive hp
 refine aD T.pen fun sl hρ _=>?_
 refine bY (T.S.get hρ) fun p oa q1 q2 k=>?_
 rw [T.own] at q2;cases q2
 refine aG k fun _ am2=>?_;obtain ⟨vs,n,hg,_⟩:=am2
 refine gH ?_;refine ⟨F.fr,fun env he=>?_,fun env he b e=>?_,fun l hl=>?_⟩
 ·rw [List.mem_singleton] at he
  subst he
  refine aT hns fun m n=>?_
  exact ⟨by refine (Eq.symm B.ok.kind)▸?_;decide,L,m,F.frame,n⟩
 ·rw [List.mem_singleton] at he
  subst he
  rw [F.frame] at e;cases e;exact .head _
 ·rw [List.mem_singleton] at hl
  subst hl
  refine ⟨fun t=>(B.pl _ hp).2 (B.tbN _ t).2.1,fun e=>AT hns hg nofun e.symm,?_,hns⟩
  cases q:K.cx.bs.get? l with
  |none=>rfl
  |some o=>exact absurd (B.bas _ _ q).1 (Nat.not_lt.mpr (B.pl _ hp).1)
theorem uC {ns:fJ}{Γ:eO}{B:eA K ns Γ}{L a:Addr}{x:V}{m m':Nat}(F:GX B L a x){σ:Pt}(T:wF B σ a m){h':Heap}{tk:Nat}(P:lV K σ.s.heap (Xs B.toBs σ.own) a [L] m' h'):
  ∃σ',wF B σ' a m'∧σ'.s={σ.s with heap:=h',toks:=tk}∧σ'.own=σ.own:=by
 refine aD T.pen fun sl hρ _=>?_
 refine aD (RY (tk:=tk) T.S F.pls F.out F.io T.own hρ T.on P) fun sl' hp S'=>?_
 exact ⟨_,⟨S',T.own,T.on,sl',List.getElem?_set_self (List.getElem?_eq_some_iff.mp hρ).1,hp⟩,rfl,rfl⟩
theorem XL {ns:fJ}{Γ:eO}{B:eA K ns Γ}{L a:Addr}{x:V}(H:AY K C t1 t2 c1 c2)(RM:fH K.A 62)(g1:jX ns aE.name=true)(g2:jX ns aJ.name=true)(hΓ:Γ[1]? =some (some ("pen":Str))) (F:GX B L a x) {σ:Pt} (T:wF B σ a 37) {st:Stmt} (RA:ZH st)
  {Q:Flow→Shared→Prop} {E:Value→Shared→Prop} (h:∀σ',wF B σ' a 0→Up σ.s σ'.s→σ'.own=σ.own→(∀b o,σ.s.heap.get? b=some o→¬K.T.tb b→b≠a→b≠L→σ'.s.heap.get? b=some o)→Q (.ret (.bool true)) σ'.s):wpAny K.M K.A (exec st B.env) Q E σ.s:=by
 refine adX RA.ex fun e1 e2 e3 p1 p2 am3 A1 A2 A3=>?_;subst am3
 have kp:∀{σ:Pt} {m:Nat} {h':Heap},lV K σ.s.heap (Xs B.toBs σ.own) a [L] m h'→∀b o,σ.s.heap.get? b=some o→¬K.T.tb b→b≠a→b≠L→h'.get? b=some o:=fun P b o g n1 n2 n3=>P.keep b o g n1 n2 fun q=>n3 (List.mem_singleton.mp q)
 refine aD T.pen fun sl hρ hp=>?_
 refine wpAny_Return_some (BoolOp_and (yL (L:=L) A1 (f:=91) rfl g1 hΓ T.S T.own hρ (m:=25) (fun fa hm pre ho R hR=>RW H RM pre ho hp (yM F T) hm hR) fun h1 tk1 P1=>wpAny_truthy_bool ?_))
 refine iA (uC (tk:=tk1) F T P1) fun σ1 T1 s1 o1=>?_
 refine aD T1.pen fun sl1 hρ1 hp1=>?_
 refine (Eq.symm (if_pos rfl))▸?_;refine s1▸?_
 refine BoolOp_and (yL (L:=L) A2 (f:=92) rfl g2 hΓ T1.S T1.own hρ1 (m:=12) (fun fa hm pre ho R hR=>ac9 H RM pre ho hp1 (yM F T1) hm hR) fun h2 tk2 P2=>wpAny_truthy_bool ?_)
 refine iA (uC (tk:=tk2) F T1 P2) fun σ2 T2 s2 o2=>?_
 refine aD T2.pen fun sl2 hρ2 hp2=>?_
 refine (Eq.symm (if_pos rfl))▸?_;refine s2▸?_
 refine BoolOp_one (yL (L:=L) A3 (f:=91) rfl g1 hΓ T2.S T2.own hρ2 (m:=0) (fun fa hm pre ho R hR=>RW H RM pre ho hp2 (yM F T2) hm hR) fun h3 tk3 P3=>?_)
 refine iA (uC (tk:=tk3) F T2 P3) fun σ3 T3 s3 o3=>?_
 refine s3▸?_
 have e1:σ1.s.heap=h1:=by exact (Eq.symm s1)▸rfl
 have e2:σ2.s.heap=h2:=by exact (Eq.symm s2)▸rfl
 have e3:σ3.s.heap=h3:=by exact (Eq.symm s3)▸rfl
 refine h σ3 T3 ?_ (o3.trans (o2.trans o1)) fun b o g n1 n2 n3=>?_
 ·unfold Up
  refine (Eq.symm s3)▸?_;refine (Eq.symm s2)▸?_;exact (Eq.symm s1)▸rfl
 ·refine (Eq.symm e3)▸?_
  exact kp P3 b o (by refine (Eq.symm e2)▸?_;exact kp P2 b o (by refine (Eq.symm e1)▸?_;exact kp P1 b o g n1 n2 n3) n1 n2 n3) n1 n2 n3
theorem XM (H:AY K C t1 t2 c1 c2)(RM:fH K.A 64)(hfr:K.A.frames=some []){fa:Addr}(FA:mC K.cx.bs K.cx.mg kB.name (lU 154) (dW 154).b (dO 154) fa){s:Shared}{out:Addr→Prop}(pre:dX K s.heap out none){v:Value}{l:List Int}(hl:l.length≤1000)(hv:Rp K.w.params (go s.heap out) v (.lst (l.map .int)))
  {R:Result→Shared→Prop} (h:∀h' tk,(∀b o,s.heap.get? b=some o→¬K.T.tb b→h'.get? b=some o)→(K.T.inv fun b o=>h'.get? b=some o∧(K.T.tb b∨¬out b))→R (.ok (.ret (.bool true))) {s with heap:=h',toks:=tk}):codeAny K.M K.A (.call (.ref fa) ⟨[v],[]⟩) R s:=by
 refine jQ (io:=none) (slots:=[.v (.lst (l.map .int))]) RM.dl FA aiA.2 rfl pre ⟨[_],rfl,bP.cons hv bP.nil⟩ (aX 1) (fun env=>⟨RM.handled,(RM.deeper env).hu⟩) fun cd _ B σ EN=>?_
 have RI:=RM.deeper (envOfC kB.name (dO 154) s.heap.objs.size fa cd)
 have hC:cS (K.at (K.A.deeper (envOfC kB.name (dO 154) s.heap.objs.size fa cd)) RM.handled RI.hu (aX 1) s.heap.objs.size none):=yF 1 H.fn (RI.le (by decide)) rfl
 refine aD (SA l hl) fun sl hp ev=>?_
 refine (Eq.symm ZI.1)▸?_
 refine tZ (ZI.2 _ hC rfl) EN.S (by rw [EN.ρ];exact ev) fun σ2 G2 k2=>?_
 have hρ:σ2.ρ=[.v (.lst (l.map .int)),.l sl]:=Option.some.inj k2
 have e1:σ2.ρ[1]? =some (.l sl):=by refine (Eq.symm hρ)▸?_;rfl
 refine bY (G2.S.get e1) fun p oa q1 q2 k=>?_
 obtain ⟨a,rfl⟩:∃a,oa=some a:=by
  cases oa with
  |none=>exact k.elim
  |some a=>exact ⟨a,rfl⟩
 have on:∀b,some b∈σ2.own→b=a:=fun b hb=>by
  refine aT (List.mem_iff_getElem?.mp hb) fun i hi=>?_
  have hlt:=(List.getElem?_eq_some_iff.mp hi).1
  rw [G2.S.lenO,hρ] at hlt
  match i,hlt,hi with
  |0,_,hi=>
   refine bY (G2.S.get (i:=0) (sl:=.v (.lst (l.map .int))) (by refine (Eq.symm hρ)▸?_;rfl)) fun p' oa' r1 r2 k'=>?_
   rw [hi] at r2;cases r2
   exact k'.2.elim
  |1,_,hi=>rw [q2] at hi;cases hi;rfl
 have hpl:∀p∈B.pls,∃y,p=.loc s.heap.objs.size y:=fun p hp=>by
  rw [EN.pls] at hp
  refine aD (List.mem_map.mp hp) fun x hx am4=>?_;subst am4
  have:(dO 154).names.lookup x=some .local:=by
   have hx':=List.mem_map_of_mem (f:=fun x=>(dO 154).names.lookup x) hx
   rw [aiL] at hx'
   simpa using hx'
  exact ⟨x,if_pos this⟩
 have T:wF B σ2 a 37:=⟨G2.S,q2,on,sl,e1,hp⟩
 have F:GX B s.heap.objs.size a (.none):=⟨hpl,fun b x=>pre.lt (EN.out▸x),rfl,by refine (Eq.symm EN.env)▸?_;exact Around.frames_deeper hfr,by refine (Eq.symm EN.env)▸?_;rfl,Nat.le_refl _⟩
 refine wpAny_execs_cons (XL H.at (RI.le (by decide)) g91 g92 rfl F T adA fun σ3 T3 u3 o3 kp=>?_)
 have hN:∀b o,s.heap.get? b=some o→b<s.heap.objs.size:=fun b o g=>Heap.lt_size g
 have ha:s.heap.objs.size≤a:=by
  rcases G2.S.ow 1 a q2 with ⟨w,_⟩|⟨w,_⟩
  ·exact w
  ·exact absurd w (by decide)
 have kk:∀b o,s.heap.get? b=some o→¬K.T.tb b→σ2.s.heap.get? b=some o:=fun b o g t=>G2.w.k b o (EN.keep b o g) t (fun ⟨p,hp,e⟩=>absurd (hN b o g) (Nat.not_lt.mpr (e▸(B.pl p hp).1))) fun m=>by
  rw [EN.own] at m
  exact (List.mem_cons.mp m).elim (fun e=>nomatch e) fun m=>nomatch (List.mem_replicate.mp m).2
 have:=h σ3.s.heap σ3.s.toks (fun b o g t=>kp b o (kk b o g t) t (fun e=>absurd (hN b o g) (Nat.not_lt.mpr (e▸ha))) fun e=>absurd (hN b o g) (Nat.not_lt.mpr (Nat.le_of_eq e.symm))) (K.T.mono _ _ (fun b o g=>⟨g.1,g.2.imp id fun n x=>n (.inl (EN.out▸x))⟩) T3.S.ti)
 refine (Eq.symm (show σ3.s={s with heap:=σ3.s.heap,toks:=σ3.s.toks} from (EN.up.trans G2.u).trans u3))▸?_
 exact this
end
noncomputable def hid:List Addr:=[843,836,1]
noncomputable def AZ (h:Heap):Heap:=hideAll h hid
theorem kT {h:Heap}{a:Addr}{o:Obj}(g:h.get? a=some o)(n:hid.contains a=false):(AZ h).get? a=some o:=hideAll_get _ g fun m=>by rw [List.contains_iff_mem.mpr m] at n;cases n
theorem SB {h:Heap}{a:Addr}{o:Obj}(g:(AZ h).get? a=some o):h.get? a=some o∧hid.contains a=false:=⟨of_hideAll _ g,by
 cases e:hid.contains a with
 |false=>rfl
 |true=>exact nomatch g.symm.trans (hideAll_none hid (List.contains_iff_mem.mp e))⟩
noncomputable def hZ (K:Frag)(a:Addr):Obj:=(K.lookup a).getD (tabObj #[])
noncomputable def BA (v:Value):Addr:=match v with
 |.ref a=>a
 |_=>0
noncomputable def mX (K:Frag)(x:Str):Addr:=match nsIn K mainGlobals x with
 |some (some v)=>BA v
 |_=>0
noncomputable def XN (o:Obj):FuncData:=match o.data with
 |.func fd=>fd
 |_=>Calls.docDef "" ⟨[],[],none,[],[],none,[]⟩ [] ⟨.function,[],false,false,[]⟩ .none .none .none
noncomputable def kFs (o:Obj):Array Value:=match o.data with
 |.fields vs=>vs
 |_=> #[]
noncomputable def aiM (o:Obj):List Value:=match o.data with
 |.seq vs _=>vs.toList
 |_=>[]
noncomputable def JP (v:Value):Nat:=match v with
 |.str _ t=>t
 |.int _ t=>t
 |_=>0
noncomputable def kCd (o:Obj):ClassData:=match o.data with
 |.cls c=>c
 |_=>⟨"",[],[],0,"",true,[],[],false,none,false⟩
noncomputable def cdL (K:Frag)(f c:Addr):Value×Option Obj×Data×Bool×Bool:=((XN (hZ K f)).code,K.lookup c,(hZ K c).data,hid.contains f,hid.contains c)
noncomputable def cdR (K:Frag)(f c:Addr):Value×Option Obj×Data×Bool×Bool:=(.ref c,some (hZ K c),.fields (kFs (hZ K c)),false,false)
noncomputable def kC (K:Frag)(f:Addr):Addr:=BA (XN (hZ K f)).code
noncomputable def kQ (K:Frag)(c:Addr):Option Value:=(kFs (hZ K c))[1]?
noncomputable def fnL (K:Frag)(x:Str)(S:Scope):(Option (Option Value)×Option Obj×Data)×(Value×Option Obj×Data×Bool×Bool)×Option Value×Bool×Bool×ScopeKind:=
 ((nsIn K mainGlobals x,K.lookup (mX K x),(hZ K (mX K x)).data),cdL K (mX K x) (kC K (mX K x)),kQ K (kC K (mX K x)),S.isCoroutine,S.isGenerator,S.kind)
noncomputable def fnR (K:Frag)(x:Str)(p:Arguments)(b:List Stmt)(S:Scope):(Option (Option Value)×Option Obj×Data)×(Value×Option Obj×Data×Bool×Bool)×Option Value×Bool×Bool×ScopeKind:=
 ((some (some (.ref (mX K x))),some (hZ K (mX K x)),.func (Calls.docDef x p b S (XN (hZ K (mX K x))).pyModule (XN (hZ K (mX K x))).code (XN (hZ K (mX K x))).doc)),cdR K (mX K x) (kC K (mX K x)),some (.str x (JP ((kQ K (kC K (mX K x))).getD .none))),false,false,.function)
section
variable {K:Frag}{h:Heap}{mg:Str→Option Value}{x:Str}{p:Arguments}{b:List Stmt}{S:Scope}
theorem SC {f c:Addr}{q:Str}{t:Nat}(X:K.In h)(e:cdL K f c=cdR K f c)(hq:kQ K c=some (.str q t)):(AZ h).CodeRec (XN (hZ K f)).code q∧hid.contains f=false:=by
 refine iJ fun gG gH=>?_;refine aG (Prod.mk.inj e) fun e1 e=>?_
 refine aG (Prod.mk.inj e) fun e2 e=>?_
 refine aG (Prod.mk.inj e) fun e3 e=>?_
 refine aG (Prod.mk.inj e) fun e4 e5=>?_
 refine gH ?_;exact ⟨(EG c _ _ t ⟨e1,kT (X _ _ e2) e5,e3,hq⟩),e4⟩
theorem GY (X:K.In h)(G:h.Ns mainGlobals mg)(e:fnL K x S=fnR K x p b S):mC (AZ h) mg x p b S (mX K x):=by
 obtain ⟨⟩:=Prod.mk.inj e
 rename_i ea e
 refine iJ fun gG gH=>?_;refine aG (Prod.mk.inj ea) fun e1 ea=>?_
 refine aG (Prod.mk.inj ea) fun e2 e3=>?_
 refine aG (Prod.mk.inj e) fun ec e=>?_
 refine aG (Prod.mk.inj e) fun eq e=>?_
 refine aG (Prod.mk.inj e) fun s1 e=>?_
 refine aG (Prod.mk.inj e) fun s2 s3=>?_
 refine aG (SC X ec eq) fun r n=>?_
 refine gH ?_;exact ⟨mg_of X G e1,(EG _ _ _ _ ⟨kT (X _ _ e2) n,e3,r⟩),s1,s2,s3⟩
theorem XO (X:K.In h)(e:fnL K x S=fnR K x p b S):∀o pm cd doc,(AZ h).get? (mX K x)=some o→o.data=.func (Calls.docDef x p b S pm cd doc)→cd=.ref (kC K (mX K x)):=fun o pm cd doc g d=>by
 obtain ⟨⟩:=Prod.mk.inj e
 rename_i ea e
 refine aG (Prod.mk.inj ea) fun e1 ea=>?_
 refine aG (Prod.mk.inj ea) fun e2 e3=>?_
 refine aG (Prod.mk.inj e) fun ec e=>?_
 have e4:=(Prod.mk.inj ec).1
 rw [Option.some.inj ((SB g).1.symm.trans (X _ _ e2)),e3] at d
 injection d with d
 have d:=congrArg FuncData.code d
 exact d.symm.trans e4
end
noncomputable def jl:List (Nat×Fn):=[(3,rA),(10,rB),(11,nU),(12,nV),(13,nW),(14,nY),(15,nZ),(16,oA),(17,jI),(18,fZ),(22,iC),(23,oB),(24,gA),(25,cX),(26,oE),(27,cY),(28,iD),(30,cZ),(32,eV),(33,cD),(34,eW),(36,sQ),(37,oF),(39,lL),(40,oG),(41,gB),(44,eE),(45,oH),(47,gC),(48,oJ),(52,dA),(54,jJ),(55,jK),(56,mK),(57,oK),(58,iX),(59,gD),(60,jL),(61,oM),(65,eX),(66,iE),(68,gE),(69,gR),(70,dJ),(71,eB),(76,dK),(77,eG),(78,gI),(79,eY),(80,kA),(85,lM),(86,lN),(87,lO),(88,jM),(89,lP),(90,iF),(91,jN),(92,jO),(93,dB),(96,dC),(97,cJ),(98,dD),(99,dS),(100,bR),(101,dE),(102,bS),(103,cP),(104,cE),(105,cQ),(106,dF),(107,eH),(117,dT),(118,cF),(119,dU),(120,cU),(121,cK),(122,gJ),(123,bI),(124,gK),(134,cR),(138,bK),(139,bX),(140,bJ),(143,gM),(144,eZ),(145,gN),(146,eI),(147,gO),(148,dL),(149,eJ),(150,aV),(152,aE),(153,aJ),(154,kB)]
theorem adB:jl.map (·.2)=rS:=rfl
inductive JQ {α:Type}(P:α→Prop):List α→Prop
 |nil:JQ P []
 |cons {a l}:P a→JQ P l→JQ P (a::l)
theorem JQ.mem {α:Type}{P:α→Prop}{l:List α}(h:JQ P l):∀a∈l,P a:=by
 induction h with
 |nil=>exact fun _ m=>nomatch m
 |cons p _ ih=>exact fun a m=>(List.mem_cons.mp m).elim (fun e=>e▸p) (ih a)
theorem aiN:JQ (fun p=>aS p.1 p.2) jl:=.cons fo0 (.cons fo1 (.cons fo2 (.cons fo3 (.cons fo4 (.cons fo5 (.cons fo6 (.cons fo7 (.cons fo8 (.cons fo9 (.cons aqU (.cons aqV (.cons aqW (.cons aqX (.cons aqY (.cons aqZ (.cons aq0 (.cons aq1 (.cons aq2 (.cons aq3 (.cons aq4 (.cons aq5 (.cons aq6 (.cons aq7 (.cons aq8 (.cons aq9 (.cons arA (.cons arB (.cons arC (.cons arD (.cons arE (.cons arF (.cons arG (.cons arH (.cons arI (.cons arJ (.cons arK (.cons arL (.cons arM (.cons arN (.cons arO (.cons arP (.cons arQ (.cons arR (.cons arS (.cons arT (.cons arU (.cons arV (.cons arW (.cons arX (.cons arY (.cons arZ (.cons ar0 (.cons ar1 (.cons ar2 (.cons ar3 (.cons ar4 (.cons ar5 (.cons ar6 (.cons ar7 (.cons ar8 (.cons ar9 (.cons asA (.cons asB (.cons asC (.cons asD (.cons asE (.cons asF (.cons asG (.cons asH (.cons asI (.cons asJ (.cons asK (.cons asL (.cons asM (.cons asN (.cons asO (.cons asP (.cons asQ (.cons asR (.cons ah5 (.cons ah6 (.cons ah7 (.cons asS (.cons asT (.cons asU (.cons asV (.cons asW (.cons asX (.cons asY (.cons asZ (.cons ah8 (.cons ah9 (.cons aiA (.nil))))))))))))))))))))))))))))))))))))))))))))))))))))))))))))))))))))))))))))))))))))))))))))))
noncomputable def aiO (K:Frag):=jl.map fun p=>fnL K p.2.name (dO p.1)
noncomputable def aiP (K:Frag):=jl.map fun p=>fnR K p.2.name (lU p.1) (dW p.1).b (dO p.1)
theorem yN {K:Frag}{h:Heap}{mg:Str→Option Value}(X:K.In h)(G:h.Ns mainGlobals mg)(e:aiO K=aiP K):∀p∈jl,mC (AZ h) mg p.2.name (lU p.1) (dW p.1).b (dO p.1) (mX K p.2.name)∧uQ p.2 (lU p.1) (dW p.1).b (dO p.1)∧
  ∀o pm cd doc,(AZ h).get? (mX K p.2.name)=some o→o.data=.func (Calls.docDef p.2.name (lU p.1) (dW p.1).b (dO p.1) pm cd doc)→cd=.ref (kC K (mX K p.2.name)):=fun p hp=>
 have q:=ml e p hp
 ⟨GY X G q,(aiN.mem p hp).2,XO X q⟩
theorem ZJ {f:Nat}{fn:Fn}(e:rS[f]? =some fn):∃j,(j,fn)∈jl:=by
 rw [←adB,List.getElem?_map] at e
 refine aD (Option.map_eq_some_iff.mp e) fun am5 h q=>?_;obtain ⟨j,fn'⟩:=am5
 cases q
 exact ⟨j,List.mem_of_getElem? h⟩
abbrev Clm:=(Value×Option Obj×Bool)×(Value×Option Obj×Bool)
noncomputable def noC:List Clm:=[((.none,none,false),(.none,none,true))]
noncomputable def cls (f:V→Value→List Clm):List V→List Value→List Clm
 |[],vs=>match vs with
  |[]=>[]
  |_::_=>noC
 |y::l,vs=>match vs with
  |[]=>noC
  |w::ws=>f y w++cls f l ws
noncomputable def cl (K:Frag)(n:Nat):V→Value→List Clm:=Nat.rec (motive:=fun _=>V→Value→List Clm) (fun _ _=>noC) (fun _ ih x v=>match x with
 |.int i=>[((v,none,true),(.int i (JP v),none,true))]
 |.str m=>[((v,none,Nat.blt m 27),(.str (nm m) (JP v),none,true))]
 |.tup l=>((v,K.lookup (BA v),hid.contains (BA v)),(.ref (BA v),some (yV (aiM (hZ K (BA v)))),false))::cls ih l (aiM (hZ K (BA v)))
 |_=>noC) n
def XP (l:List Clm):Prop:=∀p∈l,p.1=p.2
theorem yO:¬XP noC:=fun h=>nomatch (Prod.mk.inj (Prod.mk.inj (h _ (.head _))).2).2
section
variable {K:Frag}{h:Heap}{P:Params}
theorem SD {f:V→Value→List Clm}(ok:∀x v,XP (f x v)→Rp P (gh (AZ h)) v x):∀l vs,XP (cls f l vs)→bP P (gh (AZ h)) vs l
 |[],[],_=>bP.nil
 |[],_::_,q=>absurd q yO
 |_::_,[],q=>absurd q yO
 |y::l,w::ws,q=>bP.cons (ok y w fun p m=>q p (List.mem_append_left _ m)) (SD ok l ws fun p m=>q p (List.mem_append_right _ m))
theorem aiR (X:K.In h):∀n x v,XP (cl K n x v)→Rp P (gh (AZ h)) v x:=fun n=>by
 induction n with
 |zero=>exact fun x v q=>absurd q yO
 |succ n ih=>
  intro x v q
  cases x with
  |int i=>exact ⟨_,(Prod.mk.inj (q _ (.head _))).1⟩
  |str m=>
   refine aG (Prod.mk.inj (q _ (.head _))) fun e1 e2=>?_
   exact ⟨Nat.blt_eq.mp (Prod.mk.inj e2).2,_,e1⟩
  |tup l=>
   refine aG (Prod.mk.inj (q _ (.head _))) fun e1 e2=>?_
   refine aG (Prod.mk.inj e2) fun e2 e3=>?_
   exact (bW _ _ ⟨e1,kT (X _ _ e2) e3,SD ih l _ fun p m=>q p (.tail _ m)⟩)
  |_=>exact absurd q yO
noncomputable def adD (K:Frag)(x:Str):Value:=match nsIn K mainGlobals x with
 |some (some v)=>v
 |_=>.none
noncomputable def gz:List (Str×V):=mJ.zip glb
noncomputable def glL (K:Frag):=gz.map fun p=>(nsIn K mainGlobals p.1,(cl K 6 p.2 (adD K p.1)).map (·.1))
noncomputable def glR (K:Frag):=gz.map fun p=>(some (some (adD K p.1)),(cl K 6 p.2 (adD K p.1)).map (·.2))
theorem XQ {mg:Str→Option Value}(X:K.In h)(G:h.Ns mainGlobals mg)(e:glL K=glR K)(i:Nat)(x:Str)(v:V)(hx:mJ[i]? =some x)(hv:glb[i]? =some v):∃pv,mg x=some pv∧Rp P (gh (AZ h)) pv v:=by
 have m:(x,v)∈gz:=List.mem_of_getElem? (i:=i) (by rw [gz,List.getElem?_zip_eq_some];exact ⟨hx,hv⟩)
 refine aG (Prod.mk.inj (ml e _ m)) fun e1 e2=>?_
 exact ⟨_,mg_of X G e1,aiR X 6 v _ fun p hp=>ml e2 p hp⟩
noncomputable def ZK (K:Frag):Obj:=hZ K (mX K "RANKS")
noncomputable def SN (o:Obj):List DictEntry×Nat:=match o.data with
 |.dict es n=>(es.toList,n)
 |_=>([],0)
noncomputable def rkN:List Nat:=[0,1,2,3,4,5]
noncomputable def rkI (n:Nat):Int:=([4,0,2,3,5,1]:List Int).getD n 0
noncomputable def SE (e:DictEntry):Nat:=JP e.key
noncomputable def XR (e:DictEntry):Str:=match e.key with
 |.str s _=>s
 |_=>""
noncomputable def rkL (K:Frag):=(nsIn K mainGlobals "RANKS",K.lookup (mX K "RANKS"),hid.contains (mX K "RANKS"),(SN (ZK K)).1,rkN.map fun n=>findBy Value.isStrOf (SN (ZK K)).1.toArray (nm n))
noncomputable def rkR (P:Params)(K:Frag):=((some (some (.ref (mX K "RANKS"))):Option (Option Value)),(some ({cls:=.type "dict",data:=.dict (SN (ZK K)).1.toArray (SN (ZK K)).2}:Obj)),false,(SN (ZK K)).1.map fun e=>({hash:=PyData.keyHash P (XR e),key:=.str (XR e) (SE e),val:=e.val}:DictEntry),
 rkN.map fun n=>(some (.int (rkI n) (JP ((findBy Value.isStrOf (SN (ZK K)).1.toArray (nm n)).getD .none))):Option Value))
theorem JR:∀{n:Nat} {v:Int},EJ (.str n)=some (.int v)→n∈rkN∧v=rkI n
 |0,_,q=>by cases q;exact ⟨by decide,rfl⟩
 |1,_,q=>by cases q;exact ⟨by decide,rfl⟩
 |2,_,q=>by cases q;exact ⟨by decide,rfl⟩
 |3,_,q=>by cases q;exact ⟨by decide,rfl⟩
 |4,_,q=>by cases q;exact ⟨by decide,rfl⟩
 |5,_,q=>by cases q;exact ⟨by decide,rfl⟩
 |n+6,_,q=>by cases q
theorem aiS {mg:Str→Option Value}{prog:Program}{w:World}(X:K.In h)(G:h.Ns mainGlobals mg)(e:rkL K=rkR w.params K):∃a f,mg "RANKS"=some (.ref a)∧(AZ h).MapOf (PySem.strKind prog w) a f∧∀n v,EJ (.str n)=some (.int v)→∃t,f (nm n)=some (.int v t):=by
 refine iJ fun gG gH=>?_;refine aG (Prod.mk.inj e) fun e1 e=>?_
 refine aG (Prod.mk.inj e) fun e2 e=>?_
 refine aG (Prod.mk.inj e) fun e3 e=>?_
 refine aG (Prod.mk.inj e) fun e4 e5=>?_
 refine gH ?_;refine (bW _ (findBy Value.isStrOf (SN (ZK K)).1.toArray) ⟨mg_of X G e1,(jU _ _ _ ⟨kT (X _ _ e2) e3,⟨rfl,rfl,rfl⟩,rfl,fun d hd=>?_,fun _=>rfl⟩),fun n v q=>?_⟩)
 ·have hd':d∈(SN (ZK K)).1:=by simpa using hd
  rw [e4] at hd'
  refine aD (List.mem_map.mp hd') fun d' _ am7=>?_;subst am7
  exact ⟨XR d',by simp [PySem.strKind,Value.isStrOf],rfl⟩
 ·refine aG (JR q) fun hn am8=>?_;subst am8
  exact ⟨_,ml e5 n hn⟩
end
section
variable {K:Frag}{h:Heap}{mg mb:Str→Option Value}{w:World}
theorem SG {a:Addr}{m:Str→Option Value}(n:h.Ns a m)(e:hid.contains a=false):(AZ h).Ns a m:=by
 refine mG n fun o es ep g r=>?_
 exact (jU o es ep ⟨kT g e,r⟩)
noncomputable def yP (K:Frag):Addr:=mX K "CasFail"
noncomputable def pC (K:Frag):ClassData:=kCd (hZ K (yP K))
noncomputable def SI (K:Frag)(i:Nat):Option Value:=((hZ K (yP K)).slots[i]?).getD none
noncomputable def BB (K:Frag):List DictEntry:=(SN (hZ K (pC K).ns)).1
noncomputable def pD (K:Frag):Addr:=BA ((nsFind (BB K).toArray "__init__").getD .none)
noncomputable def cdB (st:Stmt):List Stmt:=(vs st).b
noncomputable def BC:Vs:=vs (hdS (cdB (PySem.Challenge.pw_pf0067_01.main.body.getD 1 (.Pass p0))))
noncomputable def aiT:Arguments:=(BC.f.map (·.1)).getD ⟨[],[],none,[],[],none,[]⟩
noncomputable def adE:Scope:=(BC.f.map (·.2)).getD ⟨.function,[],false,false,[]⟩
noncomputable def e0:Expr:=(vs (BC.b.getD 0 (.Pass p0))).v
noncomputable def e1:Stmt:=BC.b.getD 1 (.Pass p0)
noncomputable def e2:Stmt:=BC.b.getD 2 (.Pass p0)
noncomputable def e01:Expr:=l2 (xl e0)
theorem aiU:QU aiT BC.b adE:=⟨fun a b c body' pm cd doc=>by kernel_rfl,by kernel_rfl,by kernel_rfl,by kernel_rfl,fun x hx=>List.all_eq_true.mp (by kernel_rfl:(adE.names.all fun x=>(x.2==NameKind.cell)==false)=true) x hx|>eq_of_beq,by kernel_rfl,by kernel_rfl,by kernel_rfl,by kernel_rfl,
 ⟨xp (x1 (x1 e0)),xp (x1 e0),xp (l1 (xl e0)),xp (x1 (x1 e01)),xk (x2 (x1 e01)),xp (x2 (x1 e01)),xp (x1 e01),xp (x2 e01),xp e01,xp e0,(vs (BC.b.getD 0 (.Pass p0))).p,xp (x1 (vs e1).t),xp (vs e1).t,xp (vs e1).v,(vs e1).p,xp (x1 (vs e2).t),xp (vs e2).t,xp (vs e2).v,(vs e2).p,by kernel_rfl,by kernel_rfl⟩⟩
noncomputable def aiV (K:Frag):=(nsIn K mainGlobals "CasFail",K.lookup (yP K),hid.contains (yP K),K.lookup (pC K).ns,hid.contains (pC K).ns,(hZ K (pC K).ns).data,(BB K).map (·.key),nsFind (BB K).toArray "__init__",nQ.map (nsFind (BB K).toArray))
noncomputable def aiW (K:Frag):=((some (some (.ref (yP K))):Option (Option Value)),(some (excClassObj (pC K).name (pC K).qualname (yP K) (pC K).ns (pC K).bases qG true (pC K).slotNames (pC K).subclasses (pC K).abstract (pC K).collection (hZ K (yP K)).dict (SI K 0) (SI K 1) (SI K 2) (SI K 3) (SI K 5) "Exception.__new__"):Option Obj),false,
 some (hZ K (pC K).ns),false,Data.dict (BB K).toArray (SN (hZ K (pC K).ns)).2,(BB K).map fun e=>Value.str (XR e) (SE e),(some (.ref (pD K)):Option Value),nQ.map fun _=>(none:Option Value))
noncomputable def inL (K:Frag):=((nsIn K mainGlobals "Exception",K.lookup (pD K),(hZ K (pD K)).cls,(hZ K (pD K)).data),cdL K (pD K) (kC K (pD K)),kQ K (kC K (pD K)))
noncomputable def inR (K:Frag):=(((some none:Option (Option Value)),some (hZ K (pD K)),Value.type "function",Data.func (methDef "__init__" "CasFail.__init__" aiT BC.b adE (XN (hZ K (pD K))).pyModule (XN (hZ K (pD K))).code (XN (hZ K (pD K))).doc)),cdR K (pD K) (kC K (pD K)),(some (.str "CasFail.__init__" (JP ((kQ K (kC K (pD K))).getD .none))):Option Value))
theorem adF (X:K.In h)(G:h.Ns mainGlobals mg)(hb:mb "Exception"=some (.type "Exception")) (a:aiV K=aiW K) (b:inL K=inR K):∃N fI mN,wB (AZ h) mg mb (yP K) N fI mN:=by
 refine iJ fun gG gH=>?_;refine aG (Prod.mk.inj a) fun a1 a=>?_
 refine aG (Prod.mk.inj a) fun a2 a=>?_
 refine aG (Prod.mk.inj a) fun a3 a=>?_
 refine aG (Prod.mk.inj a) fun a4 a=>?_
 refine aG (Prod.mk.inj a) fun a5 a=>?_
 refine aG (Prod.mk.inj a) fun a6 a=>?_
 refine aG (Prod.mk.inj a) fun a7 a=>?_
 refine aG (Prod.mk.inj a) fun a8 a9=>?_
 refine aG (Prod.mk.inj b) fun b1 b=>?_
 refine aG (Prod.mk.inj b) fun b2 b3=>?_
 refine aG (Prod.mk.inj b1) fun c1 c=>?_
 refine aG (Prod.mk.inj c) fun c2 c=>?_
 refine aG (Prod.mk.inj c) fun c3 c4=>?_
 refine aG (SC X b2 b3) fun r n=>?_
 refine gH ?_;refine ⟨(pC K).ns,pD K,nsFind (BB K).toArray,(anM _ _ _ _ _ _ _ _ _ _ _ _ _ (kT (X _ _ a2) a3)),(jU _ _ _ ⟨kT (X _ _ a4) a5,a6,fun e he=>?_,fun _=>rfl⟩),a8,fun n hn=>ml a9 n hn,(ei7 _ _ _ _ _ _ _ ⟨kT (X _ _ c2) n,c3,c4,r,aiU⟩),mg_of X G a1,mg_none_of X G c1,hb⟩
 have he':e∈BB K:=by simpa using he
 exact (bW _ _ (ml a7 e he'))
noncomputable def biL (K:Frag):=(eK.map fun p=>(nsIn K mainGlobals p.1,bootBuiltins p.1,p.1==("__name__":Str)),bootBuiltins "Exception")
noncomputable def biR:=(eK.map fun p=>((some none:Option (Option Value)),some p.2,false),(some (.type "Exception"):Option Value))
noncomputable def bmL (K:Frag):=(nsIn K mainGlobals "__builtins__",hid.contains (mX K "__builtins__"),Nat.beq (mX K "__builtins__") builtinsNs,Nat.beq (mX K "__builtins__") mainGlobals)
noncomputable def bmR (K:Frag):=((some (some (.ref (mX K "__builtins__"))):Option (Option Value)),false,false,false)
theorem ZL (X:K.In h)(G:h.Ns mainGlobals mg)(e:bmL K=bmR K)(B:∃bm ob,mg "__builtins__"=some (.ref bm)∧bm≠builtinsNs∧h.get? bm=some ob∧ob.cls=.type "module"∧ob.dict=some builtinsNs∧ob.data=.plain) {P:Addr} (hP:hid.contains P=true):(AZ h).BuiltinsAt mg P:=by
 refine aG (Prod.mk.inj e) fun e1 e=>?_
 refine aG (Prod.mk.inj e) fun e6 e=>?_
 refine aG (Prod.mk.inj e) fun e7 e8=>?_
 have m:=mg_of X G e1
 refine JX B fun bm ob m' n g c1 c2 c3=>?_
 rw [m] at m'
 injection m' with m'
 injection m' with m'
 rw [←m'] at g
 exact (bW _ _ ⟨m,(fun q=>by rw [q,Nat.beq_refl] at e7;cases e7),(fun q=>by rw [q,Nat.beq_refl] at e8;cases e8),(fun q=>by rw [q,hP] at e6;cases e6),kT g e6,c1,c2,c3⟩)
theorem wG {c P:Addr}(x:CodeHd h c P)(n:hid.contains c=false):CodeHd (AZ h) c P:=by
 refine ad2 x fun o vs f tf fl tg b m tt g r=>?_
 exact (ei9 o vs f tf fl tg b m tt ⟨kT g n,r⟩)
structure KOk (P:Params)(K:Frag):Prop where
 fns:aiO K=aiP K
 told:fnL K "_law_told" (dO 151)=fnR K "_law_told" (lU 151) (dW 151).b (dO 151)
 gl:glL K=glR K
 rk:rkL K=rkR P K
 cas:aiV K=aiW K
 ini:inL K=inR K
 bi:biL K=biR
 bm:bmL K=bmR K
 hd:(codeHdIn K (kC K (mX K aE.name)) 836,codeHdIn K (kC K (mX K aJ.name)) 843,hid.contains (kC K (mX K aE.name)),hid.contains (kC K (mX K aJ.name)))=(true,true,false,false)
end
theorem i91:(152,aE)∈jl:=List.mem_of_getElem? (i:=91) rfl
theorem i92:(153,aJ)∈jl:=List.mem_of_getElem? (i:=92) rfl
theorem i93:(154,kB)∈jl:=List.mem_of_getElem? (i:=93) rfl
theorem i80:(138,bK)∈jl:=List.mem_of_getElem? (i:=80) rfl
theorem i81:(139,bX)∈jl:=List.mem_of_getElem? (i:=81) rfl
theorem i82:(140,bJ)∈jl:=List.mem_of_getElem? (i:=82) rfl
noncomputable def t91:iO:=⟨836,AX RS,aE.name++".<locals>."++"<lambda>"⟩
noncomputable def t92:iO:=⟨843,AX RT,aJ.name++".<locals>."++"<lambda>"⟩
section
variable {K:Frag}{w:World}{s:Shared}{mg mb:Str→Option Value}
structure At0 (K:Frag)(w:World)(h:Heap)(mg mb:Str→Option Value):Prop where
 X:K.In h
 ok:KOk w.params K
 g:h.Ns mainGlobals mg
 b:h.Ns builtinsNs mb
 lim:h.NoLimit
 bi:∀x:Str,x≠"__name__"→mb x=bootBuiltins x
 bm:∃bm ob,mg "__builtins__"=some (.ref bm)∧bm≠builtinsNs∧h.get? bm=some ob∧ob.cls=.type "module"∧ob.dict=some builtinsNs∧ob.data=.plain
 tb:∀P∈([843,836]:List Addr),h.get? P=some (tabObj #[])
noncomputable def aiX (prog:Program)(H:At0 K w s.heap mg mb):Cx w where
 prog:=prog
 bs:=AZ s.heap
 mg:=mg
 mb:=mb
 nsg:=SG H.g rfl
 nsb:=SG H.b rfl
 nolim:=aD H.lim fun mc n e=>⟨mc,SG n rfl,e⟩
 glob:=XQ H.X H.g H.ok.gl
 bi:=fun p hp=>by
  have q:=ml (Prod.mk.inj H.ok.bi).1 p hp
  refine aG (Prod.mk.inj q) fun q1 q=>?_
  refine aG (Prod.mk.inj q) fun q2 q3=>?_
  exact ⟨mg_none_of H.X H.g q1,(H.bi p.1 fun e=>by rw [e] at q3;cases q3).trans q2⟩
 fns:=fun f fn e=>by
  refine aT (ZJ e) fun j m=>?_
  have F:=(yN H.X H.g H.ok.fns _ m).1
  refine JZ F.obj fun o pm cd doc h1 h2 _=>?_
  exact (jU _ o _ ⟨F.there,h1,h2⟩)
 rk:=aiS H.X H.g H.ok.rk
theorem SJ {prog:Program}(H:At0 K w s.heap mg mb):lF (aiX prog H):=fun f fn e=>by
 refine aT (ZJ e) fun j m=>?_
 refine iK (yN H.X H.g H.ok.fns _ m) fun F O _=>?_
 exact (EG _ _ _ _ ⟨F,O⟩)
noncomputable def adG (prog:Program)(H:At0 K w s.heap mg mb):Ct:={w:=w,cx:=aiX prog H,T:=rR [t91,t92],A:=callerA,C:=aX 0,N:=0,io:=none,hh:=rfl,hu:=by decide}
theorem XS {prog:Program}(H:At0 K w s.heap mg mb):AY (adG prog H) (yP K) t91 t92 (kC K (mX K aE.name)) (kC K (mX K aJ.name)):=by
 refine aG (Prod.mk.inj H.ok.hd) fun d1 d=>?_
 refine aG (Prod.mk.inj d) fun d2 d=>?_
 refine aG (Prod.mk.inj d) fun d3 d4=>?_
 have F:=fun p hp=>yN H.X H.g H.ok.fns p hp
 refine ⟨rfl,by show (836:Nat)≠843;decide,SJ H,⟨adF H.X H.g ((H.bi _ (by decide)).trans (Prod.mk.inj H.ok.bi).2) H.ok.cas H.ok.ini⟩,(EG _ _ _ _ ⟨GY H.X H.g H.ok.told,AV.bind,AV.l1,AV.l2,AV.l3,AV.body⟩),
  ⟨⟨_,(F _ i91).1,(F _ i91).2.2⟩,⟨wG (codeHd_of_K H.X d1) d3,by show (3:Nat)≠836;decide,ZL H.X H.g H.ok.bm H.bm rfl,rfl⟩⟩,rfl,
  ⟨⟨_,(F _ i92).1,(F _ i92).2.2⟩,⟨wG (codeHd_of_K H.X d2) d4,by show (3:Nat)≠843;decide,ZL H.X H.g H.ok.bm H.bm rfl,rfl⟩⟩,rfl,⟨_,(F _ i82).1⟩,⟨_,(F _ i80).1⟩,⟨_,(F _ i81).1⟩⟩
theorem yQ {a:Addr}:(rR [t91,t92]).tb a↔a=836∨a=843:=⟨fun ⟨t,ht,e⟩=>by
 simp only [List.mem_cons,List.not_mem_nil,or_false] at ht
 rcases ht with rfl|rfl
 ·exact .inl e.symm
 ·exact .inr e.symm,fun q=>q.elim (fun e=>⟨t91,.head _,e.symm⟩) fun e=>⟨t92,.tail _ (.head _),e.symm⟩⟩
theorem uD {a:Addr}:a∈hid↔a=843∨a=836∨a=1:=by simp [hid]
theorem SK {prog:Program}(H:At0 K w s.heap mg mb):dX (adG prog H) s.heap (· ∈hid) none:=by
 have t1:=H.tb 843 (.head _)
 have t2:=H.tb 836 (.tail _ (.head _))
 have l1:843<s.heap.objs.size:=Heap.lt_size t1
 refine ⟨fun a o e=>⟨(SB e).1,fun m=>?_⟩,fun a m=>.inl ?_,fun a t=>?_,fun t ht=>?_,⟨uD.mpr (.inr (.inr rfl)),?_⟩,nofun⟩
 ·have:=(SB e).2
  rw [List.contains_iff_mem.mpr m] at this;cases this
 ·rcases uD.mp m with rfl|rfl|rfl
  ·exact l1
  ·exact Nat.lt_trans (by decide) l1
  ·exact Nat.lt_trans (by decide) l1
 ·rcases yQ.mp t with rfl|rfl
  ·exact ⟨uD.mpr (.inr (.inl rfl)),Nat.lt_trans (by decide) l1⟩
  ·exact ⟨uD.mpr (.inl rfl),l1⟩
 ·simp only [List.mem_cons,List.not_mem_nil,or_false] at ht
  rcases ht with rfl|rfl
  ·exact ⟨#[],⟨t2,.inl (yQ.mpr (.inl rfl))⟩,.inl rfl⟩
  ·exact ⟨#[],⟨t1,.inl (yQ.mpr (.inr rfl))⟩,.inl rfl⟩
 ·exact Nat.lt_trans (show (1:Nat)<843 by decide) l1
theorem join {prog:Program}(H:At0 K w s.heap mg mb){fa:Addr}(hm:mg "law"=some (.ref fa)) {l:List Int} (hl:l.length≤1000) {a:Addr} {vs:List Value} (ho:s.heap.get? a=some (cH vs 0)) (hv:bP w.params (fun _ _=>False) vs (l.map .int)) (ha:a≠1)
  {R:Result→Shared→Prop} (h:∀h' tk,(∀b o,s.heap.get? b=some o→b≠836→b≠843→h'.get? b=some o)→(∃ps,h'.get? 843=some (tabObj ps))→(∃ps,h'.get? 836=some (tabObj ps))→R (.ok (.ret (.bool true))) {s with heap:=h',toks:=tk}):
  codeAny (model prog w) callerA (.call (.ref fa) ⟨[.ref a],[]⟩) R s:=by
 have FA:=(yN H.X H.g H.ok.fns _ i93).1
 have e:fa=mX K kB.name:=by have:=FA.there;rw [show mg kB.name=_ from hm] at this;cases this;rfl
 subst e
 have an:a∉hid:=fun m=>by
  rcases uD.mp m with rfl|rfl|rfl
  ·rw [H.tb _ (.head _)] at ho;cases ho
  ·rw [H.tb _ (.tail _ (.head _))] at ho;cases ho
  ·exact ha rfl
 have RM:fH callerA 64:=⟨rfl,by decide,by decide⟩
 refine XM (K:=adG prog H) (XS H) RM rfl FA (SK H) hl (jU a vs 0 ⟨rfl,⟨ho,an⟩,pE.mono (fun _ _ q=>q.elim) _ hv⟩) fun h' tk k1 k2=>?_
 have tab:∀t∈[t91,t92],∃ps,h'.get? t.P=some (tabObj ps):=fun t ht=>by
  refine aD (k2 t ht) fun ps q _=>?_
  exact ⟨ps,q.1⟩
 exact h h' tk (fun b o g n1 n2=>k1 b o g fun t=>(yQ.mp t).elim n1 n2) (tab t92 (.tail _ (.head _))) (tab t91 (.head _))
end
theorem JS {P:Params}{h:Heap}{l:List Int}:∀{vs:List Value},WellAll P h vs (ofPys (l.map PyData.int))→bP P (fun _ _=>False) vs (l.map .int):=by
 induction l with
 |nil=>intro vs r;cases r;exact bP.nil
 |cons a l ih=>
  intro vs r
  cases r with
  |cons q r=>cases q;exact bP.cons ⟨_,rfl⟩ (ih r)
theorem args_ok {P:Params}{h:Heap}{a:Addr}{l:List Int}(r:WellAll P h [.ref a] [ofPy (.list (l.map PyData.int))]):∃vs,h.get? a=some (cH vs 0)∧bP P (fun _ _=>False) vs (l.map .int):=by
 cases r with
 |cons q _=>cases q with
  |list g r=>exact ⟨_,g,JS r⟩
theorem addr_in {R:WRecords}{cl:Str→Option Addr}{h:Heap}{a:Addr}{xs:List PyData}{as:List Addr}(r:ReadsAllW R cl h [.ref a] [ofPy (.list xs)] as):a∈as:=by
 refine uS r.cons_inv fun d ds' x y e1 e2 r1 _=>?_
 have r2:ReadsW R cl h (.ref a) (ofPy (.list xs)) x:=(List.cons.inj e1).1.symm▸r1
 refine adZ (readsW_list_open (xs:=ofPys xs) r2) fun l o its n ai h1 _ _ _ _ h6=>?_
 rw [e2,h6,Value.ref.inj h1];exact .head _
theorem aiY {h:Heap}:(ghostOf h [(845,843),(840,836)]).get? 843=none:=hideAll_none _ (.head _)
theorem aiZ {h:Heap}:(ghostOf h [(845,843),(840,836)]).get? 836=none:=hideAll_none _ (.tail _ (.head _))
theorem good_end {c:ClaimW}{cl:Str→Option Addr}{mean:ExcName→Option Value}{args:List WData}{s:Shared}{h':Heap}{tk:Nat}(hg:s.gens= #[])(h1:∀x,c.raises args x=false)(h2:c.post args (.bool true) args=true)(k1:∀b o,s.heap.get? b=some o→b≠836→b≠843→h'.get? b=some o)(k2:∃ps,h'.get? 843=some (tabObj ps))(k3:∃ps,h'.get? 836=some (tabObj ps)):
  GoodW c cl mean args {s with heap:=ghostOf s.heap [(845,843),(840,836)]} (.ok (.ret (.bool true))) {s with heap:=h',toks:=tk}∧GrownAll [(845,843),(840,836)] h':=
 ⟨⟨.inl (jU _ _ _ ⟨rfl,h1,.bool true,h2,fun _=>⟨List.nodup_nil,nofun⟩⟩),(fun b o e=>k1 b o (of_hideAll _ e) (fun q=>by rw [q,aiZ] at e;cases e) fun q=>by rw [q,aiY] at e;cases e),rfl,hg⟩,k2,k3,trivial⟩
end Mine.Internal
namespace Mine
theorem hd.tw10012880186880212623:True:=⟨⟩
theorem hd.tw10024716035694756283:True:=⟨⟩
theorem hd.tw10030107230732127627:True:=⟨⟩
theorem hd.tw100483095206116625:True:=⟨⟩
theorem hd.tw1005483496087919985:True:=⟨⟩
theorem hd.tw10098268173465320503:True:=⟨⟩
theorem hd.tw10111801491309104144:True:=⟨⟩
theorem hd.tw1011335219593555734:True:=⟨⟩
theorem hd.tw10117440562283002822:True:=⟨⟩
theorem hd.tw1013155817946168525:True:=⟨⟩
theorem hd.tw10170382586518783626:True:=⟨⟩
theorem hd.tw10203026625882799534:True:=⟨⟩
theorem hd.tw10246146449241189800:True:=⟨⟩
theorem hd.tw10258999931320997221:True:=⟨⟩
theorem hd.tw10264135568141901301:True:=⟨⟩
theorem hd.tw10292235466723388172:True:=⟨⟩
theorem hd.tw1033889070964956483:True:=⟨⟩
theorem hd.tw10403243965636340961:True:=⟨⟩
theorem hd.tw10404513684093684653:True:=⟨⟩
theorem hd.tw10424393626065333798:True:=⟨⟩
theorem hd.tw1043307727769730188:True:=⟨⟩
theorem hd.tw10458740792067480800:True:=⟨⟩
theorem hd.tw10465514089279642386:True:=⟨⟩
theorem hd.tw10491609206876299696:True:=⟨⟩
theorem hd.tw10507497572311344420:True:=⟨⟩
theorem hd.tw10543509907540572799:True:=⟨⟩
theorem hd.tw10583446816852156582:True:=⟨⟩
theorem hd.tw10601615944963115059:True:=⟨⟩
theorem hd.tw10603584201595350602:True:=⟨⟩
theorem hd.tw10614716105012338702:True:=⟨⟩
theorem hd.tw10678649693572172417:True:=⟨⟩
theorem hd.tw10727248033764811480:True:=⟨⟩
theorem hd.tw10738003575532504788:True:=⟨⟩
theorem hd.tw10743916045514856203:True:=⟨⟩
theorem hd.tw10752148897807903841:True:=⟨⟩
theorem hd.tw10781468475247234061:True:=⟨⟩
theorem hd.tw10784824025267889561:True:=⟨⟩
theorem hd.tw10788059911547816233:True:=⟨⟩
theorem hd.tw10792051664901133789:True:=⟨⟩
theorem hd.tw10806950440038215891:True:=⟨⟩
theorem hd.tw10844753989422098599:True:=⟨⟩
theorem hd.tw10847404155465417027:True:=⟨⟩
theorem hd.tw10860895700388868024:True:=⟨⟩
theorem hd.tw10875273251888808591:True:=⟨⟩
theorem hd.tw10879034167726328663:True:=⟨⟩
theorem hd.tw1088296927520436173:True:=⟨⟩
theorem hd.tw10905682514733158466:True:=⟨⟩
theorem hd.tw10919297434634762262:True:=⟨⟩
theorem hd.tw10949625832625181284:True:=⟨⟩
theorem hd.tw11011131195910976488:True:=⟨⟩
theorem hd.tw11032806212648032379:True:=⟨⟩
theorem hd.tw11047965835060713302:True:=⟨⟩
theorem hd.tw11054480109507316185:True:=⟨⟩
theorem hd.tw11079593142295127227:True:=⟨⟩
theorem hd.tw11117797201346649052:True:=⟨⟩
theorem hd.tw11128854368766332075:True:=⟨⟩
theorem hd.tw11151547217846952531:True:=⟨⟩
theorem hd.tw11162318198679636149:True:=⟨⟩
theorem hd.tw1118553966540926140:True:=⟨⟩
theorem hd.tw11210553801493137410:True:=⟨⟩
theorem hd.tw11213053971927718326:True:=⟨⟩
theorem hd.tw11249132867342737325:True:=⟨⟩
theorem hd.tw11251137523995926341:True:=⟨⟩
theorem hd.tw11256106856564762260:True:=⟨⟩
theorem hd.tw11283319371284918911:True:=⟨⟩
theorem hd.tw11319097763535126812:True:=⟨⟩
theorem hd.tw11319892378374348655:True:=⟨⟩
theorem hd.tw11375277706881905925:True:=⟨⟩
theorem hd.tw11399449904127653305:True:=⟨⟩
theorem hd.tw11402939732021071671:True:=⟨⟩
theorem hd.tw11465210709893060100:True:=⟨⟩
theorem hd.tw11513968764499736323:True:=⟨⟩
theorem hd.tw11587034568685482758:True:=⟨⟩
theorem hd.tw11623594800819314181:True:=⟨⟩
theorem hd.tw11631869004601391166:True:=⟨⟩
theorem hd.tw11631947586910100387:True:=⟨⟩
theorem hd.tw11652457597714270106:True:=⟨⟩
theorem hd.tw11660266114150955751:True:=⟨⟩
theorem hd.tw11709330566771433103:True:=⟨⟩
theorem hd.tw11713075325732132258:True:=⟨⟩
theorem hd.tw11754176132448286083:True:=⟨⟩
theorem hd.tw11778180911958503814:True:=⟨⟩
theorem hd.tw11801993109049149486:True:=⟨⟩
theorem hd.tw11814627755841444246:True:=⟨⟩
theorem hd.tw11893437276241958245:True:=⟨⟩
theorem hd.tw11905163887095721015:True:=⟨⟩
theorem hd.tw11912922877643110818:True:=⟨⟩
theorem hd.tw11917015161858427179:True:=⟨⟩
theorem hd.tw11953376511379268794:True:=⟨⟩
theorem hd.tw11968265576560266318:True:=⟨⟩
theorem hd.tw1197925565968671727:True:=⟨⟩
theorem hd.tw12023040214023829324:True:=⟨⟩
theorem hd.tw12050417470231563642:True:=⟨⟩
theorem hd.tw12058812876911547015:True:=⟨⟩
theorem hd.tw12070654863422294720:True:=⟨⟩
theorem hd.tw12092154237167983948:True:=⟨⟩
theorem hd.tw12109462406949408883:True:=⟨⟩
theorem hd.tw12112201142124510154:True:=⟨⟩
theorem hd.tw12113243949977362033:True:=⟨⟩
theorem hd.tw12127338746724423809:True:=⟨⟩
theorem hd.tw12131494931117144662:True:=⟨⟩
theorem hd.tw12173100003817136821:True:=⟨⟩
theorem hd.tw12268275109542032366:True:=⟨⟩
theorem hd.tw12271959270614036898:True:=⟨⟩
theorem hd.tw12337632362937886050:True:=⟨⟩
theorem hd.tw12350410155528471161:True:=⟨⟩
theorem hd.tw12364972598781006883:True:=⟨⟩
theorem hd.tw12393119488966705847:True:=⟨⟩
theorem hd.tw12399718760709695909:True:=⟨⟩
theorem hd.tw1241404454085649124:True:=⟨⟩
theorem hd.tw12459740579856956213:True:=⟨⟩
theorem hd.tw12487502673411948298:True:=⟨⟩
theorem hd.tw12521463284412890351:True:=⟨⟩
theorem hd.tw12588582704262371052:True:=⟨⟩
theorem hd.tw12590977762386282803:True:=⟨⟩
theorem hd.tw12591134339009171964:True:=⟨⟩
theorem hd.tw12602439190401603521:True:=⟨⟩
theorem hd.tw12611767792052310623:True:=⟨⟩
theorem hd.tw12629568148972539762:True:=⟨⟩
theorem hd.tw12631932088317031055:True:=⟨⟩
theorem hd.tw12647368939536790636:True:=⟨⟩
theorem hd.tw12659318050587179527:True:=⟨⟩
theorem hd.tw12685813987229840507:True:=⟨⟩
theorem hd.tw12744807935193187038:True:=⟨⟩
theorem hd.tw12769127236821124696:True:=⟨⟩
theorem hd.tw12832683148521936107:True:=⟨⟩
theorem hd.tw12861998865439983172:True:=⟨⟩
theorem hd.tw12870888531099404533:True:=⟨⟩
theorem hd.tw12940713784782232206:True:=⟨⟩
theorem hd.tw12949589719889679912:True:=⟨⟩
theorem hd.tw12994019391074448376:True:=⟨⟩
theorem hd.tw13038990169509382042:True:=⟨⟩
theorem hd.tw13047593935725612058:True:=⟨⟩
theorem hd.tw13066319289922817542:True:=⟨⟩
theorem hd.tw13092906067662860646:True:=⟨⟩
theorem hd.tw13122850982685727845:True:=⟨⟩
theorem hd.tw13132618709999183898:True:=⟨⟩
theorem hd.tw13160604113216922460:True:=⟨⟩
theorem hd.tw13181700845877081190:True:=⟨⟩
theorem hd.tw13217827037086042188:True:=⟨⟩
theorem hd.tw13220430256171166289:True:=⟨⟩
theorem hd.tw13225837485096350037:True:=⟨⟩
theorem hd.tw13234811391865401302:True:=⟨⟩
theorem hd.tw13267510147771200024:True:=⟨⟩
theorem hd.tw13280443560766958183:True:=⟨⟩
theorem hd.tw13285133528070534704:True:=⟨⟩
theorem hd.tw13289513938125300765:True:=⟨⟩
theorem hd.tw13293453174229064190:True:=⟨⟩
theorem hd.tw1331086792558400476:True:=⟨⟩
theorem hd.tw13315533130655954831:True:=⟨⟩
theorem hd.tw13321331477185743149:True:=⟨⟩
theorem hd.tw13322179722446271537:True:=⟨⟩
theorem hd.tw13330244855972007585:True:=⟨⟩
theorem hd.tw13342606739435360313:True:=⟨⟩
theorem hd.tw13365295217650922812:True:=⟨⟩
theorem hd.tw13368278939475635651:True:=⟨⟩
theorem hd.tw13372043803930879067:True:=⟨⟩
theorem hd.tw13409441903868389331:True:=⟨⟩
theorem hd.tw13466754112058979494:True:=⟨⟩
theorem hd.tw13475242022060392486:True:=⟨⟩
theorem hd.tw13483081372092288885:True:=⟨⟩
theorem hd.tw13518370688599389936:True:=⟨⟩
theorem hd.tw13531707123254989501:True:=⟨⟩
theorem hd.tw13532847315355080253:True:=⟨⟩
theorem hd.tw13566260322249332789:True:=⟨⟩
theorem hd.tw1359830224848277088:True:=⟨⟩
theorem hd.tw13638418597567726942:True:=⟨⟩
theorem hd.tw13642289790063256904:True:=⟨⟩
theorem hd.tw13770079208771991547:True:=⟨⟩
theorem hd.tw13790719812936386609:True:=⟨⟩
theorem hd.tw1379335367625716243:True:=⟨⟩
theorem hd.tw13828106393651249627:True:=⟨⟩
theorem hd.tw1382963296337349011:True:=⟨⟩
theorem hd.tw13855946660403688772:True:=⟨⟩
theorem hd.tw13866372431405929976:True:=⟨⟩
theorem hd.tw13893168526513508166:True:=⟨⟩
theorem hd.tw13903934854276604550:True:=⟨⟩
theorem hd.tw13919464512627920130:True:=⟨⟩
theorem hd.tw13929354066492186541:True:=⟨⟩
theorem hd.tw13931416462566266981:True:=⟨⟩
theorem hd.tw13994979335412520660:True:=⟨⟩
theorem hd.tw14006173549557618073:True:=⟨⟩
theorem hd.tw14029546391885035639:True:=⟨⟩
theorem hd.tw14060154772996877548:True:=⟨⟩
theorem hd.tw14060237666301923597:True:=⟨⟩
theorem hd.tw1409312971732116557:True:=⟨⟩
theorem hd.tw14103535550066685397:True:=⟨⟩
theorem hd.tw14120982254508448379:True:=⟨⟩
theorem hd.tw1413172679324656950:True:=⟨⟩
theorem hd.tw14137390275340422267:True:=⟨⟩
theorem hd.tw1425423193147277237:True:=⟨⟩
theorem hd.tw14294001040229213422:True:=⟨⟩
theorem hd.tw14353793391729792155:True:=⟨⟩
theorem hd.tw14400467628812073631:True:=⟨⟩
theorem hd.tw14439243815434019604:True:=⟨⟩
theorem hd.tw14457593812595234344:True:=⟨⟩
theorem hd.tw14462709497994964445:True:=⟨⟩
theorem hd.tw14492701947808656938:True:=⟨⟩
theorem hd.tw1452849714261714991:True:=⟨⟩
theorem hd.tw14553816603554493358:True:=⟨⟩
theorem hd.tw14560493823538711346:True:=⟨⟩
theorem hd.tw14567429538950270057:True:=⟨⟩
theorem hd.tw14598272352848978880:True:=⟨⟩
theorem hd.tw14620637471214046174:True:=⟨⟩
theorem hd.tw14667805832236412624:True:=⟨⟩
theorem hd.tw14685462170515437407:True:=⟨⟩
theorem hd.tw14705683404202351889:True:=⟨⟩
theorem hd.tw14708807125848044605:True:=⟨⟩
theorem hd.tw14745743045033390146:True:=⟨⟩
theorem hd.tw14772383043592177042:True:=⟨⟩
theorem hd.tw14852329139284432860:True:=⟨⟩
theorem hd.tw14859038896228082724:True:=⟨⟩
theorem hd.tw14892549342360969540:True:=⟨⟩
theorem hd.tw14896477498954680388:True:=⟨⟩
theorem hd.tw14906377314874228009:True:=⟨⟩
theorem hd.tw14955159897011116063:True:=⟨⟩
theorem hd.tw14960593345356199642:True:=⟨⟩
theorem hd.tw14991384322417631237:True:=⟨⟩
theorem hd.tw15042006015671813226:True:=⟨⟩
theorem hd.tw15043168886218598503:True:=⟨⟩
theorem hd.tw15048261121198461528:True:=⟨⟩
theorem hd.tw1506431575118746342:True:=⟨⟩
theorem hd.tw15083628210047938546:True:=⟨⟩
theorem hd.tw15089522573102190283:True:=⟨⟩
theorem hd.tw15152743547302097792:True:=⟨⟩
theorem hd.tw15166520500009309586:True:=⟨⟩
theorem hd.tw15199589371867527261:True:=⟨⟩
theorem hd.tw15207398651663016943:True:=⟨⟩
theorem hd.tw15220180469806662145:True:=⟨⟩
theorem hd.tw15344866539931968096:True:=⟨⟩
theorem hd.tw1535757262459896012:True:=⟨⟩
theorem hd.tw15367242080415987702:True:=⟨⟩
theorem hd.tw15416985209724490359:True:=⟨⟩
theorem hd.tw15422856539912107476:True:=⟨⟩
theorem hd.tw15427206886491885616:True:=⟨⟩
theorem hd.tw15508949281206285077:True:=⟨⟩
theorem hd.tw15527848837575444561:True:=⟨⟩
theorem hd.tw15529170255622000948:True:=⟨⟩
theorem hd.tw15578025631644234493:True:=⟨⟩
theorem hd.tw15595854959937240912:True:=⟨⟩
theorem hd.tw15610959940260225430:True:=⟨⟩
theorem hd.tw15615420239508185596:True:=⟨⟩
theorem hd.tw15616948245753086127:True:=⟨⟩
theorem hd.tw1563692795949630186:True:=⟨⟩
theorem hd.tw15643275761693703936:True:=⟨⟩
theorem hd.tw15683763237869141255:True:=⟨⟩
theorem hd.tw15687388767607454252:True:=⟨⟩
theorem hd.tw15759970867653108152:True:=⟨⟩
theorem hd.tw15790720579355451973:True:=⟨⟩
theorem hd.tw15795773062521488754:True:=⟨⟩
theorem hd.tw1580110805410547442:True:=⟨⟩
theorem hd.tw15813434630575017362:True:=⟨⟩
theorem hd.tw15833661619300960221:True:=⟨⟩
theorem hd.tw15837987909243819085:True:=⟨⟩
theorem hd.tw15852365999677673905:True:=⟨⟩
theorem hd.tw15875372055831622553:True:=⟨⟩
theorem hd.tw1588505670450824345:True:=⟨⟩
theorem hd.tw15910714762333108613:True:=⟨⟩
theorem hd.tw15946388913382835224:True:=⟨⟩
theorem hd.tw15967140613478806237:True:=⟨⟩
theorem hd.tw15987713032478767096:True:=⟨⟩
theorem hd.tw15992342658441690333:True:=⟨⟩
theorem hd.tw1600037746751723098:True:=⟨⟩
theorem hd.tw16006246977917349235:True:=⟨⟩
theorem hd.tw16007149819294483003:True:=⟨⟩
theorem hd.tw16009884308244765898:True:=⟨⟩
theorem hd.tw16029623286316568529:True:=⟨⟩
theorem hd.tw1603739661141634737:True:=⟨⟩
theorem hd.tw16037735763661986305:True:=⟨⟩
theorem hd.tw16053994301053490033:True:=⟨⟩
theorem hd.tw16056359734778111409:True:=⟨⟩
theorem hd.tw16064382804478563927:True:=⟨⟩
theorem hd.tw16091413853298234908:True:=⟨⟩
theorem hd.tw1610171440888473627:True:=⟨⟩
theorem hd.tw16138627921320673191:True:=⟨⟩
theorem hd.tw16154546982801380032:True:=⟨⟩
theorem hd.tw16155205043701107222:True:=⟨⟩
theorem hd.tw16157073509204512506:True:=⟨⟩
theorem hd.tw16171809288044610508:True:=⟨⟩
theorem hd.tw16178712458983371728:True:=⟨⟩
theorem hd.tw16194383521188589630:True:=⟨⟩
theorem hd.tw16240987189780228909:True:=⟨⟩
theorem hd.tw16257038226119295666:True:=⟨⟩
theorem hd.tw162610821266807592:True:=⟨⟩
theorem hd.tw1626546999972836498:True:=⟨⟩
theorem hd.tw16299908979028503884:True:=⟨⟩
theorem hd.tw16332348944364537037:True:=⟨⟩
theorem hd.tw16345102440705955213:True:=⟨⟩
theorem hd.tw16357263729072622229:True:=⟨⟩
theorem hd.tw16376525773666504680:True:=⟨⟩
theorem hd.tw16412773359747925120:True:=⟨⟩
theorem hd.tw16432713993328977331:True:=⟨⟩
theorem hd.tw16456969618363192440:True:=⟨⟩
theorem hd.tw16473244170626142550:True:=⟨⟩
theorem hd.tw16477043939570097188:True:=⟨⟩
theorem hd.tw16487816990975572028:True:=⟨⟩
theorem hd.tw16634568088961857937:True:=⟨⟩
theorem hd.tw16645720282701215070:True:=⟨⟩
theorem hd.tw16649331688326792143:True:=⟨⟩
theorem hd.tw1666387254794493845:True:=⟨⟩
theorem hd.tw16684818696116721337:True:=⟨⟩
theorem hd.tw16713699803418581334:True:=⟨⟩
theorem hd.tw16772102934027710169:True:=⟨⟩
theorem hd.tw16794629799341752650:True:=⟨⟩
theorem hd.tw16828841361933241965:True:=⟨⟩
theorem hd.tw16853341256802265648:True:=⟨⟩
theorem hd.tw16858285156579221889:True:=⟨⟩
theorem hd.tw16868993833207775613:True:=⟨⟩
theorem hd.tw16900609317406935518:True:=⟨⟩
theorem hd.tw16904818350239718627:True:=⟨⟩
theorem hd.tw16945582573551092051:True:=⟨⟩
theorem hd.tw16970440968685349367:True:=⟨⟩
theorem hd.tw1699103778626983548:True:=⟨⟩
theorem hd.tw17001982702790524580:True:=⟨⟩
theorem hd.tw17047115858639842297:True:=⟨⟩
theorem hd.tw17062030032774818151:True:=⟨⟩
theorem hd.tw17070941380808615275:True:=⟨⟩
theorem hd.tw17076082267592564974:True:=⟨⟩
theorem hd.tw17087091549796120035:True:=⟨⟩
theorem hd.tw17088047866570459193:True:=⟨⟩
theorem hd.tw1712922718373300912:True:=⟨⟩
theorem hd.tw17130151131035750659:True:=⟨⟩
theorem hd.tw17177331786930743035:True:=⟨⟩
theorem hd.tw17183224562656869120:True:=⟨⟩
theorem hd.tw17252143746492648416:True:=⟨⟩
theorem hd.tw17258206423299326598:True:=⟨⟩
theorem hd.tw17311223219408574766:True:=⟨⟩
theorem hd.tw17312999752573914782:True:=⟨⟩
theorem hd.tw17330132731328240911:True:=⟨⟩
theorem hd.tw17330945745186091897:True:=⟨⟩
theorem hd.tw17336936450418997793:True:=⟨⟩
theorem hd.tw17377124274276065709:True:=⟨⟩
theorem hd.tw17377529257436501650:True:=⟨⟩
theorem hd.tw17387473266821786944:True:=⟨⟩
theorem hd.tw17420951861521290806:True:=⟨⟩
theorem hd.tw17429513623812275283:True:=⟨⟩
theorem hd.tw17447410573909459338:True:=⟨⟩
theorem hd.tw17454471701868102899:True:=⟨⟩
theorem hd.tw17470177872615007328:True:=⟨⟩
theorem hd.tw17491317419825422843:True:=⟨⟩
theorem hd.tw17502677235029458409:True:=⟨⟩
theorem hd.tw17542962492245011380:True:=⟨⟩
theorem hd.tw17562767543260142214:True:=⟨⟩
theorem hd.tw17574625026820762457:True:=⟨⟩
theorem hd.tw17577478241444706838:True:=⟨⟩
theorem hd.tw17583924267553061668:True:=⟨⟩
theorem hd.tw17599816209265215132:True:=⟨⟩
theorem hd.tw1760603350576429475:True:=⟨⟩
theorem hd.tw17606422857730326317:True:=⟨⟩
theorem hd.tw17616961336393838875:True:=⟨⟩
theorem hd.tw17628472586750557451:True:=⟨⟩
theorem hd.tw17650839729002327288:True:=⟨⟩
theorem hd.tw17673860158736603733:True:=⟨⟩
theorem hd.tw17681399029576232318:True:=⟨⟩
theorem hd.tw17696971302532935780:True:=⟨⟩
theorem hd.tw17699033467910553154:True:=⟨⟩
theorem hd.tw17711083657039698284:True:=⟨⟩
theorem hd.tw17714235663813219645:True:=⟨⟩
theorem hd.tw17739348878880393726:True:=⟨⟩
theorem hd.tw177422321972123086:True:=⟨⟩
theorem hd.tw17772917993097084435:True:=⟨⟩
theorem hd.tw17780116424223528106:True:=⟨⟩
theorem hd.tw1781861727890032366:True:=⟨⟩
theorem hd.tw17843490464661113860:True:=⟨⟩
theorem hd.tw17893044597097874663:True:=⟨⟩
theorem hd.tw17895171251205151618:True:=⟨⟩
theorem hd.tw17901334829092211166:True:=⟨⟩
theorem hd.tw17919194246423945575:True:=⟨⟩
theorem hd.tw17925215291927510665:True:=⟨⟩
theorem hd.tw1792636949448641307:True:=⟨⟩
theorem hd.tw17948085552500728524:True:=⟨⟩
theorem hd.tw17950676927832955104:True:=⟨⟩
theorem hd.tw17975533764899295144:True:=⟨⟩
theorem hd.tw17986969038992634876:True:=⟨⟩
theorem hd.tw17989097746536338734:True:=⟨⟩
theorem hd.tw18093812233618175256:True:=⟨⟩
theorem hd.tw18103420901670897651:True:=⟨⟩
theorem hd.tw18163647496604598072:True:=⟨⟩
theorem hd.tw18166333605607142505:True:=⟨⟩
theorem hd.tw18176940659606848779:True:=⟨⟩
theorem hd.tw18219297243305740317:True:=⟨⟩
theorem hd.tw18241275227582772068:True:=⟨⟩
theorem hd.tw18245042118932799458:True:=⟨⟩
theorem hd.tw18268791191939849864:True:=⟨⟩
theorem hd.tw18291419657060728153:True:=⟨⟩
theorem hd.tw18293732401869909652:True:=⟨⟩
theorem hd.tw18293851220164018083:True:=⟨⟩
theorem hd.tw18300207936620678264:True:=⟨⟩
theorem hd.tw18322514126500204803:True:=⟨⟩
theorem hd.tw1836080755315867724:True:=⟨⟩
theorem hd.tw1847840615245081061:True:=⟨⟩
theorem hd.tw1848646778235469078:True:=⟨⟩
theorem hd.tw1865391376527767206:True:=⟨⟩
theorem hd.tw189712035060473897:True:=⟨⟩
theorem hd.tw190519026028168232:True:=⟨⟩
theorem hd.tw1997569388931296116:True:=⟨⟩
theorem hd.tw2040990291671593033:True:=⟨⟩
theorem hd.tw2051048951616859547:True:=⟨⟩
theorem hd.tw2068664650715991707:True:=⟨⟩
theorem hd.tw2101469004524951375:True:=⟨⟩
theorem hd.tw2114630138375439770:True:=⟨⟩
theorem hd.tw212345690472687942:True:=⟨⟩
theorem hd.tw2134215046882385847:True:=⟨⟩
theorem hd.tw2167537188350426706:True:=⟨⟩
theorem hd.tw2195365466389143174:True:=⟨⟩
theorem hd.tw2216850387143573719:True:=⟨⟩
theorem hd.tw2252305205657439004:True:=⟨⟩
theorem hd.tw22551697357593593:True:=⟨⟩
theorem hd.tw226724450230711188:True:=⟨⟩
theorem hd.tw2274498078352570744:True:=⟨⟩
theorem hd.tw2284436838669742495:True:=⟨⟩
theorem hd.tw2304311442786299043:True:=⟨⟩
theorem hd.tw2315301623876862497:True:=⟨⟩
theorem hd.tw2323474266016966308:True:=⟨⟩
theorem hd.tw2329189449893159454:True:=⟨⟩
theorem hd.tw2370633696588841109:True:=⟨⟩
theorem hd.tw2386827423013361158:True:=⟨⟩
theorem hd.tw2391449824757734642:True:=⟨⟩
theorem hd.tw242841246431481386:True:=⟨⟩
theorem hd.tw2442259710966052079:True:=⟨⟩
theorem hd.tw2448417245163862455:True:=⟨⟩
theorem hd.tw2457190517430149469:True:=⟨⟩
theorem hd.tw2480057099694739299:True:=⟨⟩
theorem hd.tw2502866573005156581:True:=⟨⟩
theorem hd.tw250903467453971090:True:=⟨⟩
theorem hd.tw257007361410690125:True:=⟨⟩
theorem hd.tw2603259988358896889:True:=⟨⟩
theorem hd.tw2608437505485318709:True:=⟨⟩
theorem hd.tw2619054349758303149:True:=⟨⟩
theorem hd.tw262745018181394680:True:=⟨⟩
theorem hd.tw26425463804135960:True:=⟨⟩
theorem hd.tw2658526732547218105:True:=⟨⟩
theorem hd.tw2708950531961675432:True:=⟨⟩
theorem hd.tw2739504486584576224:True:=⟨⟩
theorem hd.tw2781682124601125471:True:=⟨⟩
theorem hd.tw2783992281797965187:True:=⟨⟩
theorem hd.tw2788664435532181463:True:=⟨⟩
theorem hd.tw280609765759037681:True:=⟨⟩
theorem hd.tw2808349399557158395:True:=⟨⟩
theorem hd.tw2845679848157327705:True:=⟨⟩
theorem hd.tw2855845756224970109:True:=⟨⟩
theorem hd.tw2887051446865420828:True:=⟨⟩
theorem hd.tw2951005344575393816:True:=⟨⟩
theorem hd.tw2999033326186475339:True:=⟨⟩
theorem hd.tw3008623586974134963:True:=⟨⟩
theorem hd.tw3085183777334472315:True:=⟨⟩
theorem hd.tw3109861748172591687:True:=⟨⟩
theorem hd.tw313027258313007627:True:=⟨⟩
theorem hd.tw3182187488490625086:True:=⟨⟩
theorem hd.tw3196399650302076718:True:=⟨⟩
theorem hd.tw3219085151875037572:True:=⟨⟩
theorem hd.tw3229955645248102723:True:=⟨⟩
theorem hd.tw3259873300814134281:True:=⟨⟩
theorem hd.tw3309697970292668127:True:=⟨⟩
theorem hd.tw3350844169311001129:True:=⟨⟩
theorem hd.tw3350930974749635488:True:=⟨⟩
theorem hd.tw3381375190539634487:True:=⟨⟩
theorem hd.tw3404104791013757517:True:=⟨⟩
theorem hd.tw3419581819265744254:True:=⟨⟩
theorem hd.tw3434918251397683217:True:=⟨⟩
theorem hd.tw3442329435671937591:True:=⟨⟩
theorem hd.tw3443669649825651883:True:=⟨⟩
theorem hd.tw3452082135128663414:True:=⟨⟩
theorem hd.tw3480954088277226078:True:=⟨⟩
theorem hd.tw3484992998616243462:True:=⟨⟩
theorem hd.tw3493717111155160527:True:=⟨⟩
theorem hd.tw3513125359445811510:True:=⟨⟩
theorem hd.tw3530705653197291679:True:=⟨⟩
theorem hd.tw3571134770919094901:True:=⟨⟩
theorem hd.tw3646829019195819677:True:=⟨⟩
theorem hd.tw3673020696563887462:True:=⟨⟩
theorem hd.tw368366308016060594:True:=⟨⟩
theorem hd.tw3704167492566942397:True:=⟨⟩
theorem hd.tw3759623122121258479:True:=⟨⟩
theorem hd.tw3789350110615891812:True:=⟨⟩
theorem hd.tw3795277891434052102:True:=⟨⟩
theorem hd.tw3915529967508079626:True:=⟨⟩
theorem hd.tw3919010098100093602:True:=⟨⟩
theorem hd.tw3922637787740509324:True:=⟨⟩
theorem hd.tw3941438180925939637:True:=⟨⟩
theorem hd.tw395138700845864316:True:=⟨⟩
theorem hd.tw3953601041324332601:True:=⟨⟩
theorem hd.tw4014540891139286612:True:=⟨⟩
theorem hd.tw4021928978595405253:True:=⟨⟩
theorem hd.tw4065347644161347641:True:=⟨⟩
theorem hd.tw4068527845204499245:True:=⟨⟩
theorem hd.tw4068933124894957555:True:=⟨⟩
theorem hd.tw4086058157674990017:True:=⟨⟩
theorem hd.tw4111692666942324129:True:=⟨⟩
theorem hd.tw4115565904173853331:True:=⟨⟩
theorem hd.tw4126306136578151734:True:=⟨⟩
theorem hd.tw4136554803537287180:True:=⟨⟩
theorem hd.tw4138081844389336918:True:=⟨⟩
theorem hd.tw4159134105002834734:True:=⟨⟩
theorem hd.tw4172343393113369950:True:=⟨⟩
theorem hd.tw4182648748547736412:True:=⟨⟩
theorem hd.tw4225703048834024713:True:=⟨⟩
theorem hd.tw4272726840584523970:True:=⟨⟩
theorem hd.tw4292457097857839397:True:=⟨⟩
theorem hd.tw4297731678662094536:True:=⟨⟩
theorem hd.tw4315991029959535628:True:=⟨⟩
theorem hd.tw432457690288141553:True:=⟨⟩
theorem hd.tw4363365295628954845:True:=⟨⟩
theorem hd.tw4377701919642642989:True:=⟨⟩
theorem hd.tw4383666589626881386:True:=⟨⟩
theorem hd.tw4402725079659364252:True:=⟨⟩
theorem hd.tw442638132926106271:True:=⟨⟩
theorem hd.tw4449123307109862055:True:=⟨⟩
theorem hd.tw4478166936697009375:True:=⟨⟩
theorem hd.tw4478177076189095293:True:=⟨⟩
theorem hd.tw4494801613693538912:True:=⟨⟩
theorem hd.tw461538923250603899:True:=⟨⟩
theorem hd.tw4642405928176397000:True:=⟨⟩
theorem hd.tw4643362625855044894:True:=⟨⟩
theorem hd.tw464777395874653626:True:=⟨⟩
theorem hd.tw4654797750381630734:True:=⟨⟩
theorem hd.tw4702841417184801058:True:=⟨⟩
theorem hd.tw4706079058837389440:True:=⟨⟩
theorem hd.tw4788038989552484473:True:=⟨⟩
theorem hd.tw4817003022231809500:True:=⟨⟩
theorem hd.tw4819202231147424091:True:=⟨⟩
theorem hd.tw4851647983119433812:True:=⟨⟩
theorem hd.tw4856431653887292112:True:=⟨⟩
theorem hd.tw4870687313549177768:True:=⟨⟩
theorem hd.tw4971549296188076032:True:=⟨⟩
theorem hd.tw4990156530697904881:True:=⟨⟩
theorem hd.tw4993660671451451078:True:=⟨⟩
theorem hd.tw5009564483982726761:True:=⟨⟩
theorem hd.tw5010264101278932077:True:=⟨⟩
theorem hd.tw5036846961687405229:True:=⟨⟩
theorem hd.tw5054737718236178183:True:=⟨⟩
theorem hd.tw5130813555471234732:True:=⟨⟩
theorem hd.tw5138769234217329475:True:=⟨⟩
theorem hd.tw5148922909946612681:True:=⟨⟩
theorem hd.tw5167245352685981253:True:=⟨⟩
theorem hd.tw5190246844813560578:True:=⟨⟩
theorem hd.tw519851828213033955:True:=⟨⟩
theorem hd.tw5238241317806426387:True:=⟨⟩
theorem hd.tw526207354791536317:True:=⟨⟩
theorem hd.tw5278057926702712004:True:=⟨⟩
theorem hd.tw5283464899586487735:True:=⟨⟩
theorem hd.tw5292301768408028288:True:=⟨⟩
theorem hd.tw5318216170032084099:True:=⟨⟩
theorem hd.tw5343241284826551009:True:=⟨⟩
theorem hd.tw5363564295841288755:True:=⟨⟩
theorem hd.tw5366084841770067474:True:=⟨⟩
theorem hd.tw5367627127759910665:True:=⟨⟩
theorem hd.tw5373601922739893978:True:=⟨⟩
theorem hd.tw5388632664720090651:True:=⟨⟩
theorem hd.tw541196102884509978:True:=⟨⟩
theorem hd.tw5416991563250132298:True:=⟨⟩
theorem hd.tw5486487638281291605:True:=⟨⟩
theorem hd.tw5505005885091257285:True:=⟨⟩
theorem hd.tw5505332120971382143:True:=⟨⟩
theorem hd.tw5511420028821071320:True:=⟨⟩
theorem hd.tw5562173858411828344:True:=⟨⟩
theorem hd.tw5592360268479517082:True:=⟨⟩
theorem hd.tw5608270528595127837:True:=⟨⟩
theorem hd.tw561391293025646643:True:=⟨⟩
theorem hd.tw5629675986466331604:True:=⟨⟩
theorem hd.tw5635641802508607975:True:=⟨⟩
theorem hd.tw5657824000916062451:True:=⟨⟩
theorem hd.tw5715356086224469760:True:=⟨⟩
theorem hd.tw5716766192118558609:True:=⟨⟩
theorem hd.tw5732804406350252772:True:=⟨⟩
theorem hd.tw5873113503399164460:True:=⟨⟩
theorem hd.tw5899666649113621702:True:=⟨⟩
theorem hd.tw5961118342813265553:True:=⟨⟩
theorem hd.tw5976792059365374437:True:=⟨⟩
theorem hd.tw5987830557187376847:True:=⟨⟩
theorem hd.tw6046454685291232161:True:=⟨⟩
theorem hd.tw6060742912462422084:True:=⟨⟩
theorem hd.tw6079173187612997037:True:=⟨⟩
theorem hd.tw6082411064634330575:True:=⟨⟩
theorem hd.tw6123773746684550334:True:=⟨⟩
theorem hd.tw6136932545381038964:True:=⟨⟩
theorem hd.tw6164396464334811476:True:=⟨⟩
theorem hd.tw6184208073178115725:True:=⟨⟩
theorem hd.tw6184460063843016694:True:=⟨⟩
theorem hd.tw6186238094035137676:True:=⟨⟩
theorem hd.tw6264232113106981867:True:=⟨⟩
theorem hd.tw6276725880618359904:True:=⟨⟩
theorem hd.tw6291416237084387574:True:=⟨⟩
theorem hd.tw6293948785866598258:True:=⟨⟩
theorem hd.tw6305734824756694309:True:=⟨⟩
theorem hd.tw6308581086252854402:True:=⟨⟩
theorem hd.tw6320253292602491972:True:=⟨⟩
theorem hd.tw6394381022753523788:True:=⟨⟩
theorem hd.tw6407587892757256292:True:=⟨⟩
theorem hd.tw6411954120941647267:True:=⟨⟩
theorem hd.tw6423634429210846174:True:=⟨⟩
theorem hd.tw6438293893037913957:True:=⟨⟩
theorem hd.tw6442067068224118133:True:=⟨⟩
theorem hd.tw6449127861642672459:True:=⟨⟩
theorem hd.tw6469175993241445255:True:=⟨⟩
theorem hd.tw6528754448969337418:True:=⟨⟩
theorem hd.tw6545403380812914513:True:=⟨⟩
theorem hd.tw6547078798241139092:True:=⟨⟩
theorem hd.tw6555240042291301478:True:=⟨⟩
theorem hd.tw6578402527460240241:True:=⟨⟩
theorem hd.tw6615107907471364465:True:=⟨⟩
theorem hd.tw6615925807384083543:True:=⟨⟩
theorem hd.tw6627881031435992008:True:=⟨⟩
theorem hd.tw663384727985864361:True:=⟨⟩
theorem hd.tw6636792957720756321:True:=⟨⟩
theorem hd.tw6683769817339685419:True:=⟨⟩
theorem hd.tw6755925336976613232:True:=⟨⟩
theorem hd.tw6759412095888398321:True:=⟨⟩
theorem hd.tw6767318904944593275:True:=⟨⟩
theorem hd.tw678209747344391502:True:=⟨⟩
theorem hd.tw6785817131721698500:True:=⟨⟩
theorem hd.tw6804821044290156842:True:=⟨⟩
theorem hd.tw6819123309680001836:True:=⟨⟩
theorem hd.tw6820862383352777685:True:=⟨⟩
theorem hd.tw6830512106363814048:True:=⟨⟩
theorem hd.tw6868836192036940282:True:=⟨⟩
theorem hd.tw6882427118574961969:True:=⟨⟩
theorem hd.tw6906073325868019850:True:=⟨⟩
theorem hd.tw6924109203229866365:True:=⟨⟩
theorem hd.tw6931407450589930559:True:=⟨⟩
theorem hd.tw6949393925629115068:True:=⟨⟩
theorem hd.tw6965799899956892507:True:=⟨⟩
theorem hd.tw697623264460660564:True:=⟨⟩
theorem hd.tw6982297934935202809:True:=⟨⟩
theorem hd.tw6990203504111849199:True:=⟨⟩
theorem hd.tw6998783941825042932:True:=⟨⟩
theorem hd.tw701787995468756871:True:=⟨⟩
theorem hd.tw7028611270464810887:True:=⟨⟩
theorem hd.tw7068711184596962023:True:=⟨⟩
theorem hd.tw7080932558258925280:True:=⟨⟩
theorem hd.tw7082855905992002993:True:=⟨⟩
theorem hd.tw7085514621470718492:True:=⟨⟩
theorem hd.tw7120233287515763914:True:=⟨⟩
theorem hd.tw7145769029896464299:True:=⟨⟩
theorem hd.tw7153062008950511462:True:=⟨⟩
theorem hd.tw7191455744419660376:True:=⟨⟩
theorem hd.tw7261450039545342454:True:=⟨⟩
theorem hd.tw7270182246851987180:True:=⟨⟩
theorem hd.tw728884934406724761:True:=⟨⟩
theorem hd.tw7289634563603522867:True:=⟨⟩
theorem hd.tw7292484366425897655:True:=⟨⟩
theorem hd.tw7296583596125217682:True:=⟨⟩
theorem hd.tw7354087734392854552:True:=⟨⟩
theorem hd.tw7355570028127101125:True:=⟨⟩
theorem hd.tw7366208706002141716:True:=⟨⟩
theorem hd.tw7369741819223213686:True:=⟨⟩
theorem hd.tw7372000682148998216:True:=⟨⟩
theorem hd.tw7379015992945566340:True:=⟨⟩
theorem hd.tw7492773218913965947:True:=⟨⟩
theorem hd.tw7494724483528729301:True:=⟨⟩
theorem hd.tw7510230149288206974:True:=⟨⟩
theorem hd.tw7512474625130614241:True:=⟨⟩
theorem hd.tw7519716089354478335:True:=⟨⟩
theorem hd.tw7525542149764818722:True:=⟨⟩
theorem hd.tw7534799579077118603:True:=⟨⟩
theorem hd.tw7540655947842036084:True:=⟨⟩
theorem hd.tw7540741092611519060:True:=⟨⟩
theorem hd.tw7541792107247259296:True:=⟨⟩
theorem hd.tw7578210074245671484:True:=⟨⟩
theorem hd.tw758273949599710562:True:=⟨⟩
theorem hd.tw7598622570094877466:True:=⟨⟩
theorem hd.tw7610815399733428385:True:=⟨⟩
theorem hd.tw7654286748164834634:True:=⟨⟩
theorem hd.tw7676003278276379012:True:=⟨⟩
theorem hd.tw7698358502638924378:True:=⟨⟩
theorem hd.tw7721951785955056133:True:=⟨⟩
theorem hd.tw7746578258024575070:True:=⟨⟩
theorem hd.tw7752569895197466512:True:=⟨⟩
theorem hd.tw7752767780024739350:True:=⟨⟩
theorem hd.tw7754304195085646258:True:=⟨⟩
theorem hd.tw7763873220885509757:True:=⟨⟩
theorem hd.tw7792395482447073224:True:=⟨⟩
theorem hd.tw7793673504863384051:True:=⟨⟩
theorem hd.tw7854228177987924090:True:=⟨⟩
theorem hd.tw7880807054014371918:True:=⟨⟩
theorem hd.tw7927469264209771579:True:=⟨⟩
theorem hd.tw799355135909283525:True:=⟨⟩
theorem hd.tw8004679753235328684:True:=⟨⟩
theorem hd.tw8004756346496587371:True:=⟨⟩
theorem hd.tw8015326511298524721:True:=⟨⟩
theorem hd.tw8025032847418708242:True:=⟨⟩
theorem hd.tw8044012406986999415:True:=⟨⟩
theorem hd.tw8047900516022102942:True:=⟨⟩
theorem hd.tw8053944837975664402:True:=⟨⟩
theorem hd.tw8068729725432388964:True:=⟨⟩
theorem hd.tw8081886968326746073:True:=⟨⟩
theorem hd.tw8112040973832200146:True:=⟨⟩
theorem hd.tw8117029840178788049:True:=⟨⟩
theorem hd.tw8134915037123179040:True:=⟨⟩
theorem hd.tw8191903926673212241:True:=⟨⟩
theorem hd.tw8210421348078903774:True:=⟨⟩
theorem hd.tw8226494294326810461:True:=⟨⟩
theorem hd.tw8242931771332617035:True:=⟨⟩
theorem hd.tw8244733829118024811:True:=⟨⟩
theorem hd.tw825126770350376351:True:=⟨⟩
theorem hd.tw8269573656231971908:True:=⟨⟩
theorem hd.tw8312999807965096350:True:=⟨⟩
theorem hd.tw8317466277049474617:True:=⟨⟩
theorem hd.tw8343274005884668182:True:=⟨⟩
theorem hd.tw8351282476255451920:True:=⟨⟩
theorem hd.tw8356816923877370021:True:=⟨⟩
theorem hd.tw8381844023166312768:True:=⟨⟩
theorem hd.tw8428860471423672150:True:=⟨⟩
theorem hd.tw845060206244984605:True:=⟨⟩
theorem hd.tw8458067239894703972:True:=⟨⟩
theorem hd.tw8479784124755550697:True:=⟨⟩
theorem hd.tw8493152586797012548:True:=⟨⟩
theorem hd.tw8516288146210602744:True:=⟨⟩
theorem hd.tw8545014587354053640:True:=⟨⟩
theorem hd.tw8589211134812392127:True:=⟨⟩
theorem hd.tw8609351116199087170:True:=⟨⟩
theorem hd.tw8652628183442184457:True:=⟨⟩
theorem hd.tw8664936974563722654:True:=⟨⟩
theorem hd.tw8671608845466749128:True:=⟨⟩
theorem hd.tw8683856772340465682:True:=⟨⟩
theorem hd.tw8716120427605611371:True:=⟨⟩
theorem hd.tw8727321023445011275:True:=⟨⟩
theorem hd.tw876933089483189297:True:=⟨⟩
theorem hd.tw8770205317985620760:True:=⟨⟩
theorem hd.tw8789358453043137523:True:=⟨⟩
theorem hd.tw881544763273948857:True:=⟨⟩
theorem hd.tw8934143017859847078:True:=⟨⟩
theorem hd.tw8960069828448710407:True:=⟨⟩
theorem hd.tw8965841893048198262:True:=⟨⟩
theorem hd.tw9013056391748086436:True:=⟨⟩
theorem hd.tw9073681462420916055:True:=⟨⟩
theorem hd.tw9077708301081682751:True:=⟨⟩
theorem hd.tw9087110039335098043:True:=⟨⟩
theorem hd.tw9132557439983319658:True:=⟨⟩
theorem hd.tw9153386212771759811:True:=⟨⟩
theorem hd.tw9155422001095189878:True:=⟨⟩
theorem hd.tw9170477692918782315:True:=⟨⟩
theorem hd.tw9184186324627900627:True:=⟨⟩
theorem hd.tw922143313871775805:True:=⟨⟩
theorem hd.tw9228397985900620932:True:=⟨⟩
theorem hd.tw9244321171653502345:True:=⟨⟩
theorem hd.tw9271970288684553227:True:=⟨⟩
theorem hd.tw9277588360372424766:True:=⟨⟩
theorem hd.tw9298403506768410418:True:=⟨⟩
theorem hd.tw9325612240067072397:True:=⟨⟩
theorem hd.tw9330943631129107780:True:=⟨⟩
theorem hd.tw9345676750909349944:True:=⟨⟩
theorem hd.tw9345929723534960622:True:=⟨⟩
theorem hd.tw9386895884608548742:True:=⟨⟩
theorem hd.tw9398405308114057262:True:=⟨⟩
theorem hd.tw9406673726873002282:True:=⟨⟩
theorem hd.tw9421340871869096474:True:=⟨⟩
theorem hd.tw9427301549700849589:True:=⟨⟩
theorem hd.tw9430268157657104642:True:=⟨⟩
theorem hd.tw9449090799628755676:True:=⟨⟩
theorem hd.tw9449672872311958731:True:=⟨⟩
theorem hd.tw9496365245306024149:True:=⟨⟩
theorem hd.tw9499510787657705874:True:=⟨⟩
theorem hd.tw9533747618267967006:True:=⟨⟩
theorem hd.tw9566141503761928105:True:=⟨⟩
theorem hd.tw9577689765879766989:True:=⟨⟩
theorem hd.tw9641152695372364146:True:=⟨⟩
theorem hd.tw9673543361469618366:True:=⟨⟩
theorem hd.tw9702936160620672325:True:=⟨⟩
theorem hd.tw9719896912496429819:True:=⟨⟩
theorem hd.tw9731375825926819010:True:=⟨⟩
theorem hd.tw9741134391959003819:True:=⟨⟩
theorem hd.tw9748044761591592747:True:=⟨⟩
theorem hd.tw9908193460736022307:True:=⟨⟩
theorem hd.tw991583007596301734:True:=⟨⟩
theorem hd.tw9983995961361265002:True:=⟨⟩
set_option Elab.async true in
set_option maxHeartbeats 8000000 in
theorem hd:PySem.Challenge.rw_pf0067_01.Holds:=by
 w_on
 o_law
 k_head
 (case hw=>w_witness2)
 intro w s₀ s₁ mg mb G Y fa o pm cd doc dV kV ho hd' hcd hD hmg hg args vals as hpre hlay hrd hwl hlo
 have KX:=km_in_of Y
 have hT8:=km_tabs_of Y
 have T:=G.T
 clear Y G hD hcd hd' ho
 have hwl':=hwl
 have hlo':=hlo
 have hrd':=hrd
 wrow_args hpre hlay hrd hwl hlo
 refine enter_call ?_
 refine kn_post (tabs:=[(845,843),(840,836)]) (List.forall_mem_cons.mpr ⟨⟨codeHd_of_K (c:=845) (P:=843) KX (by kernel_rfl),hT8 843 (by decide)⟩,List.forall_mem_cons.mpr ⟨⟨codeHd_of_K (c:=840) (P:=836) KX (by kernel_rfl),hT8 836 (by decide)⟩,fun _ h=>nomatch h⟩⟩) (fun _ _=>rfl) ?_
 obtain ⟨vs,ha,hi⟩:=Internal.args_ok hwl'
 have hn:=hlo' _ (Internal.addr_in hrd')
 exact Internal.join ⟨KX,⟨by kernel_rfl,by kernel_rfl,by kernel_rfl,by kernel_rfl,by kernel_rfl,by kernel_rfl,by kernel_rfl,by kernel_rfl,by kernel_rfl⟩,T.g,T.b,T.nolimit,T.builtins,T.bmain,hT8⟩ hmg (by omega) ha hi (fun q=>by rw [q] at hn;exact nomatch hn) fun h' tk k1 k2 k3=>Internal.good_end hg (fun _=>rfl) (by kernel_rfl) k1 k2 k3
end Mine
theorem PySem.Challenge.cw_pf0067_01_holds : PySem.Challenge.rw_pf0067_01.Holds :=
 Mine.hd
