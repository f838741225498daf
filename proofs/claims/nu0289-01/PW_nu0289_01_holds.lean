import PyProof.Rows.All
import Wide.All
import OpenK.AllK
import Wide.FinOn
import Lean
import PySem.Challenge.RW_nu0289_01
open PySem PySem.W PyProof.Rows PySem.Calls
set_option Elab.async false
set_option maxRecDepth 100000
set_option linter.all false
set_option bootstrap.genMatcherCode false
set_option genSizeOf false
set_option genInjectivity false
set_option tactic.hygienic false
namespace Internal
theorem nn {α:Type _} {x:α} {P:Prop} (h:none=some x):P:=nomatch h
theorem nF {P:Prop} (h:false=true):P:=nomatch h
@[elab_as_elim] theorem rE {α:Sort _} {a b:α} {P:α→Prop} (h:a=b) (p:P b):P a:=by subst h;exact p
@[elab_as_elim] theorem rL {α:Sort _} {a b:α} {P:α→Prop} (h:b=a) (p:P b):P a:=by subst h;exact p
theorem xAA  {P1:Prop} {P2:Prop} {P3:Prop} {G:Prop} (h:P1∧P2∧P3) (k:P1→P2→P3→G):G:=k h.1 h.2.1 h.2.2
theorem xEA {α1:Sort _} {P1:α1→Prop} {P2:α1→Prop} {G:Prop} (h:∃x1,P1 x1∧P2 x1) (k:∀x1,P1 x1→P2 x1→G):G:=h.elim λx1 h1=>k x1 h1.1 h1.2
theorem xEE {α1:Sort _} {α2:Sort _} {P1:α1→α2→Prop} {G:Prop} (h:∃x1 x2,P1 x1 x2) (k:∀x1 x2,P1 x1 x2→G):G:=h.elim λx1 h1=>h1.elim λx2 h2=>k x1 x2 h2
theorem xAAA  {P1:Prop} {P2:Prop} {P3:Prop} {P4:Prop} {G:Prop} (h:P1∧P2∧P3∧P4) (k:P1→P2→P3→P4→G):G:=k h.1 h.2.1 h.2.2.1 h.2.2.2
theorem xAEA {α1:Sort _} {P1:Prop} {P2:α1→Prop} {P3:α1→Prop} {G:Prop} (h:P1∧(∃x1,P2 x1∧P3 x1)) (k:P1→∀x1,P2 x1→P3 x1→G):G:=h.2.elim λx1 h1=>k h.1 x1 h1.1 h1.2
theorem xEAA {α1:Sort _} {P1:α1→Prop} {P2:α1→Prop} {P3:α1→Prop} {G:Prop} (h:∃x1,P1 x1∧P2 x1∧P3 x1) (k:∀x1,P1 x1→P2 x1→P3 x1→G):G:=h.elim λx1 h1=>k x1 h1.1 h1.2.1 h1.2.2
theorem xEEA {α1:Sort _} {α2:Sort _} {P1:α1→α2→Prop} {P2:α1→α2→Prop} {G:Prop} (h:∃x1 x2,P1 x1 x2∧P2 x1 x2) (k:∀x1 x2,P1 x1 x2→P2 x1 x2→G):G:=h.elim λx1 h1=>h1.elim λx2 h2=>k x1 x2 h2.1 h2.2
theorem xEEE {α1:Sort _} {α2:Sort _} {α3:Sort _} {P1:α1→α2→α3→Prop} {G:Prop} (h:∃x1 x2 x3,P1 x1 x2 x3) (k:∀x1 x2 x3,P1 x1 x2 x3→G):G:=h.elim λx1 h1=>h1.elim λx2 h2=>h2.elim λx3 h3=>k x1 x2 x3 h3
theorem xAAAA  {P1:Prop} {P2:Prop} {P3:Prop} {P4:Prop} {P5:Prop} {G:Prop} (h:P1∧P2∧P3∧P4∧P5) (k:P1→P2→P3→P4→P5→G):G:=k h.1 h.2.1 h.2.2.1 h.2.2.2.1 h.2.2.2.2
theorem xEAAA {α1:Sort _} {P1:α1→Prop} {P2:α1→Prop} {P3:α1→Prop} {P4:α1→Prop} {G:Prop} (h:∃x1,P1 x1∧P2 x1∧P3 x1∧P4 x1) (k:∀x1,P1 x1→P2 x1→P3 x1→P4 x1→G):G:=h.elim λx1 h1=>k x1 h1.1 h1.2.1 h1.2.2.1 h1.2.2.2
theorem xEEAA {α1:Sort _} {α2:Sort _} {P1:α1→α2→Prop} {P2:α1→α2→Prop} {P3:α1→α2→Prop} {G:Prop} (h:∃x1 x2,P1 x1 x2∧P2 x1 x2∧P3 x1 x2) (k:∀x1 x2,P1 x1 x2→P2 x1 x2→P3 x1 x2→G):G:=h.elim λx1 h1=>h1.elim λx2 h2=>k x1 x2 h2.1 h2.2.1 h2.2.2
theorem xEEEA {α1:Sort _} {α2:Sort _} {α3:Sort _} {P1:α1→α2→α3→Prop} {P2:α1→α2→α3→Prop} {G:Prop} (h:∃x1 x2 x3,P1 x1 x2 x3∧P2 x1 x2 x3) (k:∀x1 x2 x3,P1 x1 x2 x3→P2 x1 x2 x3→G):G:=h.elim λx1 h1=>h1.elim λx2 h2=>h2.elim λx3 h3=>k x1 x2 x3 h3.1 h3.2
theorem xAAAAA  {P1:Prop} {P2:Prop} {P3:Prop} {P4:Prop} {P5:Prop} {P6:Prop} {G:Prop} (h:P1∧P2∧P3∧P4∧P5∧P6) (k:P1→P2→P3→P4→P5→P6→G):G:=k h.1 h.2.1 h.2.2.1 h.2.2.2.1 h.2.2.2.2.1 h.2.2.2.2.2
theorem xEEAAA {α1:Sort _} {α2:Sort _} {P1:α1→α2→Prop} {P2:α1→α2→Prop} {P3:α1→α2→Prop} {P4:α1→α2→Prop} {G:Prop} (h:∃x1 x2,P1 x1 x2∧P2 x1 x2∧P3 x1 x2∧P4 x1 x2) (k:∀x1 x2,P1 x1 x2→P2 x1 x2→P3 x1 x2→P4 x1 x2→G):G:=h.elim λx1 h1=>h1.elim λx2 h2=>k x1 x2 h2.1 h2.2.1 h2.2.2.1 h2.2.2.2
theorem xEEEAA {α1:Sort _} {α2:Sort _} {α3:Sort _} {P1:α1→α2→α3→Prop} {P2:α1→α2→α3→Prop} {P3:α1→α2→α3→Prop} {G:Prop} (h:∃x1 x2 x3,P1 x1 x2 x3∧P2 x1 x2 x3∧P3 x1 x2 x3) (k:∀x1 x2 x3,P1 x1 x2 x3→P2 x1 x2 x3→P3 x1 x2 x3→G):G:=h.elim λx1 h1=>h1.elim λx2 h2=>h2.elim λx3 h3=>k x1 x2 x3 h3.1 h3.2.1 h3.2.2
theorem xEEAAAA {α1:Sort _} {α2:Sort _} {P1:α1→α2→Prop} {P2:α1→α2→Prop} {P3:α1→α2→Prop} {P4:α1→α2→Prop} {P5:α1→α2→Prop} {G:Prop} (h:∃x1 x2,P1 x1 x2∧P2 x1 x2∧P3 x1 x2∧P4 x1 x2∧P5 x1 x2) (k:∀x1 x2,P1 x1 x2→P2 x1 x2→P3 x1 x2→P4 x1 x2→P5 x1 x2→G):G:=h.elim λx1 h1=>h1.elim λx2 h2=>k x1 x2 h2.1 h2.2.1 h2.2.2.1 h2.2.2.2.1 h2.2.2.2.2
theorem xEEEAAA {α1:Sort _} {α2:Sort _} {α3:Sort _} {P1:α1→α2→α3→Prop} {P2:α1→α2→α3→Prop} {P3:α1→α2→α3→Prop} {P4:α1→α2→α3→Prop} {G:Prop} (h:∃x1 x2 x3,P1 x1 x2 x3∧P2 x1 x2 x3∧P3 x1 x2 x3∧P4 x1 x2 x3) (k:∀x1 x2 x3,P1 x1 x2 x3→P2 x1 x2 x3→P3 x1 x2 x3→P4 x1 x2 x3→G):G:=h.elim λx1 h1=>h1.elim λx2 h2=>h2.elim λx3 h3=>k x1 x2 x3 h3.1 h3.2.1 h3.2.2.1 h3.2.2.2
theorem xEEEEAA {α1:Sort _} {α2:Sort _} {α3:Sort _} {α4:Sort _} {P1:α1→α2→α3→α4→Prop} {P2:α1→α2→α3→α4→Prop} {P3:α1→α2→α3→α4→Prop} {G:Prop} (h:∃x1 x2 x3 x4,P1 x1 x2 x3 x4∧P2 x1 x2 x3 x4∧P3 x1 x2 x3 x4) (k:∀x1 x2 x3 x4,P1 x1 x2 x3 x4→P2 x1 x2 x3 x4→P3 x1 x2 x3 x4→G):G:=h.elim λx1 h1=>h1.elim λx2 h2=>h2.elim λx3 h3=>h3.elim λx4 h4=>k x1 x2 x3 x4 h4.1 h4.2.1 h4.2.2
theorem xAAAAAAA  {P1:Prop} {P2:Prop} {P3:Prop} {P4:Prop} {P5:Prop} {P6:Prop} {P7:Prop} {P8:Prop} {G:Prop} (h:P1∧P2∧P3∧P4∧P5∧P6∧P7∧P8) (k:P1→P2→P3→P4→P5→P6→P7→P8→G):G:=k h.1 h.2.1 h.2.2.1 h.2.2.2.1 h.2.2.2.2.1 h.2.2.2.2.2.1 h.2.2.2.2.2.2.1 h.2.2.2.2.2.2.2
theorem xEEEEAAA {α1:Sort _} {α2:Sort _} {α3:Sort _} {α4:Sort _} {P1:α1→α2→α3→α4→Prop} {P2:α1→α2→α3→α4→Prop} {P3:α1→α2→α3→α4→Prop} {P4:α1→α2→α3→α4→Prop} {G:Prop} (h:∃x1 x2 x3 x4,P1 x1 x2 x3 x4∧P2 x1 x2 x3 x4∧P3 x1 x2 x3 x4∧P4 x1 x2 x3 x4) (k:∀x1 x2 x3 x4,P1 x1 x2 x3 x4→P2 x1 x2 x3 x4→P3 x1 x2 x3 x4→P4 x1 x2 x3 x4→G):G:=h.elim λx1 h1=>h1.elim λx2 h2=>h2.elim λx3 h3=>h3.elim λx4 h4=>k x1 x2 x3 x4 h4.1 h4.2.1 h4.2.2.1 h4.2.2.2
theorem xEEEAAAAA {α1:Sort _} {α2:Sort _} {α3:Sort _} {P1:α1→α2→α3→Prop} {P2:α1→α2→α3→Prop} {P3:α1→α2→α3→Prop} {P4:α1→α2→α3→Prop} {P5:α1→α2→α3→Prop} {P6:α1→α2→α3→Prop} {G:Prop} (h:∃x1 x2 x3,P1 x1 x2 x3∧P2 x1 x2 x3∧P3 x1 x2 x3∧P4 x1 x2 x3∧P5 x1 x2 x3∧P6 x1 x2 x3) (k:∀x1 x2 x3,P1 x1 x2 x3→P2 x1 x2 x3→P3 x1 x2 x3→P4 x1 x2 x3→P5 x1 x2 x3→P6 x1 x2 x3→G):G:=h.elim λx1 h1=>h1.elim λx2 h2=>h2.elim λx3 h3=>k x1 x2 x3 h3.1 h3.2.1 h3.2.2.1 h3.2.2.2.1 h3.2.2.2.2.1 h3.2.2.2.2.2
theorem xEEEEEEEEEEA {α1:Sort _} {α2:Sort _} {α3:Sort _} {α4:Sort _} {α5:Sort _} {α6:Sort _} {α7:Sort _} {α8:Sort _} {α9:Sort _} {α10:Sort _} {P1:α1→α2→α3→α4→α5→α6→α7→α8→α9→α10→Prop} {P2:α1→α2→α3→α4→α5→α6→α7→α8→α9→α10→Prop} {G:Prop} (h:∃x1 x2 x3 x4 x5 x6 x7 x8 x9 x10,P1 x1 x2 x3 x4 x5 x6 x7 x8 x9 x10∧P2 x1 x2 x3 x4 x5 x6 x7 x8 x9 x10) (k:∀x1 x2 x3 x4 x5 x6 x7 x8 x9 x10,P1 x1 x2 x3 x4 x5 x6 x7 x8 x9 x10→P2 x1 x2 x3 x4 x5 x6 x7 x8 x9 x10→G):G:=h.elim λx1 h1=>h1.elim λx2 h2=>h2.elim λx3 h3=>h3.elim λx4 h4=>h4.elim λx5 h5=>h5.elim λx6 h6=>h6.elim λx7 h7=>h7.elim λx8 h8=>h8.elim λx9 h9=>h9.elim λx10 h10=>k x1 x2 x3 x4 x5 x6 x7 x8 x9 x10 h10.1 h10.2
theorem xEEEEEEEEEEEA {α1:Sort _} {α2:Sort _} {α3:Sort _} {α4:Sort _} {α5:Sort _} {α6:Sort _} {α7:Sort _} {α8:Sort _} {α9:Sort _} {α10:Sort _} {α11:Sort _} {P1:α1→α2→α3→α4→α5→α6→α7→α8→α9→α10→α11→Prop} {P2:α1→α2→α3→α4→α5→α6→α7→α8→α9→α10→α11→Prop} {G:Prop} (h:∃x1 x2 x3 x4 x5 x6 x7 x8 x9 x10 x11,P1 x1 x2 x3 x4 x5 x6 x7 x8 x9 x10 x11∧P2 x1 x2 x3 x4 x5 x6 x7 x8 x9 x10 x11) (k:∀x1 x2 x3 x4 x5 x6 x7 x8 x9 x10 x11,P1 x1 x2 x3 x4 x5 x6 x7 x8 x9 x10 x11→P2 x1 x2 x3 x4 x5 x6 x7 x8 x9 x10 x11→G):G:=h.elim λx1 h1=>h1.elim λx2 h2=>h2.elim λx3 h3=>h3.elim λx4 h4=>h4.elim λx5 h5=>h5.elim λx6 h6=>h6.elim λx7 h7=>h7.elim λx8 h8=>h8.elim λx9 h9=>h9.elim λx10 h10=>h10.elim λx11 h11=>k x1 x2 x3 x4 x5 x6 x7 x8 x9 x10 x11 h11.1 h11.2
theorem xEEEEEEEEEEEEEE {α1:Sort _} {α2:Sort _} {α3:Sort _} {α4:Sort _} {α5:Sort _} {α6:Sort _} {α7:Sort _} {α8:Sort _} {α9:Sort _} {α10:Sort _} {α11:Sort _} {α12:Sort _} {α13:Sort _} {α14:Sort _} {P1:α1→α2→α3→α4→α5→α6→α7→α8→α9→α10→α11→α12→α13→α14→Prop} {G:Prop} (h:∃x1 x2 x3 x4 x5 x6 x7 x8 x9 x10 x11 x12 x13 x14,P1 x1 x2 x3 x4 x5 x6 x7 x8 x9 x10 x11 x12 x13 x14) (k:∀x1 x2 x3 x4 x5 x6 x7 x8 x9 x10 x11 x12 x13 x14,P1 x1 x2 x3 x4 x5 x6 x7 x8 x9 x10 x11 x12 x13 x14→G):G:=h.elim λx1 h1=>h1.elim λx2 h2=>h2.elim λx3 h3=>h3.elim λx4 h4=>h4.elim λx5 h5=>h5.elim λx6 h6=>h6.elim λx7 h7=>h7.elim λx8 h8=>h8.elim λx9 h9=>h9.elim λx10 h10=>h10.elim λx11 h11=>h11.elim λx12 h12=>h12.elim λx13 h13=>h13.elim λx14 h14=>k x1 x2 x3 x4 x5 x6 x7 x8 x9 x10 x11 x12 x13 x14 h14
theorem xEEEAEEEEAAA {α1:Sort _} {α2:Sort _} {α3:Sort _} {α4:Sort _} {α5:Sort _} {α6:Sort _} {α7:Sort _} {P1:α1→α2→α3→Prop} {P2:α1→α2→α3→α4→α5→α6→α7→Prop} {P3:α1→α2→α3→α4→α5→α6→α7→Prop} {P4:α1→α2→α3→α4→α5→α6→α7→Prop} {P5:α1→α2→α3→α4→α5→α6→α7→Prop} {G:Prop} (h:∃x1 x2 x3,P1 x1 x2 x3∧(∃x4 x5 x6 x7,P2 x1 x2 x3 x4 x5 x6 x7∧P3 x1 x2 x3 x4 x5 x6 x7∧P4 x1 x2 x3 x4 x5 x6 x7∧P5 x1 x2 x3 x4 x5 x6 x7)) (k:∀x1 x2 x3,P1 x1 x2 x3→∀x4 x5 x6 x7,P2 x1 x2 x3 x4 x5 x6 x7→P3 x1 x2 x3 x4 x5 x6 x7→P4 x1 x2 x3 x4 x5 x6 x7→P5 x1 x2 x3 x4 x5 x6 x7→G):G:=h.elim λx1 h1=>h1.elim λx2 h2=>h2.elim λx3 h3=>h3.2.elim λx4 h4=>h4.elim λx5 h5=>h5.elim λx6 h6=>h6.elim λx7 h7=>k x1 x2 x3 h3.1 x4 x5 x6 x7 h7.1 h7.2.1 h7.2.2.1 h7.2.2.2
theorem xEAEEEEAAA {α1:Sort _} {α2:Sort _} {α3:Sort _} {α4:Sort _} {α5:Sort _} {P1:α1→Prop} {P2:α1→α2→α3→α4→α5→Prop} {P3:α1→α2→α3→α4→α5→Prop} {P4:α1→α2→α3→α4→α5→Prop} {P5:α1→α2→α3→α4→α5→Prop} {G:Prop} (h:∃x1,P1 x1∧(∃x2 x3 x4 x5,P2 x1 x2 x3 x4 x5∧P3 x1 x2 x3 x4 x5∧P4 x1 x2 x3 x4 x5∧P5 x1 x2 x3 x4 x5)) (k:∀x1,P1 x1→∀x2 x3 x4 x5,P2 x1 x2 x3 x4 x5→P3 x1 x2 x3 x4 x5→P4 x1 x2 x3 x4 x5→P5 x1 x2 x3 x4 x5→G):G:=h.elim λx1 h1=>h1.2.elim λx2 h2=>h2.elim λx3 h3=>h3.elim λx4 h4=>h4.elim λx5 h5=>k x1 h1.1 x2 x3 x4 x5 h5.1 h5.2.1 h5.2.2.1 h5.2.2.2
theorem xAAAEEAA {α1:Sort _} {α2:Sort _} {P1:Prop} {P2:Prop} {P3:Prop} {P4:α1→α2→Prop} {P5:α1→α2→Prop} {P6:α1→α2→Prop} {G:Prop} (h:P1∧P2∧P3∧(∃x1 x2,P4 x1 x2∧P5 x1 x2∧P6 x1 x2)) (k:P1→P2→P3→∀x1 x2,P4 x1 x2→P5 x1 x2→P6 x1 x2→G):G:=h.2.2.2.elim λx1 h1=>h1.elim λx2 h2=>k h.1 h.2.1 h.2.2.1 x1 x2 h2.1 h2.2.1 h2.2.2
theorem xAEEEAAA {α1:Sort _} {α2:Sort _} {α3:Sort _} {P1:Prop} {P2:α1→α2→α3→Prop} {P3:α1→α2→α3→Prop} {P4:α1→α2→α3→Prop} {P5:α1→α2→α3→Prop} {G:Prop} (h:P1∧(∃x1 x2 x3,P2 x1 x2 x3∧P3 x1 x2 x3∧P4 x1 x2 x3∧P5 x1 x2 x3)) (k:P1→∀x1 x2 x3,P2 x1 x2 x3→P3 x1 x2 x3→P4 x1 x2 x3→P5 x1 x2 x3→G):G:=h.2.elim λx1 h1=>h1.elim λx2 h2=>h2.elim λx3 h3=>k h.1 x1 x2 x3 h3.1 h3.2.1 h3.2.2.1 h3.2.2.2
theorem xAEEA {α1:Sort _} {α2:Sort _} {P1:Prop} {P2:α1→α2→Prop} {P3:α1→α2→Prop} {G:Prop} (h:P1∧(∃x1 x2,P2 x1 x2∧P3 x1 x2)) (k:P1→∀x1 x2,P2 x1 x2→P3 x1 x2→G):G:=h.2.elim λx1 h1=>h1.elim λx2 h2=>k h.1 x1 x2 h2.1 h2.2
theorem xEEEE {α1:Sort _} {α2:Sort _} {α3:Sort _} {α4:Sort _} {P1:α1→α2→α3→α4→Prop} {G:Prop} (h:∃x1 x2 x3 x4,P1 x1 x2 x3 x4) (k:∀x1 x2 x3 x4,P1 x1 x2 x3 x4→G):G:=h.elim λx1 h1=>h1.elim λx2 h2=>h2.elim λx3 h3=>h3.elim λx4 h4=>k x1 x2 x3 x4 h4
theorem iEA {α1:Sort _} {P1:α1→Prop} {P2:α1→Prop} (x1:α1) (p1:P1 x1) (p2:P2 x1):∃x1,P1 x1∧P2 x1:=⟨x1,p1,p2⟩
theorem iAA  {P1:Prop} {P2:Prop} {P3:Prop} (p1:P1) (p2:P2) (p3:P3):P1∧P2∧P3:=⟨p1,p2,p3⟩
theorem iEAA {α1:Sort _} {P1:α1→Prop} {P2:α1→Prop} {P3:α1→Prop} (x1:α1) (p1:P1 x1) (p2:P2 x1) (p3:P3 x1):∃x1,P1 x1∧P2 x1∧P3 x1:=⟨x1,p1,p2,p3⟩
theorem iAAA  {P1:Prop} {P2:Prop} {P3:Prop} {P4:Prop} (p1:P1) (p2:P2) (p3:P3) (p4:P4):P1∧P2∧P3∧P4:=⟨p1,p2,p3,p4⟩
theorem iEEAA {α1:Sort _} {α2:Sort _} {P1:α1→α2→Prop} {P2:α1→α2→Prop} {P3:α1→α2→Prop} (x1:α1) (x2:α2) (p1:P1 x1 x2) (p2:P2 x1 x2) (p3:P3 x1 x2):∃x1 x2,P1 x1 x2∧P2 x1 x2∧P3 x1 x2:=⟨x1,x2,p1,p2,p3⟩
theorem iAEEA {α1:Sort _} {α2:Sort _} {P1:Prop} {P2:α1→α2→Prop} {P3:α1→α2→Prop} (p1:P1) (x1:α1) (x2:α2) (p2:P2 x1 x2) (p3:P3 x1 x2):P1∧(∃x1 x2,P2 x1 x2∧P3 x1 x2):=⟨p1,x1,x2,p2,p3⟩
theorem iAAAA  {P1:Prop} {P2:Prop} {P3:Prop} {P4:Prop} {P5:Prop} (p1:P1) (p2:P2) (p3:P3) (p4:P4) (p5:P5):P1∧P2∧P3∧P4∧P5:=⟨p1,p2,p3,p4,p5⟩
theorem iEEA {α1:Sort _} {α2:Sort _} {P1:α1→α2→Prop} {P2:α1→α2→Prop} (x1:α1) (x2:α2) (p1:P1 x1 x2) (p2:P2 x1 x2):∃x1 x2,P1 x1 x2∧P2 x1 x2:=⟨x1,x2,p1,p2⟩
theorem dE {p:Prop} [Decidable p] (h:decide p=true):p:=of_decide_eq_true h
theorem nS {α:Type _} {x:α} {P:Prop} (h:some x=none):P:=nomatch h
theorem sJ {α:Type _} {x y:α} (h:some x=some y):x=y:=Option.some.inj h
theorem nC {α:Type _} (f:α→Nat) {x y:α} {P:Prop} (e:x=y) (h:(f x == f y)=false):P:=by subst e;simp at h
set_option genCtorIdx false in
inductive AV where
 |none
 |bool (b:Bool)
 |int (i:Int)
 |str (s:Str)
 |ref (a:Addr)
noncomputable def AV.ctorIdx:AV→Nat
 |.none=>0
 |.bool _=>1
 |.int _=>2
 |.str _=>3
 |.ref _=>4
theorem rJ {a b:Addr} (h:AV.ref a=.ref b):a=b:=by injection h
noncomputable def AV.Is:AV→Value→Prop
 |.none,v=>v=.none
 |.bool b,v=>v=.bool b
 |.int i,v=>∃t,v=.int i t
 |.str s,v=>∃t,v=.str s t
 |.ref a,v=>v=.ref a
set_option genCtorIdx false in
inductive AO where
 |inst (C d:Addr) (fs:List (Str×AV))
 |list (xs:List AV)
 |tup (xs:List AV)
 |sdict (kvs:List (Str×AV))
 |idict (kvs:List (Int×AV))
 |tab (q:Str)
 |lock (ep:Nat) (kvs:List (Str×AV))
 |fix (xs:List AV) (vs:List Value) (n:Nat)
noncomputable def AO.ctorIdx:AO→Nat
 |.inst ..=>0
 |.list _=>1
 |.tup _=>2
 |.sdict _=>3
 |.idict _=>4
 |.tab _=>5
 |.lock ..=>6
 |.fix ..=>7
noncomputable abbrev AH:=Addr→Option AO
noncomputable abbrev Post:=AV→AH→Prop
noncomputable def up (σ:AH) (a:Addr) (o:AO):AH:=λb=>if b=a then some o else σ b
theorem up_self (σ:AH) (a:Addr) (o:AO):up σ a o a=some o:=if_pos rfl
theorem up_ne {σ:AH} {a b:Addr} {o:AO} (h:b≠a):up σ a o b=σ b:=if_neg h
inductive AllIs:List AV→List Value→Prop
 |nil:AllIs [] []
 |cons {a v as vs}:AV.Is a v→AllIs as vs→AllIs (a :: as) (v :: vs)
inductive KvIs {K:Type}:List (K×AV)→List (K×Value)→Prop
 |nil:KvIs [] []
 |cons {k a v as vs}:AV.Is a v→KvIs as vs→KvIs ((k,a) :: as) ((k,v) :: vs)
theorem AllIs.length {as vs} (h:AllIs as vs):as.length=vs.length:=by induction h with|nil=>rfl|cons _ _ ih=>simp[ih]
theorem AllIs.get {as vs} (h:AllIs as vs):∀{i:Nat} {a},as[i]?=some a→∃v,vs[i]?=some v∧AV.Is a v:=by
 induction h with
 |nil=>intro i a e;simp at e
 |cons h1 _ ih=>
  intro i a e
  induction i using Nat.casesOn with
  |zero=>simp at e;subst e;exact iEA _ rfl h1
  |succ j=>simpa using ih (by simpa using e)
theorem AllIs.getV {as vs} (h:AllIs as vs):∀{i:Nat} {v},vs[i]?=some v→∃a,as[i]?=some a∧AV.Is a v:=by
 induction h with
 |nil=>intro i a e;simp at e
 |cons h1 _ ih=>
  intro i v e
  induction i using Nat.casesOn with
  |zero=>simp at e;subst e;exact iEA _ rfl h1
  |succ j=>simpa using ih (by simpa using e)
theorem AllIs.append {as vs bs ws} (h:AllIs as vs) (h':AllIs bs ws):AllIs (as ++ bs) (vs ++ ws):=by
 induction h with|nil=>exact h'|cons a _ ih=>exact .cons a ih
theorem AllIs.drop {as vs} (h:AllIs as vs):∀n,AllIs (as.drop n) (vs.drop n):=by
 induction h with
 |nil=>intro n;simp;exact .nil
 |cons a r ih=>intro n;induction n using Nat.casesOn with|zero=>exact .cons a r|succ n=>simpa using ih n
theorem AllIs.take {as vs} (h:AllIs as vs):∀n,AllIs (as.take n) (vs.take n):=by
 induction h with
 |nil=>intro n;simp;exact .nil
 |cons a _ ih=>intro n;induction n using Nat.casesOn with|zero=>exact .nil|succ n=>exact .cons a (ih n)
theorem AllIs.snoc {as vs a v} (h:AllIs as vs) (h':AV.Is a v):AllIs (as ++ [a]) (vs ++ [v]):=h.append (.cons h' .nil)
theorem AllIs.reverse {as vs} (h:AllIs as vs):AllIs as.reverse vs.reverse:=by
 induction h with
 |nil=>exact .nil
 |cons a _ ih=>simpa using ih.snoc a
section
variable {K:Type} [DecidableEq K]
noncomputable def kget (kvs:List (K×AV)) (k:K):Option AV:=(kvs.find? λkv=>kv.1=k).map (·.2)
noncomputable def kput (kvs:List (K×AV)) (k:K) (v:AV):List (K×AV):=
 if kvs.any (λkv=>kv.1=k) then kvs.map (λkv=>if kv.1=k then (kv.1,v) else kv) else kvs ++ [(k,v)]
noncomputable def kdel (kvs:List (K×AV)) (k:K):List (K×AV):=kvs.filter λkv=>decide (kv.1≠k)
theorem KvIs.find {as:List (K×AV)} {vs} (h:KvIs as vs) (k:K):(kget as k=none∧valueAt vs k=none)∨∃a v,kget as k=some a∧valueAt vs k=some v∧AV.Is a v:=by
 induction h with
 |nil=>exact .inl ⟨rfl,rfl⟩
 |@cons k' a v as vs h1 _ ih=>
  by_cases q:k'=k
  ·exact .inr ⟨a,v,by simp[kget,q],by simp[valueAt,q],h1⟩
  ·simpa [kget,valueAt,q] using ih
theorem KvIs.found {as:List (K×AV)} {vs} (h:KvIs as vs) {k:K} {x:AV} (e:kget as k=some x):∃v,valueAt vs k=some v∧AV.Is x v:=by
 rcases h.find k with ⟨z,_⟩|⟨a,v,z1,z2,z3⟩
 ·exact nn (z.symm.trans e)
 ·exact iEA v z2 (Option.some.inj (z1.symm.trans e)▸z3)
theorem KvIs.keys {as:List (K×AV)} {vs} (h:KvIs as vs):as.map (·.1)=vs.map (·.1):=by
 induction h with|nil=>rfl|cons _ _ ih=>simp[ih]
theorem KvIs.length {as:List (K×AV)} {vs} (h:KvIs as vs):as.length=vs.length:=by
 induction h with|nil=>rfl|cons _ _ ih=>simp[ih]
theorem KvIs.any {as:List (K×AV)} {vs} (h:KvIs as vs) (k:K):as.any (λkv=>kv.1=k)=vs.any (λkv=>kv.1=k):=by
 induction h with|nil=>rfl|cons _ _ ih=>simp[ih]
theorem KvIs.append {as bs:List (K×AV)} {vs ws} (h:KvIs as vs) (h':KvIs bs ws):KvIs (as ++ bs) (vs ++ ws):=by
 induction h with|nil=>exact h'|cons a _ ih=>exact .cons a ih
theorem KvIs.mapPut {as:List (K×AV)} {vs} (h:KvIs as vs) (k:K) {a v} (hv:AV.Is a v) :
 KvIs (as.map λkv=>if kv.1=k then (kv.1,a) else kv) (vs.map λkv=>if kv.1=k then (kv.1,v) else kv):=by
 induction h with
 |nil=>exact .nil
 |@cons k' _ _ _ _ h1 _ ih=>
  by_cases q:k'=k
  ·simpa [q] using KvIs.cons hv ih
  ·simpa [q] using KvIs.cons h1 ih
theorem KvIs.put {as:List (K×AV)} {vs} (h:KvIs as vs) (k:K) {a v} (hv:AV.Is a v):KvIs (kput as k a) (stored vs k v):=by
 unfold kput stored
 refine rE (h.any k) ?_
 split
 ·exact h.mapPut k hv
 ·exact h.append (.cons hv .nil)
theorem KvIs.del {as:List (K×AV)} {vs} (h:KvIs as vs) (k:K):KvIs (kdel as k) (PySem.without vs k):=by
 induction h with
 |nil=>exact .nil
 |@cons k' _ _ _ _ h1 _ ih=>
  by_cases q:k'=k
  ·simpa [kdel,PySem.without,q] using ih
  ·simpa [kdel,PySem.without,q] using KvIs.cons h1 ih
end
section
variable (prog:Program) (w:World)
noncomputable abbrev listObj (vs:List Value) (n:Nat):Obj:={ cls:=.type "list",data:=.seq vs.toArray n }
noncomputable abbrev tupObj (vs:List Value):Obj:={ cls:=.type "tuple",data:=.seq vs.toArray }
noncomputable def TabRep (h:Heap) (ps:Array Value) (q:Str):Prop:=
 TriplesOk ps.toList∧∀(pos:Pos) cv,codeAmong pos ps.toList=some cv→∃c,cv=.ref c∧h.CodeRec (.ref c) q
noncomputable def ORep (h:Heap) (a:Addr):AO→Prop
 |.inst C d fs=>h.get? a=some (instObj C d)∧∃kvs,h.DictOf (strKind prog w) d kvs∧KvIs fs kvs
 |.list xs=>∃vs n,h.get? a=some (listObj vs n)∧AllIs xs vs
 |.tup xs=>∃vs,h.get? a=some (tupObj vs)∧AllIs xs vs
 |.sdict kvs=>∃kv',h.DictOf (strKind prog w) a kv'∧KvIs kvs kv'
 |.idict kvs=>∃kv',h.DictOf (intKind prog w) a kv'∧KvIs kvs kv'
 |.tab q=>∃ps,h.get? a=some (tabObj ps)∧TabRep h ps q
 |.lock ep kvs=>∃kv',h.DictAt (strKind prog w) a kv' ep∧KvIs kvs kv'
 |.fix xs vs n=>h.get? a=some (listObj vs n)∧AllIs xs vs
end
noncomputable def Mut (σ:AH) (b:Addr):Prop:=(∃o,σ b=some o)∨∃x C fs,σ x=some (.inst C b fs)
structure Rep (prog:Program) (w:World) (B:Heap) (σ:AH) (h:Heap):Prop where
 obj:∀a o,σ a=some o→ORep prog w h a o
 inj:∀x y C d fs C' fs',σ x=some (.inst C d fs)→σ y=some (.inst C' d fs')→x=y
 off:∀x C d fs,σ x=some (.inst C d fs)→σ d=none
 new:∀b,Mut σ b→B.get? b=none∧2 < b
noncomputable def IsCode (o:Obj):Prop:=∃vs q t,o.data=.fields vs∧vs[1]?=some (.str q t)
noncomputable def Soft (o:Obj):Prop:=(∀v,o.data≠.cell v)∧(∀vs q t,o.data=.fields vs→vs[1]?≠some (.str q t))∧∀f,o.data≠.func f
theorem trip_cases {l:List Value} (h:TriplesOk l):l=[]∨∃a t b u x r,l=.int a t :: .int b u :: x :: r∧TriplesOk r:=by
 rcases l with _|⟨v,_|⟨u,_|⟨x,r⟩⟩⟩
 ·exact .inl rfl
 ·induction v using Value.casesOn<;>exact h.elim
 ·induction v using Value.casesOn with
  |int=>induction u using Value.casesOn<;>exact h.elim
  |_=>exact h.elim
 ·induction v using Value.casesOn with
  |int=>induction u using Value.casesOn with
   |int=>exact .inr ⟨_,_,_,_,_,_,rfl,h⟩
   |_=>exact h.elim
  |_=>exact h.elim
theorem triples_one:∀{l:List Value},TriplesOk l→∀q t,l[1]?≠some (.str q t):=by
 intro l h q t e
 rcases trip_cases h with z|⟨a,t1,b,t2,x,r,z,_⟩
 ·rw[z] at e;exact nn e
 ·rw[z] at e;exact nomatch e
set_option backward.match.sparseCases false in
noncomputable def softT:Data→Bool
 |.cell _|.fields _|.func _=>false
 |_=>true
theorem soft_of {o:Obj} (h:softT o.data=true):Soft o:=
 ⟨(λv q=>by rw[q] at h;cases h),(λvs q t e=>by rw[e] at h;cases h),λf q=>by rw[q] at h;cases h⟩
theorem dict_soft {prog w} {K:Type} [DecidableEq K] {kd:KeyKind prog w K} {h:Heap} {a:Addr} {kv} (D:h.DictOf kd a kv):∃o,h.get? a=some o∧Soft o:=by
 refine xEEEAAA D λo es' ep ho hc hd _=>?_
 exact iEA o ho (soft_of (by refine rE hd ?_;rfl))
theorem mut_obj {prog w B σ h b} (R:Rep prog w B σ h) (m:Mut σ b):∃o,h.get? b=some o∧Soft o:=by
 rcases m with ⟨o,e⟩|⟨x,C,fs,e⟩
 ·have r:=R.obj _ _ e
  induction o with
  |inst C d fs=>exact iEA _ r.1 (soft_of rfl)
  |list xs=>refine xEEA r λvs n e _=>?_;exact iEA _ e (soft_of rfl)
  |tup xs=>refine xEA r λvs e _=>?_;exact iEA _ e (soft_of rfl)
  |sdict kvs=>refine xEA r λkv D _=>?_;exact dict_soft D
  |idict kvs=>refine xEA r λkv D _=>?_;exact dict_soft D
  |lock ep kvs=>(refine xEA r λkv=>?_;(rintro zz;refine xEEAAA zz λo es' ho hc hd _ _=>?_));exact iEA o ho (soft_of (by refine rE hd ?_;rfl))
  |fix xs vs n=>exact iEA _ r.1 (soft_of rfl)
  |tab q=>
   refine xEAA r λps e hT _=>?_
   refine ⟨_,e,(λ_ q=>by exact nC Data.ctorIdx q rfl),(λvs q t e=>?_),λ_ q=>by exact nC Data.ctorIdx q rfl⟩
   cases e
   refine rL (Array.getElem?_toList) ?_
   exact triples_one hT q t
 ·refine xAEA (R.obj _ _ e) λ_ kv D _=>?_
  exact dict_soft D
theorem dictOf_keeps {prog w} {h h':Heap} {K:Type} [DecidableEq K] {knd:KeyKind prog w K} {d:Addr} {kv} (x:h.DictOf knd d kv) (q:∀ob,h.get? d=some ob→h'.get? d=some ob):h'.DictOf knd d kv:=by
 refine xEEEA x λo es ep ho r=>?_
 exact ⟨o,es,ep,q _ ho,r⟩
theorem ORep.keeps {prog w h h'} {a:Addr} {o:AO} (r:ORep prog w h a o)
 (k:∀b ob,h.get? b=some ob→(b=a∨(∃C fs,o=.inst C b fs)∨IsCode ob)→h'.get? b=some ob):ORep prog w h' a o:=by
 induction o with
 |inst C d fs=>
  refine xAEA r λe kv x y=>?_
  exact ⟨k _ _ e (.inl rfl),kv,dictOf_keeps x λob e=>k _ _ e (.inr (.inl ⟨C,fs,rfl⟩)),y⟩
 |list xs=>refine xEEA r λvs n e y=>?_;exact ⟨vs,n,k _ _ e (.inl rfl),y⟩
 |tup xs=>refine xEA r λvs e y=>?_;exact ⟨vs,k _ _ e (.inl rfl),y⟩
 |sdict kvs=>refine xEA r λkv x y=>?_;exact ⟨kv,dictOf_keeps x λob e=>k _ _ e (.inl rfl),y⟩
 |idict kvs=>refine xEA r λkv x y=>?_;exact ⟨kv,dictOf_keeps x λob e=>k _ _ e (.inl rfl),y⟩
 |lock ep kvs=>(refine xEA r λkv=>?_;(rintro zz;refine xEEA zz λo es ho r y=>?_));exact ⟨kv,⟨o,es,k _ _ ho (.inl rfl),r⟩,y⟩
 |fix xs vs n=>exact ⟨k _ _ r.1 (.inl rfl),r.2⟩
 |tab q=>
  refine xEAA r λps e t y=>?_
  refine ⟨ps,k _ _ e (.inl rfl),t,λpos cv hcv=>?_⟩
  (refine xEAEEEEAAA (y pos cv hcv) λc=>?_;rintro rfl c' o vs t e1 e2 e3 e4)
  cases e1
  exact ⟨c,rfl,c,o,vs,t,rfl,k _ _ e2 (.inr (.inr ⟨vs,_,_,e3,e4⟩)),e3,e4⟩
theorem Rep.keeps {prog w B σ h h'} (R:Rep prog w B σ h) (k:∀b ob,h.get? b=some ob→(Mut σ b∨IsCode ob)→h'.get? b=some ob):Rep prog w B σ h':=
 ⟨λa o e=>(R.obj a o e).keeps λb ob eb q=>k b ob eb (by
  rcases q with rfl|⟨C,fs,rfl⟩|q
  ·exact .inl (.inl ⟨o,e⟩)
  ·exact .inl (.inr ⟨a,C,fs,e⟩)
  ·exact .inr q),R.inj,R.off,R.new⟩
noncomputable abbrev NotInst (o:AO):Prop:=∀C d fs,o≠.inst C d fs
theorem mut_up {σ:AH} {a:Addr} {o:AO} (hn:NotInst o) {b:Addr} (m:Mut (up σ a o) b):b=a∨Mut σ b:=by
 rcases m with ⟨o',e⟩|⟨x,C,fs,e⟩
 ·by_cases q:b=a
  ·exact .inl q
  ·rw[up_ne q] at e;exact .inr (.inl ⟨o',e⟩)
 ·by_cases q:x=a
  ·subst q;rw[up_self] at e;(have e:=sJ e;subst e);exact absurd rfl (hn _ _ _)
  ·rw[up_ne q] at e;exact .inr (.inr ⟨x,C,fs,e⟩)
theorem Rep.put {prog w B σ h h'} {a:Addr} {o:AO} (R:Rep prog w B σ h) (hn:NotInst o) (ho:ORep prog w h' a o) (hd:∀x C fs,σ x≠some (.inst C a fs))
 (hB:B.get? a=none∧2 < a) (k:∀b ob,b≠a→h.get? b=some ob→h'.get? b=some ob) (hf:∀ob,h.get? a=some ob→Soft ob):Rep prog w B (up σ a o) h':=by
 refine ⟨λb ob e=>?_,λx y C d fs C' fs' e e'=>?_,λx C d fs e=>?_,λb m=>?_⟩
 ·by_cases q:b=a
  ·subst q;rw[up_self] at e;(have e:=sJ e;subst e);exact ho
  ·rw[up_ne q] at e
   refine (R.obj b ob e).keeps λc oc ec z=>k c oc (λw=>?_) ec
   subst w
   rcases z with rfl|⟨C,fs,rfl⟩|⟨vs,qn,t,z1,z2⟩
   ·exact q rfl
   ·exact hd _ _ _ e
   ·exact (hf _ ec).2.1 _ _ _ z1 z2
 ·have hx:x≠a:=λz=>by subst z;rw[up_self] at e;(have e:=sJ e;subst e);exact hn _ _ _ rfl
  have hy:y≠a:=λz=>by subst z;rw[up_self] at e';(have e':=sJ e';subst e');exact hn _ _ _ rfl
  rw[up_ne hx] at e
  rw[up_ne hy] at e'
  exact R.inj x y C d fs C' fs' e e'
 ·have hx:x≠a:=λz=>by subst z;rw[up_self] at e;(have e:=sJ e;subst e);exact hn _ _ _ rfl
  rw[up_ne hx] at e
  refine rE (up_ne (λz:d=a=>hd x C fs (by rw[←z];exact e))) ?_
  exact R.off x C d fs e
 ·rcases mut_up hn m with rfl|m
  ·exact hB
  ·exact R.new b m
theorem mut_swap {σ:AH} {a:Addr} {o o':AO} (ha:σ a=some o) (hn':NotInst o') {b:Addr} (m:Mut (up σ a o') b):Mut σ b:=by
 rcases mut_up hn' m with rfl|m
 ·exact .inl ⟨o,ha⟩
 ·exact m
theorem Rep.swap {prog w B σ h} {a:Addr} {o o':AO} (R:Rep prog w B σ h) (ha:σ a=some o) (hn':NotInst o') (ho:ORep prog w h a o'):Rep prog w B (up σ a o') h:=by
 refine xEA (mut_obj R (.inl ⟨o,ha⟩)) λob e hs=>?_
 exact R.put hn' ho (λx C fs q=>by have:=R.off x C a fs q;rw[ha] at this;exact nS this) (R.new a (.inl ⟨o,ha⟩)) (λ_ _ _ e=>e) λob' e'=>by rw[e] at e';(have e':=sJ e';subst e');exact hs
theorem get_none_size {h:Heap}:h.get? h.objs.size=none:=Heap.get?_none_of_le (Nat.le_refl _)
theorem base_none {B h:Heap} (k:B.StaysIn h) {b:Addr} (e:h.get? b=none):B.get? b=none:=by
 induction q:B.get? b with
 |none=>rfl
 |some o=>rw[k b o q] at e;exact nS e
theorem not_mut_new {prog w B σ h} (R:Rep prog w B σ h) {b:Addr} (e:h.get? b=none):¬Mut σ b:=λm=>by
 refine xEA (mut_obj R m) λo e' _=>?_
 rw[e] at e';exact nn e'
theorem Rep.push {prog w B σ h} {o:AO} {ob:Obj} (R:Rep prog w B σ h) (hB:B.StaysIn h) (h2:2 < h.objs.size) (hn:NotInst o) (ho:ORep prog w (h.push ob) h.objs.size o) :
 Rep prog w B (up σ h.objs.size o) (h.push ob):=
 R.put hn ho (λx C fs e=>not_mut_new R get_none_size (.inr ⟨x,C,fs,e⟩)) ⟨base_none hB get_none_size,h2⟩ (λ_ _ _ e=>Heap.get?_push_of_some _ e) λ_ e=>by rw[get_none_size] at e;exact nn e
theorem Rep.pushInst {prog w B σ h} {C:Addr} (R:Rep prog w B σ h) (hB:B.StaysIn h) (h2:2 < h.objs.size) :
 Rep prog w B (up σ (h.objs.size + 1) (.inst C h.objs.size [])) ((h.push emptyDict).push (instObj C h.objs.size)):=by
 have sz:(h.push emptyDict).objs.size=h.objs.size + 1:=Heap.size_push ..
 have n1:h.get? (h.objs.size + 1)=none:=Heap.get?_none_of_le (Nat.le_succ _)
 have k:∀b ob,h.get? b=some ob→((h.push emptyDict).push (instObj C h.objs.size)).get? b=some ob:=λb ob e=>Heap.get?_push_of_some _ (Heap.get?_push_of_some _ e)
 have nm0:=not_mut_new R (get_none_size (h:=h))
 have nm1:=not_mut_new R n1
 have R':=R.keeps (h':=(h.push emptyDict).push (instObj C h.objs.size)) λb ob e _=>k b ob e
 refine ⟨λb ob e=>?_,λx y D d fs D' fs' e e'=>?_,λx D d fs e=>?_,λb m=>?_⟩
 ·by_cases q:b=h.objs.size + 1
  ·subst q;rw[up_self] at e;(have e:=sJ e;subst e)
   refine ⟨?_,[],(Heap.DictOf.new h).push _,.nil⟩
   have:=Heap.get?_push_size (h.push emptyDict) (o:=instObj C h.objs.size) rfl
   rwa [sz] at this
  ·rw[up_ne q] at e;exact R'.obj b ob e
 ·by_cases hx:x=h.objs.size + 1
  ·subst hx;rw[up_self] at e;cases e
   by_cases hy:y=h.objs.size + 1
   ·exact hy.symm
   ·rw[up_ne hy] at e';exact absurd (.inr ⟨y,D',fs',e'⟩) nm0
  ·rw[up_ne hx] at e
   by_cases hy:y=h.objs.size + 1
   ·subst hy;rw[up_self] at e';cases e';exact absurd (.inr ⟨x,D,fs,e⟩) nm0
   ·rw[up_ne hy] at e';exact R.inj x y D d fs D' fs' e e'
 ·by_cases hx:x=h.objs.size + 1
  ·subst hx;rw[up_self] at e;cases e
   refine rE (up_ne (Nat.ne_of_lt (Nat.lt_succ_self _))) ?_
   induction q:σ h.objs.size with
   |none=>rfl
   |some o=>exact absurd (.inl ⟨o,q⟩) nm0
  ·rw[up_ne hx] at e
   refine rE (up_ne (λz:d=_=>nm1 (.inr ⟨x,D,fs,by rw[←z];exact e⟩))) ?_
   exact R.off x D d fs e
 ·rcases m with ⟨o',e⟩|⟨x,D,fs,e⟩
  ·by_cases q:b=h.objs.size + 1
   ·subst q;exact ⟨base_none hB n1,Nat.lt_succ_of_lt h2⟩
   ·rw[up_ne q] at e;exact R.new b (.inl ⟨o',e⟩)
  ·by_cases q:x=h.objs.size + 1
   ·subst q;rw[up_self] at e;cases e;exact ⟨base_none hB get_none_size,h2⟩
   ·rw[up_ne q] at e;exact R.new b (.inr ⟨x,D,fs,e⟩)
theorem Rep.setInst {prog w B σ h h'} {x C d:Addr} {fs fs':List (Str×AV)} {kv} (R:Rep prog w B σ h) (hx:σ x=some (.inst C d fs)) (hd:h'.DictOf (strKind prog w) d kv) (hk:KvIs fs' kv)
 (k:∀b ob,b≠d→h.get? b=some ob→h'.get? b=some ob):Rep prog w B (up σ x (.inst C d fs')) h':=by
 have hxd:x≠d:=λz=>by have:=R.off x C d fs hx;rw[←z,hx] at this;exact nS this
 refine xEA (mut_obj R (.inr ⟨x,C,fs,hx⟩)) λod eod sod=>?_
 have old:∀b D e gs,up σ x (.inst C d fs') b=some (.inst D e gs)→∃gs',σ b=some (.inst D e gs'):=λb D e gs q=>by
  by_cases z:b=x
  ·subst z;rw[up_self] at q;cases q;exact ⟨fs,hx⟩
  ·rw[up_ne z] at q;exact ⟨gs,q⟩
 refine ⟨λb ob e=>?_,λa b D e gs D' gs' e1 e2=>?_,λa D e gs e1=>?_,λb m=>?_⟩
 ·by_cases q:b=x
  ·subst q;rw[up_self] at e;(have e:=sJ e;subst e)
   exact ⟨k _ _ hxd (R.obj b _ hx).1,kv,hd,hk⟩
  ·rw[up_ne q] at e
   refine (R.obj b ob e).keeps λc oc ec z=>k c oc (λw=>?_) ec
   subst w
   rcases z with rfl|⟨D,gs,rfl⟩|⟨vs,qn,t,z1,z2⟩
   ·rw[R.off x C c fs hx] at e;exact nn e
   ·exact q (R.inj _ _ _ _ _ _ _ e hx)
   ·rw[eod] at ec;(have ec:=sJ ec;subst ec);exact sod.2.1 _ _ _ z1 z2
 ·obtain ⟨_,q1⟩:=old _ _ _ _ e1
  obtain ⟨_,q2⟩:=old _ _ _ _ e2
  exact R.inj a b D e _ D' _ q1 q2
 ·obtain ⟨_,q1⟩:=old _ _ _ _ e1
  have:=R.off a D e _ q1
  refine rE (up_ne (λz=>by rw[z,hx] at this;exact nS this)) ?_;exact this
 ·rcases m with ⟨o',e⟩|⟨y,D,gs,e⟩
  ·by_cases q:b=x
   ·subst q;exact R.new b (.inl ⟨_,hx⟩)
   ·rw[up_ne q] at e;exact R.new b (.inl ⟨o',e⟩)
  ·obtain ⟨_,q⟩:=old _ _ _ _ e;exact R.new b (.inr ⟨y,D,_,q⟩)
theorem mut_setInst {σ:AH} {x C d:Addr} {fs fs':List (Str×AV)} (hx:σ x=some (.inst C d fs)) {b:Addr} (m:Mut (up σ x (.inst C d fs')) b):Mut σ b:=by
 rcases m with ⟨o',e⟩|⟨y,D,gs,e⟩
 ·by_cases q:b=x
  ·subst q;exact .inl ⟨_,hx⟩
  ·rw[up_ne q] at e;exact .inl ⟨o',e⟩
 ·by_cases q:y=x
  ·subst q;rw[up_self] at e;cases e;exact .inr ⟨y,C,fs,hx⟩
  ·rw[up_ne q] at e;exact .inr ⟨y,D,gs,e⟩
noncomputable abbrev frs (l:List Env):List Addr:=l.filterMap (·.frame)
structure Ev (l:List Env) (own:Addr→Prop) (σ:AH) (s:Shared) (σ':AH) (s':Shared):Prop where
 kp:∀b o,s.heap.get? b=some o→¬Mut σ b→¬own b→∃o',s'.heap.get? b=some o'∧(o'=o∨(b∈frs l∧∃sl,o'={ o with slots:=sl }))
 fr:∀b,Mut σ' b→Mut σ b∨s.heap.get? b=none
 th:∀b,s'.heap.get? b=none→s.heap.get? b=none
 same:s'.gens=s.gens∧s'.drawn=s.drawn∧s'.os=s.os
noncomputable abbrev none':Addr→Prop:=λ_=>False
theorem Ev.refl (l own) (σ:AH) (s:Shared):Ev l own σ s σ s:=⟨λ_ o e _ _=>⟨o,e,.inl rfl⟩,λ_ m=>.inl m,λ_ e=>e,rfl,rfl,rfl⟩
theorem Ev.trans {l own} {σ σ₁ σ₂:AH} {s s₁ s₂:Shared} (x:Ev l own σ s σ₁ s₁) (y:Ev l own σ₁ s₁ σ₂ s₂):Ev l own σ s σ₂ s₂:=by
 have nm:∀b o,s.heap.get? b=some o→¬Mut σ b→¬Mut σ₁ b:=λb o e nm m=>(x.fr b m).elim nm λq=>by rw[q] at e;exact nn e
 refine ⟨λb o e m n=>?_,λb m=>?_,λb e=>x.th b (y.th b e),y.same.1.trans x.same.1,y.same.2.1.trans x.same.2.1,y.same.2.2.trans x.same.2.2⟩
 ·refine xEA (x.kp b o e m n) λo₁ e₁ h₁=>?_
  refine xEA (y.kp b o₁ e₁ (nm b o e m) n) λo₂ e₂ h₂=>?_
  refine iEA o₂ e₂ ?_
  rcases h₁ with rfl|⟨f,sl,rfl⟩
  ·exact h₂
  ·rcases h₂ with rfl|⟨_,sl',rfl⟩
   ·exact .inr ⟨f,sl,rfl⟩
   ·exact .inr ⟨f,sl',rfl⟩
 ·rcases y.fr b m with q|q
  ·exact x.fr b q
  ·exact .inr (x.th b q)
theorem Ev.mono {l} {own own':Addr→Prop} {σ σ' s s'} (x:Ev l own σ s σ' s') (h:∀b,own b→own' b):Ev l own' σ s σ' s':=
 ⟨λb o e m n=>x.kp b o e m λq=>n (h b q),x.fr,x.th,x.same⟩
noncomputable abbrev Loc:=List (Str×Option AV)
noncomputable def Loc.get (ρ:Loc) (x:Str):Option AV:=(ρ.lookup x).join
noncomputable def Loc.set:Loc→Str→AV→Loc
 |[],_,_=>[]
 |(y,o) :: r,x,v=>bif x == y then (y,some v) :: r else (y,o) :: Loc.set r x v
theorem Loc.set_c {r:Loc} {x y:Str} {o:Option AV} {v:AV}:Loc.set ((y,o) :: r) x v=bif x == y then (y,some v) :: r else (y,o) :: Loc.set r x v:=rfl
structure LocOk (env:Env) (ρ:Loc) (h:Heap):Prop where
 ns:∃m,h.Ns env.locals m∧∀x a,env.kindOf x=some .local→ρ.get x=some a→∃v,m x=some v∧AV.Is a v
 cell:∀x c,env.cells.lookup x=some c→∃v,h.IsCell c v∧∀a,(env.kindOf x=some .cell∨env.kindOf x=some .free)→ρ.get x=some a→∃u,v=some u∧AV.Is a u
 has:∀x,(env.kindOf x=some .cell∨env.kindOf x=some .free)→(env.cells.lookup x).isSome=true
 apart:env.cells.Pairwise λx y=>x.2≠y.2
noncomputable def so (a:Addr):Option AO:=
 if a=657 then some (.tup [AV.str (Str.ofString "Kernel"),AV.str (Str.ofString "Comparable"),AV.str (Str.ofString "Enumerable")])
 else if a=658 then some (.sdict [(Str.ofString "BasicObject",AV.none),(Str.ofString "Object",AV.str (Str.ofString "BasicObject")),(Str.ofString "Module",AV.str (Str.ofString "Object")),(Str.ofString "Class",AV.str (Str.ofString "Module")),(Str.ofString "Kernel",AV.none),(Str.ofString "Comparable",AV.none),(Str.ofString "Enumerable",AV.none),
  (Str.ofString "NilClass",AV.str (Str.ofString "Object")),(Str.ofString "TrueClass",AV.str (Str.ofString "Object")),(Str.ofString "FalseClass",AV.str (Str.ofString "Object")),(Str.ofString "Numeric",AV.str (Str.ofString "Object")),(Str.ofString "Integer",AV.str (Str.ofString "Numeric")),(Str.ofString "String",AV.str (Str.ofString "Object")),(Str.ofString "Symbol",AV.str (Str.ofString "Object")),
  (Str.ofString "Array",AV.str (Str.ofString "Object")),(Str.ofString "Hash",AV.str (Str.ofString "Object")),(Str.ofString "Range",AV.str (Str.ofString "Object")),(Str.ofString "Proc",AV.str (Str.ofString "Object")),(Str.ofString "Fiber",AV.str (Str.ofString "Object")),(Str.ofString "Exception",AV.str (Str.ofString "Object")),(Str.ofString "ScriptError",AV.str (Str.ofString "Exception")),
  (Str.ofString "NotImplementedError",AV.str (Str.ofString "ScriptError")),(Str.ofString "SystemStackError",AV.str (Str.ofString "Exception")),(Str.ofString "StandardError",AV.str (Str.ofString "Exception")),(Str.ofString "ArgumentError",AV.str (Str.ofString "StandardError")),(Str.ofString "UncaughtThrowError",AV.str (Str.ofString "ArgumentError")),
  (Str.ofString "FiberError",AV.str (Str.ofString "StandardError")),(Str.ofString "IndexError",AV.str (Str.ofString "StandardError")),(Str.ofString "KeyError",AV.str (Str.ofString "IndexError")),(Str.ofString "StopIteration",AV.str (Str.ofString "IndexError")),(Str.ofString "LocalJumpError",AV.str (Str.ofString "StandardError")),
  (Str.ofString "NameError",AV.str (Str.ofString "StandardError")),(Str.ofString "NoMethodError",AV.str (Str.ofString "NameError")),(Str.ofString "NoMatchingPatternError",AV.str (Str.ofString "StandardError")),(Str.ofString "NoMatchingPatternKeyError",AV.str (Str.ofString "NoMatchingPatternError")),
  (Str.ofString "RangeError",AV.str (Str.ofString "StandardError")),(Str.ofString "RuntimeError",AV.str (Str.ofString "StandardError")),(Str.ofString "FrozenError",AV.str (Str.ofString "RuntimeError")),(Str.ofString "TypeError",AV.str (Str.ofString "StandardError")),(Str.ofString "ZeroDivisionError",AV.str (Str.ofString "StandardError"))])
 else if a=661 then some (.sdict [(Str.ofString "Object",AV.ref 662),(Str.ofString "Numeric",AV.ref 663),(Str.ofString "String",AV.ref 664),(Str.ofString "Symbol",AV.ref 665),(Str.ofString "Array",AV.ref 666),(Str.ofString "Hash",AV.ref 667),(Str.ofString "Range",AV.ref 668)])
 else if a=662 then some (.tup [AV.str (Str.ofString "Kernel")])
 else if a=663 then some (.tup [AV.str (Str.ofString "Comparable")])
 else if a=664 then some (.tup [AV.str (Str.ofString "Comparable")])
 else if a=665 then some (.tup [AV.str (Str.ofString "Comparable")])
 else if a=666 then some (.tup [AV.str (Str.ofString "Enumerable")])
 else if a=667 then some (.tup [AV.str (Str.ofString "Enumerable")])
 else if a=668 then some (.tup [AV.str (Str.ofString "Enumerable")])
 else none
structure Big (B:Heap):Prop where
 low:∃b o,2 < b∧B.get? b=some o
 so:∀a,(so a).isSome=true→B.get? a≠none
structure WS (prog:Program) (w:World) (B:Heap) (l:List Env) (σ:AH) (s:Shared):Prop where
 stays:B.StaysIn s.heap
 frames:s.heap.FunFrames B l
 rep:Rep prog w B σ s.heap
 sep:∀b∈frs l,¬Mut σ b
 big:Big B
structure FS (prog:Program) (w:World) (B:Heap) (l:List Env) (env:Env) (ρ:Loc) (σ:AH) (s:Shared):Prop where
 ws:WS prog w B l σ s
 loc:LocOk env ρ s.heap
 sepL:¬Mut σ env.locals
theorem funFrames_ev {B:Heap} {l' l:List Env} {own σ s σ' s'} (E:Ev l' own σ s σ' s') (hf:s.heap.FunFrames B l) (hs:∀b∈frs l,¬Mut σ b) (ho:∀b∈frs l,¬own b):s'.heap.FunFrames B l:=by
 induction l with
 |nil=>trivial
 |cons env r ih=>
  (refine xAA hf λhk=>?_;(rintro zz;refine xEEAAA zz λL o hl hn ho' hd hr=>?_))
  have mem:L∈frs (env :: r):=by simp[frs,hl]
  refine xEA (E.kp L o ho' (hs L mem) (ho L mem)) λo' e' q=>?_
  have sub:∀b,b∈frs r→b∈frs (env :: r):=λb hb=>by simp only[frs,List.filterMap_cons,hl];exact List.mem_cons_of_mem _ hb
  refine ⟨hk,⟨L,o',hl,hn,e',?_⟩,ih hr (λb hb=>hs b (sub b hb)) λb hb=>ho b (sub b hb)⟩
  rcases q with rfl|⟨_,sl,rfl⟩<;>exact hd
theorem WS.ev {prog w B l own σ s σ' s'} (W:WS prog w B l σ s) (E:Ev l own σ s σ' s') (ho:∀b∈frs l,¬own b) (hB:B.StaysIn s'.heap) (R:Rep prog w B σ' s'.heap):WS prog w B l σ' s':=
 ⟨hB,funFrames_ev E W.frames W.sep ho,R,(λb hb m=>by
  rcases E.fr b m with q|q
  ·exact W.sep b hb q
  ·refine xAEA (W.frames.mem hb) λ_ o e _=>?_
   rw[q] at e;exact nn e),W.big⟩
theorem WS.big2 {prog w B l σ s} (W:WS prog w B l σ s):2 < s.heap.objs.size:=by
 refine xEEA W.big.low λb o h e=>?_
 exact Nat.lt_trans h (Heap.lt_size (W.stays b o e))
theorem WS.soNone {prog w B l σ s} (W:WS prog w B l σ s) {a:Addr} (e:B.get? a=none):Internal.so a=none:=by
 induction q:Internal.so a with
 |none=>rfl
 |some o=>exact absurd e (W.big.so a (by refine rE q ?_;rfl))
theorem ns_ev {l own σ s σ' s'} {L:Addr} {m} (E:Ev l own σ s σ' s') (hn:s.heap.Ns L m) (h1:¬Mut σ L) (h2:¬own L):s'.heap.Ns L m:=by
 refine xEEEAA hn λo es ep ho hd r=>?_
 refine xEA (E.kp L o ho h1 h2) λo' e' q=>?_
 rcases q with rfl|⟨_,sl,rfl⟩
 ·exact ⟨_,es,ep,e',hd,r⟩
 ·exact ⟨_,es,ep,e',hd,r⟩
theorem cell_ev {l own σ s σ' s'} {c:Addr} {v} (E:Ev l own σ s σ' s') (hn:s.heap.IsCell c v) (h1:¬Mut σ c) (h2:¬own c):s'.heap.IsCell c v:=by
 refine xEA hn λo ho hd=>?_
 refine xEA (E.kp c o ho h1 h2) λo' e' q=>?_
 rcases q with rfl|⟨_,sl,rfl⟩
 ·exact ⟨_,e',hd⟩
 ·exact ⟨_,e',hd⟩
theorem cell_not_mut {prog w B σ h} {c:Addr} {v} (R:Rep prog w B σ h) (hc:h.IsCell c v):¬Mut σ c:=λm=>by
 refine xEA (mut_obj R m) λo e hs=>?_
 refine xEA hc λo' e' hd=>?_
 rw[e] at e';(have e':=sJ e';subst e')
 exact hs.1 _ hd
theorem LocOk.ev {prog w B l own σ s σ' s'} {env:Env} {ρ:Loc} (X:LocOk env ρ s.heap) (E:Ev l own σ s σ' s') (R:Rep prog w B σ s.heap) (h1:¬Mut σ env.locals) (h2:¬own env.locals) (h3:∀x c,env.cells.lookup x=some c→¬own c):LocOk env ρ s'.heap:=by
 refine ⟨?_,λx c e=>?_,X.has,X.apart⟩
 ·refine xEA X.ns λm hn k=>?_
  exact iEA m (ns_ev E hn h1 h2) k
 ·refine xEA (X.cell x c e) λv hv k=>?_
  exact iEA v (cell_ev E hv (cell_not_mut R hv) (h3 x c e)) k
theorem ns_some {prog w B l env ρ σ s} (F:FS prog w B l env ρ σ s):s.heap.get? env.locals≠none:=by
 (refine xEA F.loc.ns λm=>?_;(rintro zz;refine xEEEA zz λo es ep ho _ _=>?_))
 refine rE ho ?_;exact λq=>by exact nS q
theorem FS.ev {prog w B l own σ s σ' s'} {env:Env} {ρ:Loc} (F:FS prog w B l env ρ σ s) (E:Ev l own σ s σ' s') (hB:B.StaysIn s'.heap) (R:Rep prog w B σ' s'.heap)
 (ho:∀b∈frs l,¬own b) (h2:¬own env.locals) (h3:∀x c,env.cells.lookup x=some c→¬own c):FS prog w B l env ρ σ' s':=
 ⟨F.ws.ev E ho hB R,F.loc.ev E F.ws.rep F.sepL h2 h3,λm=>by
  rcases E.fr _ m with q|q
  ·exact F.sepL q
  ·exact ns_some F q⟩
theorem FS.ev0 {prog w B l σ s σ' s'} {env:Env} {ρ:Loc} (F:FS prog w B l env ρ σ s) (E:Ev l none' σ s σ' s') (hB:B.StaysIn s'.heap) (R:Rep prog w B σ' s'.heap):FS prog w B l env ρ σ' s':=
 F.ev E hB R (λ_ _=>id) id λ_ _ _=>id
theorem FS.tok {prog w B l env ρ σ} {s:Shared} (F:FS prog w B l env ρ σ s) (t:Tok):FS prog w B l env ρ σ { s with toks:=t }:=
 ⟨⟨F.ws.stays,F.ws.frames,F.ws.rep,F.ws.sep,F.ws.big⟩,F.loc,F.sepL⟩
theorem Ev.tokR {l own σ s σ'} {s':Shared} (x:Ev l own σ s σ' s') (t:Tok):Ev l own σ s σ' { s' with toks:=t }:=⟨x.kp,x.fr,x.th,x.same⟩
theorem Ev.heap {l own} {σ σ':AH} {s:Shared} {h':Heap} {t:Tok} (k:∀b o,s.heap.get? b=some o→¬Mut σ b→¬own b→h'.get? b=some o) (f:∀b,Mut σ' b→Mut σ b∨s.heap.get? b=none) (z:∀b,h'.get? b=none→s.heap.get? b=none) :
 Ev l own σ s σ' { s with heap:=h',toks:=t }:=⟨λb o e m n=>⟨o,k b o e m n,.inl rfl⟩,f,z,rfl,rfl,rfl⟩
theorem th_of {h h':Heap} (k:∀b o,h.get? b=some o→h'.get? b=some o) (b:Addr) (e:h'.get? b=none):h.get? b=none:=by
 induction q:h.get? b with
 |none=>rfl
 |some o=>rw[k b o q] at e;exact nS e
theorem th_but {h h':Heap} {a:Addr} {o:Obj} (sb:Heap.SameBut a h h') (ho:h'.get? a=some o) (b:Addr) (e:h'.get? b=none):h.get? b=none:=by
 by_cases q:b=a
 ·subst q;rw[ho] at e;exact nS e
 ·exact (sb.2 b q).symm.trans e
noncomputable def gtab:List (Str×Addr):=[
 (Str.ofString "Thing",40),(Str.ofString "Text",62),(Str.ofString "ListThing",82),(Str.ofString "TableThing",120),(Str.ofString "RangeThing",140),(Str.ofString "ProcThing",161),(Str.ofString "ErrorThing",181),(Str.ofString "ModuleThing",228),(Str.ofString "Entry",256),
 (Str.ofString "sort_of",267),(Str.ofString "same",274),(Str.ofString "full_name",308),(Str.ofString "show_thing",346),(Str.ofString "show",361),(Str.ofString "has_thing",368),(Str.ofString "own_line",375),(Str.ofString "ahead_count",380),(Str.ofString "made_line",385),
 (Str.ofString "line_of",392),(Str.ofString "given_entry",420),(Str.ofString "entry_at",427),(Str.ofString "first_entry",434),(Str.ofString "find",441),(Str.ofString "find_behind",448),(Str.ofString "raise_version",455),(Str.ofString "need_unfrozen",462),
 (Str.ofString "own_module",469),(Str.ofString "define",476),(Str.ofString "place_entry",483),(Str.ofString "kind_word",490),(Str.ofString "need_entry",497),(Str.ofString "undefine",504),(Str.ofString "remove",511),(Str.ofString "copied",518),(Str.ofString "alias",525),
 (Str.ofString "set_sight",532),(Str.ofString "need_mixin",539),(Str.ofString "include",546),(Str.ofString "prepend",553),(Str.ofString "extend",560),(Str.ofString "NoCache",584),(Str.ofString "CallCache",612),(Str.ofString "Raised",654),(Str.ofString "MODULES",657),(Str.ofString "BUILTINS",658),(Str.ofString "MIXED",661),
 (Str.ofString "World",924),(Str.ofString "_law_parts",933),(Str.ofString "_law_line",938),(Str.ofString "_law_seek",945),(Str.ofString "_law_shown",952),(Str.ofString "_law_scene",966),(Str.ofString "_law_asked_right",973),
 (Str.ofString "_law_mixed_due",978),(Str.ofString "_law_mixing_right",985),(Str.ofString "_law_entry_right",992),(Str.ofString "_law_deed_right",999)]
noncomputable def fldT:List Str:=["number","owner","fields","own","frozen","ident"]
noncomputable def ftab:List (Addr×List Str):=[
 (40,fldT),(62,fldT ++ [(Str.ofString "text")]),(181,fldT ++ [(Str.ofString "message"),(Str.ofString "cause")]),
 (228,fldT ++ [(Str.ofString "name"),(Str.ofString "is_class"),(Str.ofString "parent"),(Str.ofString "outer"),(Str.ofString "methods"),(Str.ofString "constants"),(Str.ofString "mixed"),(Str.ofString "ahead"),(Str.ofString "attached"),(Str.ofString "native"),(Str.ofString "kept")]),
 (256,["name","owner","sort","params","body","sight","nesting","code"]),
 (584,["hits","misses"]),(612,["version","number","name","entry","hits","misses"]),
 (924,["natives","prelude","read","most","taken","last_number","last_ident","symbol_idents","made","version","const_version","globals","out","is_ready","main"])]
noncomputable def fieldOk (C:Addr) (n:Str):Bool:=(ftab.lookup C).any (·.contains n)
noncomputable def mtab:List (Addr×List (Str×Addr)):=[
 (256,[("moved",253)]),(584,[("look",581)]),(612,[("look",609)]),
 (924,[("number",705),("builtin",726),("make_builtin",731),("give_own",738),("new_module",746),("class_of",753),("text",788),("error",851),("fail",858)])]
noncomputable def methodOf (C:Addr) (n:Str):Option Addr:=(mtab.lookup C).bind (·.lookup n)
noncomputable def cattr (C:Addr) (n:Str):Option Addr:=if C=40 && n == "__init__" then some 37 else none
noncomputable def itab:List (Addr×Addr):=[(40,37),(62,59),(181,178),(228,218),(256,245),(584,574),(612,602),(924,684)]
noncomputable def isaTab:List (Addr×List Addr):=[(40,[40]),(62,[62,40]),(181,[181,40]),(228,[228,40])]
noncomputable def isa (D C:Addr):Option Bool:=(isaTab.lookup D).map (·.contains C)
noncomputable def AO.opened:AO→AO
 |.lock _ kvs=>.sdict kvs
 |.fix xs _ _=>.list xs
 |o=>o
noncomputable def rd (σ:AH) (a:Addr):Option AO:=match σ a with|some o=>some o.opened|none=>so a
structure Cx where
 nm:List (Str×NameKind)
 d:Nat
 call:Nat→Addr→List AV→AH→Post→Post→Prop
 X:Post
 tab:Option (Addr×Str)
inductive Fl where
 |next|brk|cont|ret (v:AV)
noncomputable abbrev SPost:=Fl→Loc→AH→Prop
noncomputable def onInt (P:Int→Prop) (v:AV):Prop:=match v with
 |.int i=>P i
 |_=>False
noncomputable def onRef (P:Addr→Prop) (v:AV):Prop:=match v with
 |.ref a=>P a
 |_=>False
noncomputable def onStr (P:Str→Prop) (v:AV):Prop:=match v with
 |.str x=>P x
 |_=>False
noncomputable def onBool (P:Bool→Prop) (v:AV):Prop:=match v with
 |.bool b=>P b
 |_=>False
@[elab_as_elim] theorem onInt_e {P:Int→Prop} {v:AV} {motive:Value→Prop} {o:Value} (h:onInt P v) (i:v.Is o) (k:∀n t,P n→motive (.int n t)):motive o:=by
 induction v with
 |int n=>induction i with|intro t e=>exact e▸k n t h
 |_=>exact h.elim
@[elab_as_elim] theorem onRef_e {P:Addr→Prop} {v:AV} {motive:Value→Prop} {o:Value} (h:onRef P v) (i:v.Is o) (k:∀a,P a→motive (.ref a)):motive o:=by
 induction v with
 |ref a=>subst i;exact k a h
 |_=>exact h.elim
@[elab_as_elim] theorem onStr_e {P:Str→Prop} {v:AV} {motive:Value→Prop} {o:Value} (h:onStr P v) (i:v.Is o) (k:∀x t,P x→motive (.str x t)):motive o:=by
 induction v with
 |str x=>induction i with|intro t e=>exact e▸k x t h
 |_=>exact h.elim
@[elab_as_elim] theorem onBool_e {P:Bool→Prop} {v:AV} {motive:Value→Prop} {o:Value} (h:onBool P v) (i:v.Is o) (k:∀b,P b→motive (.bool b)):motive o:=by
 induction v with
 |bool b=>subst i;exact k b h
 |_=>exact h.elim
noncomputable abbrev BPost:=Bool→AH→Prop
noncomputable abbrev LPost:=List AV→AH→Prop
noncomputable abbrev EPost:=Loc→AH→Prop
structure Ops where
 E:Cx→Expr→Loc→AH→Post→Prop
 T:Cx→Expr→Loc→AH→BPost→Prop
 S:Cx→List Stmt→Loc→AH→SPost→Prop
noncomputable def chk (b:Bool) (P:Prop):Prop:=match b with
 |true=>P
 |false=>False
theorem chk_iff {b:Bool} {P:Prop} (h:chk b P):b=true∧P:=by induction b with|true=>exact ⟨rfl,h⟩|false=>exact h.elim
noncomputable def rdl (σ:AH) (a:Addr) (xs:List AV):Prop:=rd σ a=some (.list xs)∨rd σ a=some (.tup xs)
noncomputable def okName (x:Str):Bool:=!(x == "__debug__") && !(x == "__classdict__")
noncomputable def qCons (v:AV) (Q:LPost):LPost:=λvs σ=>Q (v :: vs) σ
noncomputable def qEvs (f:AH→LPost→Prop) (Q:LPost):Post:=λv σ=>f σ (qCons v Q)
set_option backward.match.sparseCases false in
noncomputable def evs (R:Ops) (Γ:Cx) (ρ:Loc):List Expr→AH→LPost→Prop
 |[],σ,Q=>Q [] σ
 |.Starred _ _ :: _,_,_=>False
 |e :: r,σ,Q=>R.E Γ e ρ σ (qEvs (evs R Γ ρ r) Q)
noncomputable abbrev KPost:=List (Str×AV)→AH→Prop
noncomputable def qKV3 (x:Str) (v:AV) (Q:KPost):KPost:=λr σ=>Q ((x,v) :: r) σ
noncomputable def qKV2 (f:AH→KPost→Prop) (k:AV) (Q:KPost):Post:=λv σ=>onStr (λx=>f σ (qKV3 x v Q)) k
noncomputable def qKV (R:Ops) (v:Expr) (Γ:Cx) (ρ:Loc) (f:AH→KPost→Prop) (Q:KPost):Post:=λk σ=>R.E Γ v ρ σ (qKV2 f k Q)
noncomputable def evKV (R:Ops) (Γ:Cx) (ρ:Loc):List (Option Expr)→List Expr→AH→KPost→Prop
 |[],[],σ,Q=>Q [] σ
 |some k :: ks,v :: vs,σ,Q=>R.E Γ k ρ σ (qKV R v Γ ρ (evKV R Γ ρ ks vs) Q)
 |_,_,_,_=>False
noncomputable def pairUp:List (Option Expr)→List Expr→Bool
 |[],[]=>true
 |some _ :: ks,_ :: vs=>pairUp ks vs
 |_,_=>false
structure Fresh (σ:AH) (a:Addr):Prop where
 no:σ a=none
 so:so a=none
theorem freshAt {prog:Program} {w:World} {B:Heap} {l:List Env} {σ:AH} {s:Shared} (W:WS prog w B l σ s) {a:Addr} (e:s.heap.get? a=none):Fresh σ a:=
 ⟨by
  induction q:σ a with
  |none=>rfl
  |some o=>exact absurd (.inl ⟨o,q⟩) (not_mut_new W.rep e),W.soNone (base_none W.stays e)⟩
noncomputable def newAt (σ:AH) (o:AO) (Q:Post):Prop:=∀a τ,Fresh σ a→τ=up σ a o→Q (.ref a) τ
noncomputable def AV.isNone:AV→Bool
 |.none=>true
 |_=>false
noncomputable def AV.feq (a b:AV):Option Bool:=match a with
 |.none=>match b with
  |.none=>some true
  |.str _=>some false
  |.int _=>some false
  |_=>Option.none
 |.bool x=>match b with
  |.bool y=>some (x == y)
  |_=>Option.none
 |.int i=>match b with
  |.int j=>some (decide (i=j))
  |.none=>some false
  |_=>Option.none
 |.str x=>match b with
  |.str y=>some (decide (x=y))
  |.none=>some false
  |_=>Option.none
 |.ref _=>Option.none
noncomputable def andO (a b:Option Bool):Option Bool:=match a with
 |some x=>match b with
  |some y=>some (x && y)
  |none=>none
 |none=>none
theorem andO_e {a b:Option Bool} {r:Bool} (h:andO a b=some r):∃x y,a=some x∧b=some y∧r=(x && y):=by
 induction a with
 |none=>exact nn h
 |some x=>induction b with
  |none=>exact nn h
  |some y=>exact iEEAA x y rfl rfl ((Option.some.inj h).symm)
noncomputable def feqs:List AV→List AV→Option Bool
 |[],[]=>some true
 |a :: as,b :: bs=>andO (AV.feq a b) (feqs as bs)
 |_,_=>some false
noncomputable def tupOf (o:Option AO):Option (List AV):=o.casesOn none λo=>AO.casesOn o (λ_ _ _=>none) (λ_=>none) (λxs=>some xs) (λ_=>none) (λ_=>none) (λ_=>none) (λ_ _=>none) (λ_ _ _=>none)
theorem tupOf_e {o:Option AO} {xs:List AV} (h:tupOf o=some xs):o=some (.tup xs):=by
 induction o with
 |none=>exact nn h
 |some o=>induction o with
  |tup ys=>exact congrArg (λz=>some (AO.tup z)) (Option.some.inj h)
  |_=>exact nn h
noncomputable def aeqR (σ:AH) (a:Addr) (b:AV):Option Bool:=match b with
 |.ref b=>(tupOf (rd σ a)).bind λxs=>(tupOf (rd σ b)).bind λys=>feqs xs ys
 |.none=>(tupOf (rd σ a)).map λ_=>false
 |_=>none
noncomputable def aeqN (σ:AH) (b:AV):Option Bool:=match b with
 |.ref b=>(tupOf (rd σ b)).map λ_=>false
 |b=>AV.feq .none b
noncomputable def aeq (σ:AH) (a b:AV):Option Bool:=match a with
 |.ref a=>aeqR σ a b
 |.none=>aeqN σ b
 |a=>AV.feq a b
noncomputable def fmem (x:AV):List AV→Option Bool
 |[]=>some false
 |y :: ys=>match AV.feq y x with
  |some a=>match fmem x ys with
   |some b=>some (a || b)
   |none=>none
  |none=>none
set_option backward.match.sparseCases false in
noncomputable def amemR (x:AV) (o:Option AO):Option Bool:=match o with
 |some (.list xs)=>fmem x xs
 |some (.tup xs)=>fmem x xs
 |some (.sdict kvs)=>match x with
  |.str k=>some (kget kvs k).isSome
  |_=>none
 |_=>none
noncomputable def amem (σ:AH) (x:AV) (b:AV):Option Bool:=match b with
 |.ref a=>amemR x (rd σ a)
 |_=>none
theorem fmem_cons {x y:AV} {ys:List AV} {a b:Bool} (h:AV.feq y x=some a) (k:fmem x ys=some b):fmem x (y :: ys)=some (a || b):=by show (match AV.feq y x with|some a=>_|none=>none)=_;refine rE h ?_;show (match fmem x ys with|some b=>_|none=>none)=_;exact rE k rfl
theorem fmem_e {x y:AV} {ys:List AV} {r:Bool} (h:fmem x (y :: ys)=some r):∃a b,AV.feq y x=some a∧fmem x ys=some b∧r=(a || b):=by
 have h:(match AV.feq y x with|some a=>(match fmem x ys with|some b=>some (a || b)|none=>none)|none=>none)=some r:=h
 induction e:AV.feq y x with
 |none=>rw[e] at h;exact nn h
 |some a=>
  rw[e] at h
  have h:(match fmem x ys with|some b=>some (a || b)|none=>none)=some r:=h
  induction k:fmem x ys with
  |none=>rw[k] at h;exact nn h
  |some b=>rw[k] at h;exact iEEAA a b rfl rfl ((Option.some.inj h).symm)
theorem amem_l {σ:AH} {a:Addr} {x:AV} {xs:List AV} (h:rd σ a=some (.list xs)):amem σ x (.ref a)=fmem x xs:=congrArg (amemR x) h
theorem amem_d {σ:AH} {a:Addr} {k:Str} {kvs:List (Str×AV)} (h:rd σ a=some (.sdict kvs)):amem σ (.str k) (.ref a)=some (kget kvs k).isSome:=congrArg (amemR (.str k)) h
theorem aeq_tt {σ:AH} {a b:Addr} {xs ys:List AV} (h:rd σ a=some (.tup xs)) (k:rd σ b=some (.tup ys)):aeq σ (.ref a) (.ref b)=feqs xs ys:=by show ((tupOf (rd σ a)).bind λxs=>(tupOf (rd σ b)).bind λys=>feqs xs ys)=_;(refine rE h ?_;refine rE k ?_);rfl
theorem aeq_nt {σ:AH} {b:Addr} {ys:List AV} (k:rd σ b=some (.tup ys)):aeq σ .none (.ref b)=some false:=by show ((tupOf (rd σ b)).map λ_=>false)=_;refine rE k ?_;rfl
inductive OkB (o:Option Bool) (Q:Bool→Prop):Prop
 |mk (r:Bool) (e:o=some r) (q:Q r):OkB o Q
noncomputable def qB (Q:Post) (σ:AH):Bool→Prop:=λr=>Q (.bool r) σ
noncomputable def qBn (Q:Post) (σ:AH):Bool→Prop:=λr=>Q (.bool (!r)) σ
set_option backward.match.sparseCases false in
noncomputable def cmpA (op:CmpOp) (a b:AV) (σ:AH) (Q:Post):Prop:=match op with
 |.Is=>match b with
  |.none=>Q (.bool a.isNone) σ
  |_=>False
 |.IsNot=>match b with
  |.none=>Q (.bool (!a.isNone)) σ
  |_=>False
 |.Eq=>OkB (aeq σ a b) (qB Q σ)
 |.NotEq=>OkB (aeq σ a b) (qBn Q σ)
 |.Lt=>onInt (λi=>onInt (λj=>Q (.bool (decide (i < j))) σ) b) a
 |.Gt=>onInt (λi=>onInt (λj=>Q (.bool (decide (j < i))) σ) b) a
 |.In=>OkB (amem σ a b) (qB Q σ)
 |.NotIn=>OkB (amem σ a b) (qBn Q σ)
 |_=>False
noncomputable def small (i:Int):Prop:=-(2 ^ 62) < i∧i < 2 ^ 62
inductive MulI (σ:AH) (a:Addr) (n:Int) (Q:Post):Prop
 |mk (xs:List AV) (h:rd σ a=some (.list xs)) (ne:xs≠[]) (l:xs.length≤1000) (z:n=0∨n=1) (q:newAt σ (.list (if n=0 then [] else xs)) Q):MulI σ a n Q
noncomputable def addA (a b:AV) (σ:AH) (Q:Post):Prop:=match a with
 |.int i=>onInt (λj=>Q (.int (i + j)) σ) b
 |.str x=>onStr (λy=>x.length + y.length≤100000∧Q (.str (x ++ y)) σ) b
 |.ref a=>onRef (λb=>∃xs ys,xs.length + ys.length≤100000∧
  ((rd σ a=some (.list xs)∧rd σ b=some (.list ys)∧newAt σ (.list (xs ++ ys)) Q)∨(rd σ a=some (.tup xs)∧rd σ b=some (.tup ys)∧xs≠[]∧ys≠[]∧newAt σ (.tup (xs ++ ys)) Q))) b
 |_=>False
set_option backward.match.sparseCases false in
noncomputable def binA (op:Operator) (a b:AV) (σ:AH) (Q:Post):Prop:=match op with
 |.Add=>addA a b σ Q
 |.Sub=>onInt (λi=>onInt (λj=>Q (.int (i - j)) σ) b) a
 |.Mod=>onInt (λi=>onInt (λj=>0 < j∧Q (.int (i % j)) σ) b) a
 |.FloorDiv=>onInt (λi=>onInt (λj=>small i∧0 < j∧j < 1000∧Q (.int (i / j)) σ) b) a
 |.Pow=>onInt (λi=>onInt (λj=>i=10∧j=9∧Q (.int 1000000000) σ) b) a
 |.Mult=>onRef (λa=>onInt (λn=>MulI σ a n Q) b) a
 |_=>False
noncomputable def truthA (v:AV) (σ:AH) (Q:BPost):Prop:=onBool (λb=>Q b σ) v
inductive AttrI (σ:AH) (a:Addr) (n:Str) (Q:Post):Prop
 |mk (C d:Addr) (fs:List (Str×AV)) (h:σ a=some (.inst C d fs)) (ok:fieldOk C n=true) (x:AV) (e:kget fs n=some x) (q:Q x σ):AttrI σ a n Q
noncomputable def attrA (n:Str) (v:AV) (σ:AH) (Q:Post):Prop:=onRef (λa=>AttrI σ a n Q) v
inductive SetAI (σ:AH) (a:Addr) (n:Str) (v:AV) (K:AH→Prop):Prop
 |mk (C d:Addr) (fs:List (Str×AV)) (h:σ a=some (.inst C d fs)) (ok:fieldOk C n=true) (l:fs.length≤900) (q:K (up σ a (.inst C d (kput fs n v)))):SetAI σ a n v K
noncomputable def setAttrA (n:Str) (o v:AV) (σ:AH) (K:AH→Prop):Prop:=onRef (λa=>SetAI σ a n v K) o
inductive ItemL (σ:AH) (a:Addr) (k:Int) (Q:Post):Prop
 |mk (xs:List AV) (h:rdl σ a xs) (h0:0≤k) (h1:k < 100000) (x:AV) (e:xs[k.toNat]?=some x) (q:Q x σ):ItemL σ a k Q
inductive ItemI (σ:AH) (a:Addr) (k:Int) (Q:Post):Prop
 |mk (kvs:List (Int×AV)) (h:rd σ a=some (.idict kvs)) (x:AV) (e:kget kvs k=some x) (q:Q x σ):ItemI σ a k Q
inductive ItemS (σ:AH) (a:Addr) (k:Str) (Q:Post):Prop
 |mk (kvs:List (Str×AV)) (h:rd σ a=some (.sdict kvs)) (x:AV) (e:kget kvs k=some x) (q:Q x σ):ItemS σ a k Q
noncomputable def itemA (o i:AV) (σ:AH) (Q:Post):Prop:=onRef (λa=>match i with
 |.int k=>ItemL σ a k Q∨ItemI σ a k Q
 |.str k=>ItemS σ a k Q
 |_=>False) o
inductive SetL (σ:AH) (a:Addr) (k:Int) (v:AV) (K:AH→Prop):Prop
 |mk (xs:List AV) (h:σ a=some (.list xs)) (h0:0≤k) (h1:k < 100000) (l:k.toNat < xs.length) (q:K (up σ a (.list (xs.set k.toNat v)))):SetL σ a k v K
inductive SetS (σ:AH) (a:Addr) (k:Str) (v:AV) (K:AH→Prop):Prop
 |mk (kvs:List (Str×AV)) (h:σ a=some (.sdict kvs)) (l:kvs.length≤900) (q:K (up σ a (.sdict (kput kvs k v)))):SetS σ a k v K
noncomputable def setItemA (o i v:AV) (σ:AH) (K:AH→Prop):Prop:=onRef (λa=>match i with
 |.int k=>SetL σ a k v K
 |.str k=>SetS σ a k v K
 |_=>False) o
set_option backward.match.sparseCases false in
noncomputable def oneC:Const→Bool
 |.int i=>i == 1
 |_=>false
set_option backward.match.sparseCases false in
noncomputable def constOf:Expr→Option Const
 |.Constant c _ _=>some c
 |_=>none
set_option backward.match.sparseCases false in
noncomputable def unOf:Expr→Option (UnaryOp×Expr)
 |.UnaryOp op x _=>some (op,x)
 |_=>none
noncomputable def isRev (e:Expr):Bool:=match unOf e with
 |some p=>p.1 == .USub && (match constOf p.2 with
  |some c=>oneC c
  |none=>false)
 |none=>false
theorem isRev_e {e:Expr} (h:isRev e=true):∃c p q,e=.UnaryOp .USub (.Constant (.int 1) c p) q:=by
 induction a:unOf e with
 |none=>unfold isRev at h;rw[a] at h;exact absurd h Bool.false_ne_true
 |some x=>
  unfold isRev at h
  rw[a] at h
  have h:=Bool.and_eq_true_iff.mp h
  induction b:constOf x.2 with
  |none=>rw[b] at h;exact absurd h.2 Bool.false_ne_true
  |some c=>
   rw[b] at h
   induction e using Expr.casesOn with
   |UnaryOp op y q=>
    cases Option.some.inj a
    induction y using Expr.casesOn with
    |Constant k i p=>
     cases Option.some.inj b
     induction c with
     |int n=>exact ⟨i,p,q,by (refine rE (eq_of_beq (show (op == UnaryOp.USub)=true from h.1)) ?_;exact rE (eq_of_beq (show (n == 1)=true from h.2)) rfl)⟩
     |_=>exact absurd h.2 Bool.false_ne_true
    |_=>exact nn b
   |_=>exact nn a
inductive CutI (f:List AV→List AV) (σ:AH) (a:Addr) (Q:Post):Prop
 |mk (xs:List AV) (l:xs.length≤100000) (h:rd σ a=some (.list xs)) (q:newAt σ (.list (f xs)) Q):CutI f σ a Q
noncomputable def cutA (f:List AV→List AV) (o:AV) (σ:AH) (Q:Post):Prop:=onRef (λa=>CutI f σ a Q) o
noncomputable def uptoA (k:Nat) (o:AV) (σ:AH) (Q:Post):Prop:=onRef (λa=>∃xs,xs.length≤100000∧((rd σ a=some (.list xs)∧newAt σ (.list (xs.take k)) Q)∨(rd σ a=some (.tup xs)∧k < xs.length∧newAt σ (.tup (xs.take k)) Q))) o
inductive LenI (σ:AH) (a:Addr) (Q:Post):Prop
 |mk (xs:List AV) (h:rdl σ a xs) (l:xs.length≤100000) (q:Q (.int xs.length) σ):LenI σ a Q
inductive DictI (σ:AH) (a:Addr) (Q:Post):Prop
 |mk (xs:List AV) (h:rd σ a=some (.list xs)) (kvs:List (Int×AV)) (e:∀(i:Nat) (y:AV),xs[i]?=some y→∃(k:Int) (x:AV) (t:Addr),kvs[i]?=some (k,x)∧y=AV.ref t∧rd σ t=some (.tup [.int k,x])) (l:xs.length=kvs.length) (nd:(kvs.map (·.1)).Nodup) (l':kvs.length≤900) (q:newAt σ (.idict kvs) Q):DictI σ a Q
set_option genCtorIdx false in
inductive BKP (u:Unit) where
 |len|int|sum|list|dict|abs
noncomputable abbrev BK:=BKP ()
noncomputable def BKP.ctorIdx {u:Unit} (n:BKP u):Nat:=n.casesOn 0 1 2 3 4 5
noncomputable def BKP.name:BK→String
 |.len=>"len"
 |.int=>"int"
 |.sum=>"sum"
 |.list=>"list"
 |.dict=>"dict"
 |.abs=>"abs"
noncomputable def BKP.val:BK→Value
 |.len=>.builtin "len"
 |.int=>.type "int"
 |.sum=>.builtin "sum"
 |.list=>.type "list"
 |.dict=>.type "dict"
 |.abs=>.builtin "abs"
noncomputable def bkOf (id:Str):Option BK:=bif id == "len" then some .len else bif id == "int" then some .int else bif id == "sum" then some .sum else bif id == "list" then some .list else bif id == "dict" then some .dict else bif id == "abs" then some .abs else none
noncomputable def biA (k:BK) (v:AV) (σ:AH) (Q:Post):Prop:=match k with
 |.len=>onRef (λa=>LenI σ a Q) v
 |.int=>onBool (λb=>Q (.int (if b then 1 else 0)) σ) v
 |.sum=>onRef (λa=>∃is:List Int,rd σ a=some (.list (is.map AV.int))∧Q (.int is.sum) σ) v
 |.list=>onRef (λa=>∃kvs,rd σ a=some (.sdict kvs)∧kvs.length≤900∧newAt σ (.list (kvs.map λkv=>AV.str kv.1)) Q) v
 |.dict=>onRef (λa=>DictI σ a Q) v
 |.abs=>onInt (λi=>Q (.int i.natAbs) σ) v
noncomputable def clsAll:List Addr:=[40,62,82,120,140,161,181,228]
inductive Isi0 (σ:AH) (a:Addr) (P:Prop):Prop
 |mk (D d:Addr) (fs:List (Str×AV)) (h:σ a=some (.inst D d fs)) (e:(isa D 0).isSome=true) (q:P):Isi0 σ a P
inductive IsiI (σ:AH) (a c:Addr) (P:Bool→Prop):Prop
 |mk (D d:Addr) (fs:List (Str×AV)) (h:σ a=some (.inst D d fs)) (r:Bool) (e:isa D c=some r) (q:P r):IsiI σ a c P
noncomputable def tyOf (C:Str):Option String:=bif C == "bool" then some "bool" else bif C == "int" then some "int" else bif C == "str" then some "str" else none
noncomputable def isiA (v:AV) (C:Str) (σ:AH) (Q:Post):Prop:=match tyOf C with
 |some _=>onRef (λa=>Isi0 σ a (Q (.bool false) σ)) v
 |none=>match gtab.lookup C with
  |some c=>chk (clsAll.contains c) (onRef (λa=>IsiI σ a c (qB Q σ)) v)
  |none=>False
inductive AppI (σ:AH) (a:Addr) (v:AV) (Q:Post):Prop
 |mk (xs:List AV) (h:σ a=some (.list xs)) (l:xs.length≤100000) (q:Q .none (up σ a (.list (xs ++ [v])))):AppI σ a v Q
inductive GetI (σ:AH) (a:Addr) (k:Str) (v:AV) (Q:Post):Prop
 |mk (kvs:List (Str×AV)) (h:rd σ a=some (.sdict kvs)) (q:Q ((kget kvs k).getD v) σ):GetI σ a k v Q
inductive ExtI (σ:AH) (a b:Addr) (Q:Post):Prop
 |mk (ne:a≠b) (xs ys:List AV) (h:σ a=some (.list xs)) (h':rd σ b=some (.list ys)) (l:xs.length≤100000) (l':ys.length≤100000) (q:Q .none (up σ a (.list (xs ++ ys)))):ExtI σ a b Q
inductive IdxI (σ:AH) (a:Addr) (x:Str) (Q:Post):Prop
 |mk (xs:List Str) (i:Nat) (h:rd σ a=some (.list (xs.map AV.str))) (e:xs.findIdx? (λy=>decide (y=x))=some i) (l:xs.length≤1000) (q:Q (.int i) σ):IdxI σ a x Q
inductive PopI (σ:AH) (a:Addr) (k:Str) (Q:Post):Prop
 |mk (kvs:List (Str×AV)) (x:AV) (h:σ a=some (.sdict kvs)) (e:kget kvs k=some x) (l:kvs.length≤900) (q:Q x (up σ a (.sdict (kdel kvs k)))):PopI σ a k Q
set_option genCtorIdx false in
inductive MeKP (u:Unit) where
 |app|ext|idx|get|pop
noncomputable abbrev MeK:=MeKP ()
noncomputable def MeKP.ctorIdx {u:Unit} (n:MeKP u):Nat:=n.casesOn 0 1 2 3 4
noncomputable def MeKP.name:MeK→String
 |.app=>"append"
 |.ext=>"extend"
 |.idx=>"index"
 |.get=>"get"
 |.pop=>"pop"
noncomputable def MeKP.isL:MeK→Bool
 |.get|.pop=>false
 |_=>true
noncomputable def meOf (m:Str):Option MeK:=bif m == "append" then some .app else bif m == "extend" then some .ext else bif m == "index" then some .idx else bif m == "get" then some .get else bif m == "pop" then some .pop else none
noncomputable def on1 (P:AV→Prop) (vs:List AV):Prop:=match vs with
 |[v]=>P v
 |_=>False
noncomputable def on12 (P:AV→AV→Prop) (vs:List AV):Prop:=match vs with
 |[v]=>P v .none
 |[v,d]=>P v d
 |_=>False
@[elab_as_elim] theorem on1_e {P:AV→Prop} {as:List AV} {motive:List Value→Prop} {vs:List Value} (h:on1 P as) (i:AllIs as vs) (k:∀x v,x.Is v→P x→motive [v]):motive vs:=by
 cases i with
 |nil=>exact h.elim
 |cons i r=>cases r with
  |nil=>exact k _ _ i h
  |cons=>exact h.elim
noncomputable def methA (a:Addr) (m:MeK) (vs:List AV) (σ:AH) (Q:Post):Prop:=match m with
 |.app=>on1 (λv=>AppI σ a v Q) vs
 |.ext=>on1 (onRef λb=>ExtI σ a b Q) vs
 |.idx=>on1 (onStr λx=>IdxI σ a x Q) vs
 |.get=>on12 (λk d=>onStr (λk=>GetI σ a k d Q) k) vs
 |.pop=>on1 (onStr λk=>PopI σ a k Q) vs
set_option backward.match.sparseCases false in
noncomputable def nmOf:Expr→Option Str
 |.Name x _=>some x
 |_=>none
set_option backward.match.sparseCases false in
noncomputable def notSuper:Expr→Bool
 |.Call f as ks _=>!(nmOf f == some (Str.ofString "super") && (as.isEmpty && ks.isEmpty))
 |_=>true
set_option backward.match.sparseCases false in
noncomputable def isComp:Expr→Bool
 |.ListComp ..|.SetComp ..|.DictComp ..=>true
 |_=>false
set_option backward.match.sparseCases false in
noncomputable def noStar1:Expr→Bool
 |.Starred ..=>false
 |_=>true
noncomputable def plainArgs (args:List Expr):Bool:=decide (args.length < 20) && args.all noStar1
set_option backward.match.sparseCases false in
noncomputable def noSlice:Expr→Bool
 |.Slice ..=>false
 |_=>true
noncomputable def stored1 (Γ:Cx) (ρ:Loc) (x:Str):Bool:=((Γ.nm.lookup x == some .local) || (Γ.nm.lookup x == some .cell)) && (ρ.lookup x).isSome && okName x
noncomputable def qSetA (n:Str) (v:AV) (K:AH→Prop):Post:=λov σ=>setAttrA n ov v σ K
noncomputable def qSetI2 (ov v:AV) (K:AH→Prop):Post:=λiv σ=>setItemA ov iv v σ K
noncomputable def qSetI (R:Ops) (i:Expr) (Γ:Cx) (v:AV) (ρ:Loc) (K:AH→Prop):Post:=λov σ=>R.E Γ i ρ σ (qSetI2 ov v K)
set_option backward.match.sparseCases false in
noncomputable def asg1 (R:Ops) (Γ:Cx):Expr→AV→Loc→AH→EPost→Prop
 |.Name x _,v,ρ,σ,K=>chk (stored1 Γ ρ x) (K (ρ.set x v) σ)
 |.Attribute o n _,v,ρ,σ,K=>chk (notSuper o) (R.E Γ o ρ σ (qSetA n v (K ρ)))
 |.Subscript o i _,v,ρ,σ,K=>chk (noSlice i) (R.E Γ o ρ σ (qSetI R i Γ v ρ (K ρ)))
 |_,_,_,_,_=>False
noncomputable def qAsgs (f:List AV→Loc→AH→EPost→Prop) (vs:List AV) (K:EPost):EPost:=λρ σ=>f vs ρ σ K
noncomputable def asgs (R:Ops) (Γ:Cx):List Expr→List AV→Loc→AH→EPost→Prop
 |[],vs,ρ,σ,K=>vs.casesOn (K ρ σ) λ_ _=>False
 |t :: ts,vs,ρ,σ,K=>vs.casesOn False λv vs=>chk (noStar1 t) (asg1 R Γ t v ρ σ (qAsgs (asgs R Γ ts) vs K))
inductive TupI (R:Ops) (ts:List Expr) (Γ:Cx) (σ:AH) (a:Addr) (ρ:Loc) (K:EPost):Prop
 |mk (vs:List AV) (h:rd σ a=some (.tup vs)) (l:vs.length=ts.length) (q:asgs R Γ ts vs ρ σ K):TupI R ts Γ σ a ρ K
noncomputable def noStars (ts:List Expr):Bool:=ts.all noStar1
set_option backward.match.sparseCases false in
noncomputable def asg (R:Ops) (Γ:Cx) (t:Expr) (v:AV) (ρ:Loc) (σ:AH) (K:EPost):Prop:=match t with
 |.Tuple ts _ _=>onRef (λa=>chk (noStars ts) (TupI R ts Γ σ a ρ K)) v
 |t=>asg1 R Γ t v ρ σ K
inductive Src where
 |lst (a:Addr) (xs:List AV)
 |tpl (a:Addr) (xs:List AV)
 |nums (n:Nat)
 |keys (a:Addr) (ep:Nat) (kvs:List (Str×AV))
noncomputable def Src.items:Src→List AV
 |.lst _ xs=>xs
 |.tpl _ xs=>xs
 |.nums n=>(List.range n).map λ(i:Nat)=>AV.int i
 |.keys _ _ kvs=>kvs.map λkv=>AV.str kv.1
noncomputable def Src.stands (σ:AH):Src→Prop
 |.lst a xs=>rd σ a=some (.list xs)
 |.tpl a xs=>rd σ a=some (.tup xs)
 |.nums _=>True
 |.keys a ep kvs=>σ a=some (.lock ep kvs)
noncomputable def Src.free (σ:AH):Src→AH
 |.keys a _ kvs=>up σ a (.sdict kvs)
 |_=>σ
theorem nmOf_e {e:Expr} {x:Str} (h:nmOf e=some x):∃p,e=.Name x p:=by
 induction e using Expr.casesOn with
 |Name y p=>exact ⟨p,congrArg (Expr.Name · p) (Option.some.inj h)⟩
 |_=>exact nn h
noncomputable def oneArg:List Expr→Option Expr
 |[a]=>some a
 |_=>none
set_option backward.match.sparseCases false in
noncomputable def call1 (n:Str):Expr→Option Expr
 |.Call f as kws _=>bif nmOf f == some n && kws.isEmpty then oneArg as else none
 |_=>none
inductive Call1 (n:Str) (a:Expr):Expr→Prop
 |mk {p q}:Call1 n a (.Call (.Name n p) [a] [] q)
theorem call1_e {n:Str} {e a:Expr} (h:call1 n e=some a):Call1 n a e:=by
 induction e using Expr.casesOn with
 |Call f as kws q=>
  replace h:(bif nmOf f == some n && kws.isEmpty then oneArg as else none)=some a:=h
  induction b:nmOf f == some n && kws.isEmpty with
  |false=>rw[b] at h;exact nn h
  |true=>
   rw[b] at h
   rw[Bool.and_eq_true] at b
   obtain ⟨p,rfl⟩:=nmOf_e (eq_of_beq b.1)
   obtain rfl:=List.isEmpty_iff.mp b.2
   induction as using List.casesOn with
   |nil=>exact nn h
   |cons x r=>induction r using List.casesOn with
    |nil=>exact Option.some.inj h▸.mk
    |cons=>exact nn h
 |_=>exact nn h
set_option backward.match.sparseCases false in
noncomputable def notSet:Expr→Bool
 |.Set ..=>false
 |_=>true
inductive SrcL (σ:AH) (a:Addr) (Q:Src→AH→Prop):Prop
 |mk (xs:List AV) (h:rd σ a=some (.list xs)) (l:xs.length≤100000) (q:Q (.lst a xs) σ):SrcL σ a Q
inductive SrcT (σ:AH) (a:Addr) (Q:Src→AH→Prop):Prop
 |mk (xs:List AV) (h:rd σ a=some (.tup xs)) (l:xs.length≤100000) (q:Q (.tpl a xs) σ):SrcT σ a Q
inductive SrcD (σ:AH) (a:Addr) (Q:Src→AH→Prop):Prop
 |mk (kvs:List (Str×AV)) (h:σ a=some (.sdict kvs)) (q:∀ep,Q (.keys a ep kvs) (up σ a (.lock ep kvs))):SrcD σ a Q
noncomputable def qNums (Q:Src→AH→Prop):Post:=λv σ=>onInt (λn=>0≤n∧n≤1000∧Q (.nums n.toNat) σ) v
noncomputable def qSrc (Q:Src→AH→Prop):Post:=λv σ=>onRef (λa=>SrcL σ a Q∨SrcT σ a Q∨SrcD σ a Q) v
noncomputable def srcOf (R:Ops) (Γ:Cx) (e:Expr) (ρ:Loc) (σ:AH) (Q:Src→AH→Prop):Prop:=match call1 "range" e with
 |some a=>chk (Γ.nm.lookup (Str.ofString "range") == some NameKind.globalImplicit && noStar1 a) (R.E Γ a ρ σ (qNums Q))
 |none=>chk (notSet e) (R.E Γ e ρ σ (qSrc Q))
noncomputable def qTest (f:AH→BPost→Prop) (Q:BPost):BPost:=λb σ=>if b then f σ Q else Q false σ
noncomputable def tests (R:Ops) (Γ:Cx) (ρ:Loc):List Expr→AH→BPost→Prop
 |[],σ,Q=>Q true σ
 |t :: ts,σ,Q=>R.T Γ t ρ σ (qTest (tests R Γ ρ ts) Q)
noncomputable abbrev CPost:=List AV→Loc→AH→Prop
noncomputable abbrev CInv:=List AV→List AV→Loc→AH→Prop
noncomputable def qElt (acc:List AV) (K:CPost) (ρ:Loc):Post:=λv σ=>acc.length≤100000∧K (acc ++ [v]) ρ σ
noncomputable def qTurn (f:Loc→AH→List AV→CPost→Prop) (acc:List AV) (K:CPost) (ρ:Loc):BPost:=λb σ=>if b then f ρ σ acc K else K acc ρ σ
noncomputable def qTests (R:Ops) (ifs:List Expr) (Γ:Cx) (f:Loc→AH→List AV→CPost→Prop) (acc:List AV) (K:CPost):EPost:=λρ σ=>tests R Γ ρ ifs σ (qTurn f acc K ρ)
inductive CompI (R:Ops) (t:Expr) (ifs:List Expr) (Γ:Cx) (f:Loc→AH→List AV→CPost→Prop) (s:Src) (acc:List AV) (ρ:Loc) (σ:AH) (K:CPost):Prop
 |mk (I:CInv) (h0:I s.items acc ρ σ) (h1:∀acc ρ σ,I [] acc ρ σ→s.stands σ∧K acc ρ σ) (h2:∀x rest acc ρ σ,I (x :: rest) acc ρ σ→s.stands σ∧asg R Γ t x ρ σ (qTests R ifs Γ f acc (I rest))):CompI R t ifs Γ f s acc ρ σ K
noncomputable def qComp (R:Ops) (t:Expr) (ifs:List Expr) (Γ:Cx) (f:Loc→AH→List AV→CPost→Prop) (acc:List AV) (ρ:Loc) (K:CPost):Src→AH→Prop:=λs σ=>CompI R t ifs Γ f s acc ρ σ K
noncomputable def compG (R:Ops) (Γ:Cx) (elt:Expr):List Comprehension→Loc→AH→List AV→CPost→Prop
 |[],ρ,σ,acc,K=>R.E Γ elt ρ σ (qElt acc K ρ)
 |g :: gs,ρ,σ,acc,K=>chk (g.is_async == 0) (srcOf R Γ g.iter ρ σ (qComp R g.target g.ifs Γ (compG R Γ elt gs) acc ρ K))
noncomputable def compLoc (sc:Scope) (ρ:Loc):Loc:=sc.names.map λp=>(p.1,if p.2 == .free then ρ.get p.1 else none)
noncomputable def ΓC (Γ:Cx) (sc:Scope):Cx:={ Γ with nm:=sc.names,X:=λ_ _=>False,tab:=none }
noncomputable def qFree (s:Src) (K:LPost):CPost:=λacc _ σ=>K acc (s.free σ)
noncomputable def qComp0 (R:Ops) (t:Expr) (ifs:List Expr) (Γ:Cx) (f:Loc→AH→List AV→CPost→Prop) (ρ:Loc) (K:LPost):Src→AH→Prop:=λs σ=>CompI R t ifs Γ f s [] ρ σ (qFree s K)
noncomputable def compA (R:Ops) (Γ:Cx) (elt:Expr) (gens:List Comprehension) (sc:Scope) (ρ:Loc) (σ:AH) (K:LPost):Prop:=match gens with
 |[]=>False
 |g :: gs=>chk (g.is_async == 0) (srcOf R Γ g.iter ρ σ (qComp0 R g.target g.ifs (ΓC Γ sc) (compG R (ΓC Γ sc) elt gs) (compLoc sc ρ) K))
noncomputable def compOk (Γ:Cx) (sc:Scope) (gens:List Comprehension):Bool:=
 sc.kind == .function && sc.names.all (λp=>p.2 == .local || p.2 == .free || p.2 == .globalImplicit) && sc.names.all (λp=>p.2 != .free || (Γ.nm.lookup p.1 == some .cell || Γ.nm.lookup p.1 == some .free)) &&
 decide ((sc.names.map (·.1)).Nodup)
noncomputable def qTr (P:BPost):Post:=λv σ=>truthA v σ P
noncomputable def qBool (op:BoolOp) (f:AH→Post→Prop) (v:AV) (Q:Post):BPost:=λb σ=>match op,b with
 |.And,false=>Q v σ
 |.Or,true=>Q v σ
 |_,_=>f σ Q
noncomputable def qBoolV (op:BoolOp) (f:AH→Post→Prop) (Q:Post):Post:=λv σ=>truthA v σ (qBool op f v Q)
noncomputable def boolA (R:Ops) (Γ:Cx) (ρ:Loc) (op:BoolOp):List Expr→AH→Post→Prop
 |[],_,_=>False
 |[x],σ,Q=>R.E Γ x ρ σ Q
 |x :: rest,σ,Q=>R.E Γ x ρ σ (qBoolV op (boolA R Γ ρ op rest) Q)
noncomputable def qAll (op:BoolOp) (f:AH→BPost→Prop) (Q:BPost):BPost:=λb σ=>match op,b with
 |.And,false=>Q false σ
 |.Or,true=>Q true σ
 |_,_=>f σ Q
noncomputable def allA (R:Ops) (Γ:Cx) (ρ:Loc) (op:BoolOp):List Expr→AH→BPost→Prop
 |[],σ,Q=>Q (op == .And) σ
 |x :: rest,σ,Q=>R.T Γ x ρ σ (qAll op (allA R Γ ρ op rest) Q)
noncomputable def qName (Q:Post):Post:=λc σ=>attrA "name" c σ Q
noncomputable def qOwner (Q:Post):Post:=λv σ=>attrA "owner" v σ (qName Q)
noncomputable def qNoErr (Q:Post):Post:=λ_ σ=>Q (.str "") σ
noncomputable def ΓL (Γ:Cx) (sc:Scope) (Q:Post):Cx:={ Γ with nm:=sc.names,d:=Γ.d - 3,X:=qOwner Q,tab:=none }
inductive LawI (R:Ops) (body:Expr) (sc:Scope) (Γ:Cx) (ρ:Loc) (σ:AH) (Q:Post):Prop
 |mk (d:3≤Γ.d) (P:Addr) (n:Str) (e:Γ.tab=some (P,n)) (h:σ P=some (.tab n)) (q:R.E (ΓL Γ sc Q) body (compLoc sc ρ) σ (qNoErr Q)):LawI R body sc Γ ρ σ Q
noncomputable def noArgs (p:Arguments):Bool:=p.posonlyargs.isEmpty && (p.args.isEmpty && (p.vararg.isNone && (p.kwonlyargs.isEmpty && (p.kw_defaults.isEmpty && (p.kwarg.isNone && p.defaults.isEmpty)))))
theorem noArgs_e {p:Arguments} (h:noArgs p=true):p=⟨[],[],none,[],[],none,[]⟩:=by
 induction p using Arguments.casesOn with|mk a b c d e f g=>
 induction a using List.casesOn with
 |cons=>exact absurd h Bool.false_ne_true
 |nil=>
 induction b using List.casesOn with
 |cons=>exact absurd h Bool.false_ne_true
 |nil=>
 induction c with
 |some=>exact absurd h Bool.false_ne_true
 |none=>
 induction d using List.casesOn with
 |cons=>exact absurd h Bool.false_ne_true
 |nil=>
 induction e using List.casesOn with
 |cons=>exact absurd h Bool.false_ne_true
 |nil=>
 induction f with
 |some=>exact absurd h Bool.false_ne_true
 |none=>
 induction g using List.casesOn with
 |cons=>exact absurd h Bool.false_ne_true
 |nil=>
 rfl
noncomputable def lamOk (Γ:Cx) (params:Arguments) (sc:Scope):Bool:=
 noArgs params && sc.kind == .function && !sc.isGenerator && !sc.isCoroutine &&
 sc.names.all (λp=>p.2 == .free || p.2 == .globalImplicit) && sc.names.all (λp=>p.2 != .free || Γ.nm.lookup p.1 == some .cell) && decide ((sc.names.map (·.1)).Nodup)
set_option backward.match.sparseCases false in
noncomputable def clsName:Expr→Option Addr
 |.Name id _=>bif id == "Thing" then some 40 else none
 |_=>none
noncomputable def callable (a:Addr):Bool:=!(a == 657 || a == 658 || a == 661)
noncomputable def isGlob (a:Addr):Bool:=callable a && gtab.any λp=>p.2 == a
noncomputable def qCall (Γ:Cx) (a:Addr) (Q:Post):LPost:=λvs σ=>Γ.call Γ.d a vs σ Q Γ.X
noncomputable def qMeth (Γ:Cx) (g a:Addr) (Q:Post):LPost:=λvs σ=>Γ.call Γ.d g (.ref a :: vs) σ Q Γ.X
noncomputable def qBi (n:BK) (Q:Post):Post:=λv σ=>biA n v σ Q
noncomputable def qIsi (C:Str) (Q:Post):Post:=λv σ=>isiA v C σ Q
noncomputable def qMethA (a:Addr) (m:MeK) (Q:Post):LPost:=λvs σ=>methA a m vs σ Q
inductive MethI (R:Ops) (args:List Expr) (m:Str) (Γ:Cx) (ρ:Loc) (σ:AH) (a:Addr) (Q:Post):Prop
 |mk (C d:Addr) (fs:List (Str×AV)) (h:σ a=some (.inst C d fs)) (g:Addr) (ok:methodOf C m=some g) (e:kget fs m=none) (q:evs R Γ ρ args σ (qMeth Γ g a Q)):MethI R args m Γ ρ σ a Q
noncomputable def isLD (l:Bool) (σ:AH) (a:Addr):Prop:=match l with
 |true=>∃xs,rd σ a=some (.list xs)
 |false=>∃kvs,rd σ a=some (.sdict kvs)
noncomputable def qCallM (R:Ops) (args:List Expr) (m:Str) (Γ:Cx) (ρ:Loc) (Q:Post):Post:=λov σ=>onRef (λa=>match meOf m with
 |some k=>isLD k.isL σ a∧evs R Γ ρ args σ (qMethA a k Q)
 |none=>MethI R args m Γ ρ σ a Q) ov
noncomputable def qCallC (R:Ops) (args:List Expr) (c g:Addr) (Γ:Cx) (ρ:Loc) (Q:Post):Post:=λov σ=>onRef (λa=>chk (a == c) (evs R Γ ρ args σ (qCall Γ g Q))) ov
set_option backward.match.sparseCases false in
noncomputable def lawL (R:Ops) (x:Expr) (Γ:Cx) (ρ:Loc) (σ:AH) (Q:Post):Prop:=match x with
 |.Lambda params body sc _=>chk (lamOk Γ params sc) (LawI R body sc Γ ρ σ Q)
 |_=>False
noncomputable def callB1 (R:Ops) (id:Str) (x:Expr) (Γ:Cx) (ρ:Loc) (σ:AH) (Q:Post):Prop:=match bkOf id with
 |some k=>R.E Γ x ρ σ (qBi k Q)
 |none=>chk (id == "_law_error") (lawL R x Γ ρ σ Q)
set_option backward.match.sparseCases false in
noncomputable def isiB (R:Ops) (id:Str) (x c:Expr) (Γ:Cx) (ρ:Loc) (σ:AH) (Q:Post):Prop:=match c with
 |.Name C _=>chk (id == "isinstance" && Γ.nm.lookup C == some .globalImplicit && okName C) (R.E Γ x ρ σ (qIsi C Q))
 |_=>False
noncomputable def callB (R:Ops) (id:Str) (args:List Expr) (Γ:Cx) (ρ:Loc) (σ:AH) (Q:Post):Prop:=match args with
 |[x]=>callB1 R id x Γ ρ σ Q
 |[x,c]=>isiB R id x c Γ ρ σ Q
 |_=>False
noncomputable def callG (R:Ops) (id:Str) (args:List Expr) (Γ:Cx) (ρ:Loc) (σ:AH) (Q:Post):Prop:=match gtab.lookup id with
 |some a=>chk (callable a) (evs R Γ ρ args σ (qCall Γ a Q))
 |none=>callB R id args Γ ρ σ Q
noncomputable def callV (R:Ops) (id:Str) (args:List Expr) (Γ:Cx) (ρ:Loc) (σ:AH) (Q:Post):Prop:=match ρ.get id with
 |some v=>onRef (λa=>chk (isGlob a) (evs R Γ ρ args σ (qCall Γ a Q))) v
 |none=>False
noncomputable def callN (R:Ops) (id:Str) (args:List Expr) (Γ:Cx) (ρ:Loc) (σ:AH) (Q:Post):Prop:=match Γ.nm.lookup id with
 |some .globalImplicit=>callG R id args Γ ρ σ Q
 |some .local=>callV R id args Γ ρ σ Q
 |some .free=>callV R id args Γ ρ σ Q
 |_=>False
noncomputable def callM (R:Ops) (o:Expr) (m:Str) (args:List Expr) (Γ:Cx) (ρ:Loc) (σ:AH) (Q:Post):Prop:=match clsName o with
 |some c=>match cattr c m with
  |some g=>R.E Γ o ρ σ (qCallC R args c g Γ ρ Q)
  |none=>False
 |none=>R.E Γ o ρ σ (qCallM R args m Γ ρ Q)
set_option backward.match.sparseCases false in
noncomputable def callA (R:Ops) (Γ:Cx) (f:Expr) (args:List Expr) (pos:Pos) (ρ:Loc) (σ:AH) (Q:Post):Prop:=match f with
 |.Name id _=>chk (okName id) (callN R id args Γ ρ σ Q)
 |.Attribute o m apos=>chk ((apos.endLine == pos.line) && notSuper o) (callM R o m args Γ ρ σ Q)
 |_=>False
noncomputable def qAttr (n:Str) (Q:Post):Post:=λo σ=>attrA n o σ Q
noncomputable def qCmp2 (op:CmpOp) (a:AV) (Q:Post):Post:=λb σ=>cmpA op a b σ Q
noncomputable def qCmp (R:Ops) (op:CmpOp) (r:Expr) (Γ:Cx) (ρ:Loc) (Q:Post):Post:=λa σ=>R.E Γ r ρ σ (qCmp2 op a Q)
noncomputable def qBin2 (op:Operator) (a:AV) (Q:Post):Post:=λb σ=>binA op a b σ Q
noncomputable def qBin (R:Ops) (op:Operator) (r:Expr) (Γ:Cx) (ρ:Loc) (Q:Post):Post:=λa σ=>R.E Γ r ρ σ (qBin2 op a Q)
noncomputable def qNot (Q:Post):BPost:=λb σ=>Q (.bool (!b)) σ
noncomputable def qNotB (Q:BPost):BPost:=λb σ=>Q (!b) σ
noncomputable def qNeg (Q:Post):Post:=λv σ=>onInt (λi=>Q (.int (-i)) σ) v
noncomputable def qIfE (R:Ops) (b o:Expr) (Γ:Cx) (ρ:Loc) (Q:Post):BPost:=λc σ=>if c then R.E Γ b ρ σ Q else R.E Γ o ρ σ Q
noncomputable def qIfT (R:Ops) (b o:Expr) (Γ:Cx) (ρ:Loc) (Q:BPost):BPost:=λc σ=>if c then R.T Γ b ρ σ Q else R.T Γ o ρ σ Q
noncomputable def qFrom (o:AV) (Q:Post):Post:=λi σ=>onInt (λk=>0≤k∧k < 100000∧cutA (List.drop k.toNat) o σ Q) i
noncomputable def qUpto (o:AV) (Q:Post):Post:=λi σ=>onInt (λk=>0≤k∧k < 100000∧uptoA k.toNat o σ Q) i
noncomputable def qItem (o:AV) (Q:Post):Post:=λi σ=>itemA o i σ Q
noncomputable def slA (R:Ops) (lo hi st:Option Expr) (Γ:Cx) (ρ:Loc) (o:AV) (σ:AH) (Q:Post):Prop:=match st with
 |some e=>match lo,hi with
  |none,none=>chk (isRev e) (cutA List.reverse o σ Q)
  |_,_=>False
 |none=>match lo with
  |some e=>match hi with
   |none=>R.E Γ e ρ σ (qFrom o Q)
   |_=>False
  |none=>match hi with
   |some e=>R.E Γ e ρ σ (qUpto o Q)
   |none=>False
set_option backward.match.sparseCases false in
noncomputable def qSub (R:Ops) (s:Expr) (Γ:Cx) (ρ:Loc) (Q:Post):Post:=λo σ=>match s with
 |.Slice lo hi st _=>slA R lo hi st Γ ρ o σ Q
 |s=>R.E Γ s ρ σ (qItem o Q)
noncomputable def qList (Q:Post):LPost:=λvs σ=>newAt σ (.list vs) Q
noncomputable def qTup (Q:Post):LPost:=λvs σ=>newAt σ (.tup vs) Q
noncomputable def qDict (Q:Post):KPost:=λkvs σ=>newAt σ (.sdict (kvs.foldl (λm p=>kput m p.1 p.2) [])) Q
noncomputable def onO {α:Type} (k:α→Prop) (o:Option α):Prop:=o.casesOn False k
theorem onO_e {α:Type} {k:α→Prop} {o:Option α} {G:Prop} (h:onO k o) (f:∀a,o=some a→k a→G):G:=by
 induction o using Option.casesOn with
 |none=>exact h.elim
 |some a=>exact f a rfl h
noncomputable def nameA (x:Str) (ρ:Loc) (σ:AH) (Q:Post) (k:NameKind):Prop:=k.casesOn (onO (λa=>Q a σ) (ρ.get x)) (onO (λa=>Q a σ) (ρ.get x)) (onO (λa=>Q a σ) (ρ.get x)) False (onO (λa=>Q (.ref a) σ) (gtab.lookup x))
noncomputable def constA (σ:AH) (Q:Post) (c:Const):Prop:=c.casesOn (Q .none σ) (λb=>Q (.bool b) σ) (λi=>Q (.int i) σ) (λ_=>False) (λ_ _=>False) (λs=>Q (.str s) σ) (λ_=>False) False
noncomputable def unA (R:Ops) (Γ:Cx) (x:Expr) (ρ:Loc) (σ:AH) (Q:Post) (op:UnaryOp):Prop:=op.casesOn False (R.E Γ x ρ σ (qTr (qNot Q))) False (R.E Γ x ρ σ (qNeg Q))
noncomputable def stepE (R:Ops) (Γ:Cx) (e:Expr) (ρ:Loc) (σ:AH) (Q:Post):Prop:=e.casesOn (λop vs _=>boolA R Γ ρ op vs σ Q) (λ_ _ _=>False) (λl op r _=>R.E Γ l ρ σ (qBin R op r Γ ρ Q)) (λop x _=>unA R Γ x ρ σ Q op) (λ_ _ _ _=>False) (λt b o _=>R.T Γ t ρ σ (qIfE R b o Γ ρ Q)) (λks vs _=>chk (Nat.ble ks.length 10 && pairUp ks vs) (evKV R Γ ρ ks vs σ (qDict Q))) (λ_ _ _=>False) (λelt gens sc _=>chk (compOk Γ sc gens) (compA R Γ elt gens sc ρ σ (qList Q))) (λ_ _ _ _=>False) (λ_ _ _ _ _=>False) (λ_ _ _ _=>False) (λ_ _=>False) (λ_ _=>False) (λ_ _=>False) (λl ops rs _=>match ops,rs with
 |[op],[r]=>chk (!behindInMarks op r) (R.E Γ l ρ σ (qCmp R op r Γ ρ Q))
 |_,_=>False) (λf args kws pos=>chk (kws.isEmpty && plainArgs args) (callA R Γ f args pos ρ σ Q)) (λ_ _ _ _=>False) (λ_ _=>False) (λc _ _=>constA σ Q c) (λv n _=>chk (notSuper v) (R.E Γ v ρ σ (qAttr n Q))) (λv s _=>R.E Γ v ρ σ (qSub R s Γ ρ Q)) (λ_ _=>False) (λx _=>chk (okName x) (onO (nameA x ρ σ Q) (Γ.nm.lookup x))) (λes _=>chk (Nat.ble es.length 20) (evs R Γ ρ es σ (qList Q))) (λes _ _=>chk (Nat.ble es.length 20) (evs R Γ ρ es σ (qTup Q))) (λ_ _ _ _=>False)
noncomputable def stepT (R:Ops) (Γ:Cx) (e:Expr) (ρ:Loc) (σ:AH) (Q:Bool→AH→Prop):Prop:=e.casesOn (λop vs _=>allA R Γ ρ op vs σ Q) (λ_ _ _=>False) (λ_ _ _ _=>False) (λop x _=>op.casesOn False (R.T Γ x ρ σ (qNotB Q)) False False) (λ_ _ _ _=>False) (λt b o _=>R.T Γ t ρ σ (qIfT R b o Γ ρ Q)) (λ_ _ _=>False) (λ_ _ _=>False) (λ_ _ _ _=>False) (λ_ _ _ _=>False) (λ_ _ _ _ _=>False) (λ_ _ _ _=>False) (λ_ _=>False) (λ_ _=>False) (λ_ _=>False) (λl ops rs _=>match ops,rs with
 |[op],[r]=>chk (!behindInMarks op r) (R.E Γ l ρ σ (qCmp R op r Γ ρ (qTr Q)))
 |_,_=>False) (λa b c d=>R.E Γ (.Call a b c d) ρ σ (qTr Q)) (λ_ _ _ _=>False) (λ_ _=>False) (λ_ _ _=>False) (λa b c=>R.E Γ (.Attribute a b c) ρ σ (qTr Q)) (λa b c=>R.E Γ (.Subscript a b c) ρ σ (qTr Q)) (λ_ _=>False) (λid p=>R.E Γ (.Name id p) ρ σ (qTr Q)) (λ_ _=>False) (λ_ _ _=>False) (λ_ _ _ _=>False)
set_option backward.match.sparseCases false in
noncomputable def isTupleE:Expr→Option (List Expr)
 |.Tuple es _ _=>some es
 |_=>none
noncomputable def qLoop (I:EPost) (K:SPost):SPost:=λfl ρ σ=>match fl with
 |.next=>I ρ σ
 |.cont=>I ρ σ
 |.brk=>K .next ρ σ
 |.ret v=>K (.ret v) ρ σ
noncomputable def qBody (R:Ops) (body:List Stmt) (Γ:Cx) (K:SPost):EPost:=λρ σ=>R.S Γ body ρ σ K
inductive ForI (R:Ops) (t:Expr) (body:List Stmt) (Γ:Cx) (s:Src) (ρ:Loc) (σ:AH) (K:SPost):Prop
 |mk (I:List AV→Loc→AH→Prop) (h0:I s.items ρ σ) (h1:∀ρ σ,I [] ρ σ→s.stands σ∧K .next ρ σ) (h2:∀x rest ρ σ,I (x :: rest) ρ σ→s.stands σ∧asg R Γ t x ρ σ (qBody R body Γ (qLoop (I rest) K))):ForI R t body Γ s ρ σ K
noncomputable def qFor (R:Ops) (t:Expr) (body:List Stmt) (Γ:Cx) (ρ:Loc) (K:SPost):Src→AH→Prop:=λs σ=>ForI R t body Γ s ρ σ K
inductive EnumI (R:Ops) (i y:Str) (body:List Stmt) (Γ:Cx) (a:Addr) (ρ:Loc) (σ:AH) (K:SPost):Prop
 |mk (xs:List AV) (h:rd σ a=some (.list xs)) (l:xs.length≤100000) (I:Nat→List AV→Loc→AH→Prop) (h0:I 0 xs ρ σ) (h1:∀n ρ σ,I n [] ρ σ→rd σ a=some (.list xs)∧K .next ρ σ)
  (h2:∀n x rest ρ σ,I n (x :: rest) ρ σ→rd σ a=some (.list xs)∧chk (stored1 Γ ρ i && stored1 Γ ρ y) (R.S Γ body ((ρ.set i (.int n)).set y x) σ (qLoop (I (n + 1) rest) K))):EnumI R i y body Γ a ρ σ K
noncomputable def qEnum (R:Ops) (i y:Str) (body:List Stmt) (Γ:Cx) (ρ:Loc) (K:SPost):Post:=λv σ=>onRef (λa=>EnumI R i y body Γ a ρ σ K) v
theorem isTupleE_e {v:Expr} {es:List Expr} (e:isTupleE v=some es):∃k p,v=.Tuple es k p:=by
 induction v using Expr.casesOn with
 |Tuple es' k p=>exact ⟨k,p,congrArg (Expr.Tuple · k p) (Option.some.inj e)⟩
 |_=>exact nn e
noncomputable def qEnumP (R:Ops) (e:Expr) (body:List Stmt) (Γ:Cx) (ρ:Loc) (σ:AH) (K:SPost) (i y:Option Str):Prop:=match i with
 |some i=>match y with
  |some y=>R.E Γ e ρ σ (qEnum R i y body Γ ρ K)
  |none=>False
 |none=>False
noncomputable def enumA (R:Ops) (e:Expr) (body:List Stmt) (Γ:Cx) (ρ:Loc) (σ:AH) (K:SPost) (ts:Option (List Expr)):Prop:=match ts with
 |some [a,b]=>qEnumP R e body Γ ρ σ K (nmOf a) (nmOf b)
 |_=>False
theorem enumA_e {R:Ops} {e t:Expr} {body:List Stmt} {Γ:Cx} {ρ:Loc} {σ:AH} {K:SPost} (h:enumA R e body Γ ρ σ K (isTupleE t)):∃i p y q c r,t=.Tuple [.Name i p,.Name y q] c r∧R.E Γ e ρ σ (qEnum R i y body Γ ρ K):=by
 induction bb:isTupleE t with
 |none=>rw[bb] at h;exact h.elim
 |some ts=>
  rw[bb] at h
  (refine xEE (isTupleE_e bb) λc r=>?_;rintro rfl)
  induction ts using List.casesOn with
  |nil=>exact h.elim
  |cons a ts=>induction ts using List.casesOn with
   |nil=>exact h.elim
   |cons b ts=>induction ts using List.casesOn with
    |cons=>exact h.elim
    |nil=>
     have h:qEnumP R e body Γ ρ σ K (nmOf a) (nmOf b):=h
     induction ea:nmOf a with
     |none=>rw[ea] at h;exact h.elim
     |some i=>
      rw[ea] at h
      induction eb:nmOf b with
      |none=>rw[eb] at h;exact h.elim
      |some y=>
       rw[eb] at h
       obtain ⟨p,rfl⟩:=nmOf_e ea
       obtain ⟨q,rfl⟩:=nmOf_e eb
       exact ⟨i,p,y,q,c,r,rfl,h⟩
noncomputable def forA (R:Ops) (Γ:Cx) (t it:Expr) (body:List Stmt) (ρ:Loc) (σ:AH) (K:SPost):Prop:=match call1 "enumerate" it with
 |none=>srcOf R Γ it ρ σ (qFor R t body Γ ρ K)
 |some e=>chk (Γ.nm.lookup (Str.ofString "enumerate") == some NameKind.globalImplicit && noStar1 e) (enumA R e body Γ ρ σ K (isTupleE t))
set_option backward.match.sparseCases false in
noncomputable def notSD:Expr→Bool
 |.SetComp ..=>false
 |.DictComp ..=>false
 |_=>true
set_option backward.match.sparseCases false in
noncomputable def notL:Expr→Bool
 |.List ..=>false
 |_=>true
noncomputable def swapOk (es:List Expr):Bool:=es.all (foldedForSure 8) || !es.all (constantsAlone 8)
noncomputable def qDrop (K:EPost) (ρ:Loc):Post:=λ_ σ=>K ρ σ
noncomputable def qNext (K:SPost):EPost:=λρ σ=>K .next ρ σ
noncomputable def qRet (K:SPost) (ρ:Loc):Post:=λv σ=>K (.ret v) ρ σ
noncomputable def qIfS (R:Ops) (b o:List Stmt) (Γ:Cx) (ρ:Loc) (K:SPost):BPost:=λc σ=>if c then R.S Γ b ρ σ K else R.S Γ o ρ σ K
noncomputable def qAsgT (R:Ops) (ts:List Expr) (Γ:Cx) (ρ:Loc) (K:EPost):LPost:=λvs σ=>asgs R Γ ts vs ρ σ K
noncomputable def qAsg (R:Ops) (t:Expr) (Γ:Cx) (ρ:Loc) (K:EPost):Post:=λv σ=>asg R Γ t v ρ σ K
noncomputable def qAug3 (n:Str) (ov old:AV) (K:AH→Prop):Post:=λx σ=>onInt (λi=>onInt (λj=>setAttrA n ov (.int (i + j)) σ K) x) old
noncomputable def qAug2 (R:Ops) (v:Expr) (n:Str) (Γ:Cx) (ρ:Loc) (ov:AV) (K:AH→Prop):Post:=λold σ=>R.E Γ v ρ σ (qAug3 n ov old K)
noncomputable def qAug (R:Ops) (v:Expr) (n:Str) (Γ:Cx) (ρ:Loc) (K:AH→Prop):Post:=λov σ=>attrA n ov σ (qAug2 R v n Γ ρ ov K)
noncomputable def qRaise (Γ:Cx):Post:=λv σ=>Γ.X v σ
noncomputable def asgS (R:Ops) (Γ:Cx) (t v:Expr) (ρ:Loc) (σ:AH) (K:SPost):Prop:=match isTupleE t,isTupleE v with
 |some ts,some es=>chk (Nat.beq ts.length es.length && noStars ts && swapOk es && Nat.ble es.length 20) (evs R Γ ρ es σ (qAsgT R ts Γ ρ (qNext K)))
 |_,_=>chk (notSD v && notL t) (R.E Γ v ρ σ (qAsg R t Γ ρ (qNext K)))
noncomputable def augS (R:Ops) (Γ:Cx) (t v:Expr) (op:Operator) (ρ:Loc) (σ:AH) (K:SPost):Prop:=t.casesOn (λ_ _ _=>False) (λ_ _ _=>False) (λ_ _ _ _=>False) (λ_ _ _=>False) (λ_ _ _ _=>False) (λ_ _ _ _=>False) (λ_ _ _=>False) (λ_ _ _=>False) (λ_ _ _ _=>False) (λ_ _ _ _=>False) (λ_ _ _ _ _=>False) (λ_ _ _ _=>False) (λ_ _=>False) (λ_ _=>False) (λ_ _=>False) (λ_ _ _ _=>False) (λ_ _ _ _=>False) (λ_ _ _ _=>False) (λ_ _=>False) (λ_ _ _=>False) (λo n _=>chk (notSuper o && op == Operator.Add) (R.E Γ o ρ σ (qAug R v n Γ ρ (qNext K ρ)))) (λ_ _ _=>False) (λ_ _=>False) (λ_ _=>False) (λ_ _=>False) (λ_ _ _=>False) (λ_ _ _ _=>False)
noncomputable def raiS2 (R:Ops) (Γ:Cx) (as:List Expr) (ks:List Keyword) (ρ:Loc) (σ:AH) (r:Str):Prop:=as.casesOn False λe r1=>r1.casesOn (ks.casesOn (chk (r == "Raised" && Γ.nm.lookup r == some .globalImplicit && plainArgs [e]) (3≤Γ.d∧R.E Γ e ρ σ (qRaise Γ))) λ_ _=>False) λ_ _=>False
noncomputable def raiS1 (R:Ops) (Γ:Cx) (f:Expr) (as:List Expr) (ks:List Keyword) (ρ:Loc) (σ:AH):Prop:=f.casesOn (λ_ _ _=>False) (λ_ _ _=>False) (λ_ _ _ _=>False) (λ_ _ _=>False) (λ_ _ _ _=>False) (λ_ _ _ _=>False) (λ_ _ _=>False) (λ_ _ _=>False) (λ_ _ _ _=>False) (λ_ _ _ _=>False) (λ_ _ _ _ _=>False) (λ_ _ _ _=>False) (λ_ _=>False) (λ_ _=>False) (λ_ _=>False) (λ_ _ _ _=>False) (λ_ _ _ _=>False) (λ_ _ _ _=>False) (λ_ _=>False) (λ_ _ _=>False) (λ_ _ _=>False) (λ_ _ _=>False) (λ_ _=>False) (λr _=>raiS2 R Γ as ks ρ σ r) (λ_ _=>False) (λ_ _ _=>False) (λ_ _ _ _=>False)
noncomputable def raiS (R:Ops) (Γ:Cx) (e:Expr) (ρ:Loc) (σ:AH):Prop:=e.casesOn (λ_ _ _=>False) (λ_ _ _=>False) (λ_ _ _ _=>False) (λ_ _ _=>False) (λ_ _ _ _=>False) (λ_ _ _ _=>False) (λ_ _ _=>False) (λ_ _ _=>False) (λ_ _ _ _=>False) (λ_ _ _ _=>False) (λ_ _ _ _ _=>False) (λ_ _ _ _=>False) (λ_ _=>False) (λ_ _=>False) (λ_ _=>False) (λ_ _ _ _=>False) (λf as ks _=>raiS1 R Γ f as ks ρ σ) (λ_ _ _ _=>False) (λ_ _=>False) (λ_ _ _=>False) (λ_ _ _=>False) (λ_ _ _=>False) (λ_ _=>False) (λ_ _=>False) (λ_ _=>False) (λ_ _ _=>False) (λ_ _ _ _=>False)
noncomputable def stepSt (R:Ops) (Γ:Cx) (st:Stmt) (ρ:Loc) (σ:AH) (K:SPost):Prop:=st.casesOn (λ_ _ _ _ _ _ _ _ _ _=>False) (λ_ _ _ _ _ _ _ _ _ _=>False) (λ_ _ _ _ _ _ _ _ _ _ _=>False) (λo _=>o.casesOn False λe=>R.E Γ e ρ σ (qRet K ρ)) (λ_ _=>False) (λts v _=>ts.casesOn False λt r=>r.casesOn (asgS R Γ t v ρ σ K) λ_ _=>False) (λ_ _ _ _ _ _ _=>False) (λt op v _=>augS R Γ t v op ρ σ K) (λ_ _ _ _ _=>False) (λt it body o _=>o.casesOn (forA R Γ t it body ρ σ K) λ_ _=>False) (λ_ _ _ _ _=>False) (λ_ _ _ _=>False) (λt b o _=>R.T Γ t ρ σ (qIfS R b o Γ ρ K)) (λ_ _ _=>False) (λ_ _ _=>False) (λ_ _ _=>False) (λe c _=>e.casesOn False λe=>c.casesOn (raiS R Γ e ρ σ) λ_=>False) (λ_ _ _ _ _=>False) (λ_ _ _ _ _=>False) (λ_ _ _=>False) (λ_ _=>False) (λ_ _ _ _=>False) (λ_ _=>False) (λ_ _=>False) (λe _=>chk (!isComp e) (R.E Γ e ρ σ (qDrop (qNext K) ρ))) (λ_=>False) (λ_=>False) (λ_=>False)
noncomputable def seqK (R:Ops) (rest:List Stmt) (Γ:Cx) (K:SPost):SPost:=λfl ρ σ=>match fl with
 |.next=>R.S Γ rest ρ σ K
 |fl=>K fl ρ σ
noncomputable def stepS (R:Ops) (Γ:Cx):List Stmt→Loc→AH→SPost→Prop
 |[],ρ,σ,K=>K .next ρ σ
 |st :: rest,ρ,σ,K=>stepSt R Γ st ρ σ (seqK R rest Γ K)
noncomputable def awp:Nat→Ops
 |0=>⟨λ_ _ _ _ _=>False,λ_ _ _ _ _=>False,λ_ _ _ _ _=>False⟩
 |n + 1=>⟨stepE (awp n),stepT (awp n),stepS (awp n)⟩
theorem lk_mem {α β:Type} [BEq α] [LawfulBEq α]:∀{l:List (α×β)} {k:α} {v:β},l.lookup k=some v→(k,v)∈l:=by
 intro l
 induction l with
 |nil=>intro k v e;exact nn e
 |cons p r ih=>
  obtain ⟨a,b⟩:=p
  intro k v e
  rw[List.lookup_cons] at e
  induction q:k == a with
  |true=>rw[q] at e;(have e:=sJ e;subst e);refine rE (eq_of_beq q) ?_;exact .head _
  |false=>rw[q] at e;exact .tail _ (ih e)
@[elab_as_elim] theorem attrA_e {n:Str} {v:AV} {σ:AH} {Q:Post} {motive:Value→Prop} {o:Value} (h:attrA n v σ Q) (i:v.Is o) (k:∀a C d fs x,σ a=some (.inst C d fs)→fieldOk C n=true→kget fs n=some x→Q x σ→motive (.ref a)):motive o:=by
 induction v with
 |ref a=>subst i;induction h with|mk C d fs h ok x e q=>exact k a C d fs x h ok e q
 |_=>exact h.elim
@[elab_as_elim] theorem setAttrA_e {n:Str} {v u:AV} {σ:AH} {K:AH→Prop} {motive:Value→Prop} {o:Value} (h:setAttrA n v u σ K) (i:v.Is o) (k:∀a C d fs,σ a=some (.inst C d fs)→fieldOk C n=true→fs.length≤900→K (up σ a (.inst C d (kput fs n u)))→motive (.ref a)):motive o:=by
 induction v with
 |ref a=>subst i;induction h with|mk C d fs h ok l q=>exact k a C d fs h ok l q
 |_=>exact h.elim
@[elab_as_elim] theorem truthA_e {v:AV} {σ:AH} {Q:BPost} {motive:Value→Prop} {o:Value} (h:truthA v σ Q) (i:v.Is o) (k:∀b,Q b σ→motive (.bool b)):motive o:=by
 induction v with
 |bool b=>subst i;exact k b h
 |_=>exact h.elim
structure FQ where
 l:List Env
 env:Env
 own:Addr→Prop
 σ₀:AH
 s₀:Shared
structure At (prog:Program) (w:World) (B:Heap) (F:FQ) (ρ:Loc) (σ:AH) (s:Shared):Prop where
 fs:FS prog w B F.l F.env ρ σ s
 ev:Ev F.l F.own F.σ₀ F.s₀ σ s
inductive Fly (prog:Program) (w:World) (B h₀:Heap) (l:List Env) (σ:AH) (e:Value) (v:AV) (s:Shared):Prop
 |mk (ea d:Addr) (oe:Obj) (vs:Array Value) (kvs:List (Str×Value)) (u:Value) (k1:e=.ref ea) (k2:s.heap.get? ea=some oe) (k3:oe.cls=.ref 654) (k4:oe.dict=some d) (k5:oe.data=.fields vs) (k6:s.heap.DictOf (strKind prog w) d kvs) (k7:valueAt kvs "thing"=some u) (k8:v.Is u)
  (k9:h₀.get? ea=none) (k10:B.get? ea=none) (k11:¬Mut σ ea) (k12:¬Mut σ d) (k13:d∉frs l)
  (k14:vs[1]?=some .none∨∃T oT ts,vs[1]?=some (.ref T)∧T≠ea∧h₀.get? T=none∧B.get? T=none∧¬Mut σ T∧s.heap.get? T=some oT∧oT.data=.fields ts∧(∀q t,ts[1]?≠some (.str q t))∧3 < ts.size):Fly prog w B h₀ l σ e v s
inductive ErrAt (prog:Program) (w:World) (B:Heap) (l:List Env) (own:Addr→Prop) (σ₀:AH) (s₀:Shared) (X:Post) (e:Value) (s:Shared):Prop
 |mk (v:AV) (σ:AH) (fl:Fly prog w B s₀.heap l σ e v s) (ws:WS prog w B l σ s) (ev:Ev l own σ₀ s₀ σ s) (x:X v σ):ErrAt prog w B l own σ₀ s₀ X e s
noncomputable def Err (prog:Program) (w:World) (B:Heap) (F:FQ) (X:Post):Value→Shared→Prop:=ErrAt prog w B F.l F.own F.σ₀ F.s₀ X
noncomputable def Room (A:Around) (d:Nat):Prop:=A.depth + 6 * d≤980∧A.units + 40 * d≤9600
inductive RRet (prog:Program) (w:World) (B:Heap) (l:List Env) (σ:AH) (s:Shared) (Q:Post) (v:Value) (s':Shared):Prop
 |mk (a:AV) (σ':AH) (i:a.Is v) (ws:WS prog w B l σ' s') (ev:Ev l none' σ s σ' s') (q:Q a σ'):RRet prog w B l σ s Q v s'
noncomputable def ROut (prog:Program) (w:World) (B:Heap) (l:List Env) (σ:AH) (s:Shared) (Q X:Post) (r:Result) (s':Shared):Prop:=match r with
 |.ok (.ret v)=>RRet prog w B l σ s Q v s'
 |.ok _=>False
 |.error e=>ErrAt prog w B l none' σ s X e s'
structure CallOK (prog:Program) (w:World) (B:Heap) (d:Nat) (f:Addr) (vs:List AV) (σ:AH) (Q X:Post):Prop where of ::
 ok:∀A l s args,Room A d→A.frames=some l→A.handled=none→WS prog w B l σ s→AllIs vs args→
  codeAny (model prog w) A (.call (.ref f) ⟨args,[]⟩) (ROut prog w B l σ s Q X) s
noncomputable def kFld (K:Frag):Bool:=ftab.all λp=>plainGet K p.1 "" && hasDictIn K p.1 && plainOver K p.1 && (findIn K (.ref p.1) "__setattr__" == some (some (.builtin "object.__setattr__"))) &&
 p.2.all λn=>(match findIn K (.ref p.1) n with|some attr=>noGet K attr|none=>false) && takerIn K p.1 n == some none
noncomputable def kGlob (K:Frag):Bool:=gtab.all λp=>nsIn K mainGlobals p.1 == some (some (.ref p.2)) && (!callable p.2 || keepIn K (.ref p.2))
noncomputable def bnames:List String:=["ValueError","len","int","sum","list","dict","abs","isinstance","range","enumerate","bool","str"]
noncomputable def kBi (K:Frag):Bool:=bnames.all λn=>nsIn K mainGlobals (Str.ofString n) == some none && bootBuiltins (Str.ofString n) != none
noncomputable def kMeth (K:Frag):Bool:=mtab.all λp=>plainGet K p.1 "" && hasDictIn K p.1 && p.2.all λq=>findIn K (.ref p.1) q.1 == some (some (.ref q.2)) && isFn K (.ref q.2) && keepIn K (.ref q.2)
noncomputable def kIsi (K:Frag):Bool:=specialIn K (.builtin "object.__class__") "__get__" == some (some (.builtin "getset_descriptor.__get__")) && takesIn K (.builtin "object.__class__") == some true &&
 isaTab.all λp=>plainGet K p.1 "__class__" && hasDictIn K p.1 && findIn K (.ref p.1) "__class__" == some (some (.builtin "object.__class__")) && mroIn K p.1 (.type "object") == some true &&
  (["bool","int","str"].all λT=>kin_notT K p.1 T) && clsAll.all λC=>bif p.2.contains C then isIn K (.ref p.1) C else kin_not K p.1 C
noncomputable def kCat (K:Frag):Bool:=typeIn K (.ref 40) == some (.type "type") && readsIn K 40 (.type "type") && (match findCls K (.ref 40) (.type "type") "__init__" with|some (.val v)=>v == .ref 37|_=>false) &&
 specialIn K (.ref 40) "__getattribute__" == some (some (.builtin "type.__getattribute__")) && keepIn K (.ref 37)
structure Gd (prog:Program) (w:World) (K:Frag) (B:Heap):Prop where
 X:K.In B
 lim:B.NoLimit
 top:∃p loose mg mb,TopRead p loose mg mb B
 fld:kFld K=true
 glob:kGlob K=true
 bi:kBi K=true
 meth:kMeth K=true
 isi:kIsi K=true
 cat:kCat K=true
 so:∀a o,so a=some o→ORep prog w B a o
 low:∃b o,2 < b∧B.get? b=some o
structure Fit (prog:Program) (w:World) (B:Heap) (Γ:Cx) (A:Around) (F:FQ):Prop where
 loc:∀x,Γ.nm.lookup x=some .local→F.env.kindOf x=some .local
 cel:∀x,Γ.nm.lookup x=some .cell→F.env.kindOf x=some .cell
 fre:∀x,Γ.nm.lookup x=some .free→F.env.kindOf x=some .free∨F.env.kindOf x=some .cell
 glo:∀x,Γ.nm.lookup x=some .globalImplicit→F.env.kindOf x=some .globalImplicit
 kind:F.env.scope.kind=.function
 g:F.env.globals=mainGlobals
 b:F.env.builtins=builtinsNs
 frames:A.frames=some F.l
 handled:A.handled=none
 room:Room A Γ.d
 call:∀d f vs σ Q X,Γ.call d f vs σ Q X→CallOK prog w B d f vs σ Q X
 mineL:F.own F.env.locals
 mineC:∀x c,Γ.nm.lookup x=some .cell→F.env.cells.lookup x=some c→F.own c
 top:(∃r L,F.l=F.env :: r∧F.env.frame=some L)∨∀v σ,¬Γ.X v σ
 newL:B.get? F.env.locals=none
 old:∀b,F.own b→F.s₀.heap.get? b≠none
 newC:∀x c,F.env.cells.lookup x=some c→B.get? c=none
 code:∀P q,Γ.tab=some (P,q)→∃c,F.env.code=.ref c∧CodeHd B c P∧F.env.qual ++ "<lambda>"=q
inductive REx (prog:Program) (w:World) (B:Heap) (F:FQ) (ρ:Loc) (Q:Post) (v:Value) (s':Shared):Prop
 |mk (a:AV) (σ':AH) (i:a.Is v) (H:At prog w B F ρ σ' s') (q:Q a σ'):REx prog w B F ρ Q v s'
inductive RTx (prog:Program) (w:World) (B:Heap) (F:FQ) (ρ:Loc) (Q:BPost) (b:Bool) (s':Shared):Prop
 |mk (σ':AH) (H:At prog w B F ρ σ' s') (q:Q b σ'):RTx prog w B F ρ Q b s'
noncomputable def Fl.Is:Fl→Flow→Prop
 |.next,.next=>True
 |.brk,.brk=>True
 |.cont,.cont=>True
 |.ret a,.ret v=>a.Is v
 |_,_=>False
inductive RSx (prog:Program) (w:World) (B:Heap) (F:FQ) (K:SPost) (f:Flow) (s':Shared):Prop
 |mk (fl:Fl) (ρ:Loc) (σ':AH) (i:Fl.Is fl f) (H:At prog w B F ρ σ' s') (q:K fl ρ σ'):RSx prog w B F K f s'
inductive RVx (prog:Program) (w:World) (B:Heap) (F:FQ) (ρ:Loc) (x:Str) (Q:Post) (s':Shared):Prop
 |mk (a:AV) (σ':AH) (H:At prog w B F (ρ.set x a) σ' s') (q:Q a σ'):RVx prog w B F ρ x Q s'
section
variable (prog:Program) (w:World) (B:Heap)
noncomputable def SE (R:Ops):Prop:=∀{Γ A F e ρ σ Q s},R.E Γ e ρ σ Q→Fit prog w B Γ A F→At prog w B F ρ σ s→wpAny (model prog w) A (eval e F.env) (REx prog w B F ρ Q) (Err prog w B F Γ.X) s
noncomputable def ST (R:Ops):Prop:=∀{Γ A F e ρ σ Q s},R.T Γ e ρ σ Q→Fit prog w B Γ A F→At prog w B F ρ σ s→wpAny (model prog w) A (isTrue e F.env (eval e F.env)) (RTx prog w B F ρ Q) (Err prog w B F Γ.X) s
noncomputable def SS (R:Ops):Prop:=∀{Γ A F b ρ σ K s},R.S Γ b ρ σ K→Fit prog w B Γ A F→At prog w B F ρ σ s→wpAny (model prog w) A (execs b F.env) (RSx prog w B F K) (Err prog w B F Γ.X) s
noncomputable def SU (R:Ops):Prop:=∀{Γ A F elt gens sc pos x tp ρ σ Q s},R.E Γ (.ListComp elt gens sc pos) ρ σ Q→(∀a σ,Q a σ→stored1 Γ ρ x=true)→Fit prog w B Γ A F→At prog w B F ρ σ s→
 wpAny (model prog w) A (evalThenUse (.ListComp elt gens sc pos) F.env (assign (.Name x tp) F.env)) (λ_ s'=>RVx prog w B F ρ x Q s') (Err prog w B F Γ.X) s
structure Snd (R:Ops):Prop where
 e:SE prog w B R
 t:ST prog w B R
 s:SS prog w B R
 u:SU prog w B R
end
section
variable {prog:Program} {w:World} {B:Heap} {K:Frag} {Γ:Cx} {A A':Around} {F:FQ} {ρ:Loc} {σ:AH} {s:Shared}
theorem Snd.E {R:Ops} (snd:Snd prog w B R) {e:Expr} {Q:Post} {S:Value→Shared→Prop} (h:R.E Γ e ρ σ Q) (fit:Fit prog w B Γ A F) (H:At prog w B F ρ σ s) (k:∀a u σ₁ s₁,a.Is u→At prog w B F ρ σ₁ s₁→Q a σ₁→S u s₁):wpAny (model prog w) A (eval e F.env) S (Err prog w B F Γ.X) s:=
 wpAny_mono (snd.e h fit H) (λu s₁ z=>by induction z with|mk a σ₁ i H q=>exact k a u σ₁ s₁ i H q) λ_ _ z=>z
theorem Snd.T {R:Ops} (snd:Snd prog w B R) {e:Expr} {Q:BPost} {S:Bool→Shared→Prop} (h:R.T Γ e ρ σ Q) (fit:Fit prog w B Γ A F) (H:At prog w B F ρ σ s) (k:∀b σ₁ s₁,At prog w B F ρ σ₁ s₁→Q b σ₁→S b s₁):wpAny (model prog w) A (isTrue e F.env (eval e F.env)) S (Err prog w B F Γ.X) s:=
 wpAny_mono (snd.t h fit H) (λb s₁ z=>by induction z with|mk σ₁ H q=>exact k b σ₁ s₁ H q) λ_ _ z=>z
theorem At.step {σ':AH} {s':Shared} (H:At prog w B F ρ σ s) (E:Ev F.l none' σ s σ' s') (hB:B.StaysIn s'.heap) (R:Rep prog w B σ' s'.heap):At prog w B F ρ σ' s':=
 ⟨H.fs.ev0 E hB R,H.ev.trans (E.mono λ_ f=>f.elim)⟩
theorem At.tok (H:At prog w B F ρ σ s) (t:Tok):At prog w B F ρ σ { s with toks:=t }:=⟨H.fs.tok t,H.ev.tokR t⟩
theorem At.of {l:List Env} {σ':AH} {s':Shared} (H:At prog w B F ρ σ s) (h:F.l=l) (W:WS prog w B l σ' s') (E:Ev l none' σ s σ' s'):At prog w B F ρ σ' s':=by
 subst h;exact H.step E W.stays W.rep
theorem gtab_in (Gd:Gd prog w K B) {x:Str} {a:Addr} (e:gtab.lookup x=some a):nsIn K mainGlobals x=some (some (.ref a))∧(callable a=true→keepIn K (.ref a)=true):=by
 have h:=List.all_eq_true.mp Gd.glob (x,a) (lk_mem e)
 simp only[Bool.and_eq_true,beq_iff_eq,Bool.or_eq_true,Bool.not_eq_true'] at h
 exact ⟨h.1,λc=>h.2.resolve_left (by refine rE c ?_;exact dE rfl)⟩
theorem X_in (Gd:Gd prog w K B) (H:At prog w B F ρ σ s):K.In s.heap:=Gd.X.keeps H.fs.ws.stays
theorem ld_glob (Gd:Gd prog w K B) (fit:Fit prog w B Γ A F) (H:At prog w B F ρ σ s) {x:Str} {a:Addr} {E:Value→Shared→Prop} {Q:Value→Shared→Prop} (hn:Γ.nm.lookup x=some .globalImplicit) (e:gtab.lookup x=some a)
 (h:Q (.ref a) s):wpAny (model prog w) A' (loadName F.env x) Q E s:=by
 refine xEEEE Gd.top λp loose mg mb T=>?_
 refine rE (loadName_read fit.kind (fit.glo x hn)) ?_
 refine loadGlobal_global (mg:=mg) ?_ (mg_of Gd.X T.g (gtab_in Gd e).1) h
 refine rE fit.g ?_;exact T.g.keeps H.fs.ws.stays
theorem ld_bi (Gd:Gd prog w K B) (fit:Fit prog w B Γ A F) (H:At prog w B F ρ σ s) {x:String} {v:Value} {E:Value→Shared→Prop} {Q:Value→Shared→Prop} (hn:Γ.nm.lookup (Str.ofString x)=some .globalImplicit) (e:x∈bnames)
 (hv:bootBuiltins (Str.ofString x)=some v) (h:Q v s) (hnn:Str.ofString x ≠ "__name__"):wpAny (model prog w) A' (loadName F.env (Str.ofString x)) Q E s:=by
 refine xEEEE Gd.top λp loose mg mb T=>?_
 have k:=List.all_eq_true.mp Gd.bi x e
 simp only[Bool.and_eq_true,beq_iff_eq] at k
 refine rE (loadName_read fit.kind (fit.glo _ hn)) ?_
 refine loadGlobal_builtin (mg:=mg) (mb:=mb) ?_ (mg_none_of Gd.X T.g k.1) ?_ ((T.builtins _ hnn).trans hv) h
 ·refine rE fit.g ?_;exact T.g.keeps H.fs.ws.stays
 ·refine rE fit.b ?_;exact T.b.keeps H.fs.ws.stays
theorem okName_iff {x:Str} (h:okName x=true):(x == ("__debug__":Str))=false∧(x == ("__classdict__":Str))=false:=by
 unfold okName at h
 simpa using h
theorem ld_cell (fit:Fit prog w B Γ A F) (H:At prog w B F ρ σ s) {x:Str} {a:AV} {E:Value→Shared→Prop} {Q:Value→Shared→Prop} (hk:F.env.kindOf x=some .cell∨F.env.kindOf x=some .free) (e:ρ.get x=some a)
 (hc:(x == ("__classdict__":Str))=false) (h:∀v,a.Is v→Q v s):wpAny (model prog w) A' (loadName F.env x) Q E s:=by
 obtain ⟨c,ec⟩:=Option.isSome_iff_exists.mp (H.fs.loc.has x hk)
 refine xEA (H.fs.loc.cell x c ec) λv hv k=>?_
 (refine xEA (k a hk e) λu=>?_;rintro rfl hu)
 rcases hk with hk|hk
 ·exact wpAny_loadName_cell fit.kind hk ec hv (h u hu)
 ·exact wpAny_loadName_free fit.kind hk ec hv (h u hu) hc
theorem ld_var (fit:Fit prog w B Γ A F) (H:At prog w B F ρ σ s) {x:Str} {a:AV} {E:Value→Shared→Prop} {Q:Value→Shared→Prop} (hk:Γ.nm.lookup x=some .local∨Γ.nm.lookup x=some .cell∨Γ.nm.lookup x=some .free) (e:ρ.get x=some a)
 (hc:(x == ("__classdict__":Str))=false) (h:∀v,a.Is v→Q v s):wpAny (model prog w) A' (loadName F.env x) Q E s:=by
 rcases hk with hk|hk|hk
 ·refine xEA H.fs.loc.ns λm hn k=>?_
  refine xEA (k x a (fit.loc x hk) e) λv hv hi=>?_
  exact wpAny_loadName_local fit.kind (fit.loc x hk) hn hv (h v hi)
 ·exact ld_cell fit H (.inl (fit.cel x hk)) e hc h
 ·exact ld_cell fit H (fit.fre x hk).symm e hc h
theorem e_const {R:Ops} {c:Const} {k pos} {Q:Post} (h:stepE R Γ (.Constant c k pos) ρ σ Q) (H:At prog w B F ρ σ s):wpAny (model prog w) A (eval (.Constant c k pos) F.env) (REx prog w B F ρ Q) (Err prog w B F Γ.X) s:=by
 induction c with
 |none=>exact wpAny_Constant_none ⟨.none,σ,rfl,H,h⟩
 |bool b=>exact wpAny_Constant_bool ⟨.bool b,σ,rfl,H,h⟩
 |int i=>exact wpAny_Constant_int ⟨.int i,σ,⟨_,rfl⟩,H.tok _,h⟩
 |str x=>exact wpAny_Constant_str ⟨.str x,σ,⟨_,rfl⟩,H.tok _,h⟩
 |_=>exact h.elim
set_option tactic.hygienic true in
theorem e_name (Gd:Gd prog w K B) {R:Ops} {x:Str} {pos} {Q:Post} (h:stepE R Γ (.Name x pos) ρ σ Q) (fit:Fit prog w B Γ A F) (H:At prog w B F ρ σ s):wpAny (model prog w) A (eval (.Name x pos) F.env) (REx prog w B F ρ Q) (Err prog w B F Γ.X) s:=by
 obtain ⟨ok,h⟩:=chk_iff h
 obtain ⟨n1,n2⟩:=okName_iff ok
 refine wpAny_Name ?_ n1
 have var:(Γ.nm.lookup x=some .local∨Γ.nm.lookup x=some .cell∨Γ.nm.lookup x=some .free)→onO (λa=>Q a σ) (ρ.get x)→wpAny (model prog w) A (loadName F.env x) (REx prog w B F ρ Q) (Err prog w B F Γ.X) s:=λek h=>onO_e h λa ea h=>ld_var fit H ek ea n2 λv hv=>⟨a,σ,hv,H,h⟩
 refine onO_e h λnk e h=>?_
 rcases nk with _|_|_|_|_
 ·exact var (.inl e) h
 ·exact var (.inr (.inl e)) h
 ·exact var (.inr (.inr e)) h
 ·exact h.elim
 ·exact onO_e h λa ea h=>ld_glob Gd fit H e ea ⟨.ref a,σ,rfl,H,h⟩
end
section
variable {prog:Program} {w:World} {B:Heap} {K:Frag} {Γ:Cx} {A:Around} {F:FQ} {ρ:Loc} {σ:AH} {s:Shared}
theorem isHanded {a:AV} {v:Value} (h:a.Is v):handedIn v=true:=by
 induction a with
 |none=>subst h;rfl
 |bool b=>subst h;rfl
 |int i=>obtain ⟨t,rfl⟩:=h;rfl
 |str x=>obtain ⟨t,rfl⟩:=h;rfl
 |ref a=>subst h;rfl
set_option tactic.hygienic true in
theorem fld_in (Gd:Gd prog w K B) {C:Addr} {n:Str} (e:fieldOk C n=true):plainGet K C ""=true∧hasDictIn K C=true∧plainOver K C=true∧findIn K (.ref C) "__setattr__"=some (some (.builtin "object.__setattr__"))∧
 (∃attr,findIn K (.ref C) n=some attr∧noGet K attr=true)∧takerIn K C n=some none:=by
 unfold fieldOk at e
 refine xEA (any_some e) λns e1 e2=>?_
 have h:=List.all_eq_true.mp Gd.fld (C,ns) (lk_mem e1)
 simp only[Bool.and_eq_true,beq_iff_eq] at h
 obtain ⟨⟨⟨⟨h1,h2⟩,h3⟩,h4⟩,h5⟩:=h
 have k:=List.all_eq_true.mp h5 n (List.contains_iff_mem.mp e2)
 simp only[Bool.and_eq_true,beq_iff_eq] at k
 refine ⟨h1,h2,h3,h4,?_,k.2⟩
 have k1:=k.1
 split at k1
 ·rename_i attr ea;exact iEA attr ea k1
 ·exact Bool.noConfusion k1
theorem inst_at {σ:AH} {h:Heap} {a C d:Addr} {fs} (R:Rep prog w B σ h) (e:σ a=some (.inst C d fs)):∃od,InstAt h a (instObj C d) C (some od)∧h.get? d=some od:=by
 (refine xAEA (R.obj a _ e) λe1 kvs=>?_;(rintro zz;refine xEEEA zz λo es ep ho r k=>?_))
 exact iEA o ⟨e1,rfl,rfl,ho⟩ ho
theorem keysOf_noRef {es:Array DictEntry} (hk:KeysOf (strKind prog w) es):es.toList.any (·.refKey)=false:=by
 rw[List.any_eq_false]
 intro e he
 refine xEA (hk e (by simpa using he)) λk h1 h2=>?_
 obtain ⟨t,ht⟩:=Value.isStrOf_shape h1
 unfold DictEntry.refKey;refine rE ht ?_;exact Bool.false_ne_true
theorem isStr_isStrOf (n:Str) (v:Value):v.isStr n=Value.isStrOf n v:=by induction v<;>rfl
theorem lookIn_dictOf {h:Heap} {d:Addr} {kvs:List (Str×Value)} {od:Obj} (D:h.DictOf (strKind prog w) d kvs) (e:h.get? d=some od) (n:Str):lookIn n od=some (valueAt kvs n):=by
 refine xEEEAAAAA D λo es ep ho hc hd hk hp hn=>?_
 rw[e] at ho;(have ho:=sJ ho;subst ho)
 unfold lookIn
 refine rE hd ?_
 dsimp only
 have f:=hp.find n
 have q:(es.toList.find? λx=>x.key.isStr n)=es.toList.find? λe=>(strKind prog w).is n e.key:=by congr 1;funext x;exact isStr_isStrOf n _
 refine rE q ?_
 induction z:es.toList.find? λe=>(strKind prog w).is n e.key with
 |some en=>rw[z] at f;simp only[Option.map_some] at f;exact rL f rfl
 |none=>rw[z] at f;simp only[Option.map_none] at f;refine rL f ?_;simp[keysOf_noRef hk]
theorem get_attr (Gd:Gd prog w K B) (H:At prog w B F ρ σ s) {n:Str} {a C d:Addr} {fs} {x:AV} {expr:Bool} {E:Value→Shared→Prop} {Q:Value→Shared→Prop} (e:σ a=some (.inst C d fs)) (ok:fieldOk C n=true) (ex:kget fs n=some x)
 (h:∀v t,x.Is v→Q v { s with toks:=t }):wpAny (model prog w) A (getAttr (.ref a) n expr) Q E s:=by
 (refine xAAAAA (fld_in Gd ok) λh1 h2 h3 h4=>?_;(rintro zz;refine xEA zz λattr h5 h6 h7=>?_))
 refine xEA (inst_at H.fs.ws.rep e) λod I hod=>?_
 refine xAEA (H.fs.ws.rep.obj a _ e) λ_ kvs D kv=>?_
 rcases kv.find n with ⟨z,_⟩|⟨a',v,z1,z2,z3⟩
 ·rw[ex] at z;exact nS z
 rw[ex] at z1;(have z1:=sJ z1;subst z1)
 have l:=lookIn_dictOf D hod n
 rw[z2] at l
 exact get_value (X_in Gd H) I (plainGet_of (name:=n) h1).1 (findObj_own h2 h5 h6 l) (isHanded z3) (h v _ z3)
theorem attrBase {o:Expr} {n:Str} {env:Env} {t:Sem Value} (h:notSuper o=true):attributeBase o n env t=t:=by
 induction o using Expr.casesOn with
 |Call f as ks pos=>
  induction f using Expr.casesOn with
  |Name id p=>
   rcases as with _|⟨a,as⟩
   ·rcases ks with _|⟨k,ks⟩
    ·have h:(!(some id == some "super" && true))=true:=h
     rw[Bool.and_true,Bool.not_eq_true',beq_eq_false_iff_ne] at h
     have e:(id != "super")=true:=bne_iff_ne.mpr λz=>h (congrArg some z)
     exact if_pos (by refine rE e ?_;rfl)
    ·rfl
   ·rfl
  |_=>rfl
 |_=>rfl
theorem e_attr (Gd:Gd prog w K B) {R:Ops} (snd:Snd prog w B R) {v:Expr} {n:Str} {pos} {Q:Post} (h:stepE R Γ (.Attribute v n pos) ρ σ Q) (fit:Fit prog w B Γ A F) (H:At prog w B F ρ σ s) :
 wpAny (model prog w) A (eval (.Attribute v n pos) F.env) (REx prog w B F ρ Q) (Err prog w B F Γ.X) s:=by
 obtain ⟨ok,h⟩:=chk_iff h
 refine Attribute_any_ ?_ (by rw[arm_eval_Attribute,attrBase ok])
 refine snd.E h fit H λa o σ' s₁ is H' q=>?_
 refine attrA_e q is λx C d fs y e ok' ey q=>?_
 exact get_attr Gd H' e ok' ey λv t hv=>⟨y,σ',hv,H'.tok _,q⟩
theorem dictOf_putName {h:Heap} {d:Addr} {kvs:List (Str×Value)} {n:Str} {v:Value} {t:Tok} (D:h.DictOf (strKind prog w) d kvs) :
 (h.update d (Obj.putName n (PyData.keyHash w.params n) (.str n t) v)).DictOf (strKind prog w) d (PySem.stored kvs n v):=by
 refine xEEEAAAAA D λo es ep ho hc hd hk hp hn=>?_
 have hkey:(strKind prog w).is n (.str n t)=true:=beq_self_eq_true n
 have hh:PyData.keyHash w.params n=(strKind prog w).hash n:=rfl
 have fi:(es.findIdx? λe=>e.key.isStr n)=es.findIdx? λe=>(strKind prog w).is n e.key:=by congr 1;funext x;exact isStr_isStrOf n _
 have hidx:(es.findIdx? λe=>(strKind prog w).is n e.key)=kvs.findIdx? λkv=>decide (kv.1=n):=by
  refine rL (hp.findIdx n) ?_;obtain ⟨l⟩:=es;simp
 obtain ⟨oc,od,odt,osl⟩:=o
 dsimp only at hd
 subst hd
 induction hi:es.findIdx? λe=>(strKind prog w).is n e.key with
 |some i=>
  refine ⟨⟨oc,od,.dict (es.modify i λe=>{ e with val:=v }) ep,osl⟩,_,ep,Heap.get?_update_self _ ho ?_ |>.trans ?_,hc,rfl,hk.modify _ _,?_,?_⟩
  ·refine rE Obj.putName_eq ?_;simp only[Obj.putNameByArray,fi,hi];rfl
  ·refine rE Obj.putName_eq ?_;simp only[Obj.putNameByArray,fi,hi]
  ·rw[PySem.stored,if_pos (any_of_findIdx_some (hidx▸hi))]
   have hl:(es.toList.findIdx? λe=>(strKind prog w).is n e.key)=some i:=by refine rL hi ?_;obtain ⟨l⟩:=es;simp
   have:=hp.modify hn hl v
   obtain ⟨l⟩:=es
   simpa using this
  ·rw[PySem.stored,if_pos (any_of_findIdx_some (hidx▸hi)),keys_map_store];exact hn
 |none=>
  have hnot:n∉kvs.map (·.1):=not_mem_of_findIdx_none (hidx▸hi)
  have hany:¬(kvs.any λkv=>decide (kv.1=n))=true:=by
   rw[List.any_eq_true];(rintro zz;refine xEA zz λkv hkv he=>?_)
   exact hnot (List.mem_map.mpr ⟨kv,hkv,of_decide_eq_true he⟩)
  refine ⟨⟨oc,od,.dict (es.push ⟨_,.str n t,v⟩) (ep + 1),osl⟩,_,ep + 1,Heap.get?_update_self _ ho ?_ |>.trans ?_,hc,rfl,hk.push hkey _,?_,?_⟩
  ·refine rE Obj.putName_eq ?_;simp only[Obj.putNameByArray,fi,hi];rfl
  ·refine rE Obj.putName_eq ?_;simp only[Obj.putNameByArray,fi,hi,hh]
  ·rw[PySem.stored,if_neg hany]
   have:=hp.append hkey ((strKind prog w).hash n) v
   obtain ⟨l⟩:=es
   simpa using this
  ·rw[PySem.stored,if_neg hany,List.map_append,List.nodup_append]
   refine iAA hn (by simp) ?_
   intro a ha b hb
   simp only[List.map_cons,List.map_nil,List.mem_singleton] at hb
   subst hb
   exact λe=>hnot (e▸ha)
theorem set_attr (Gd:Gd prog w K B) (H:At prog w B F ρ σ s) {n:Str} {a C d:Addr} {fs} {x:AV} {v:Value} {E:Value→Shared→Prop} {Q:Unit→Shared→Prop} (e:σ a=some (.inst C d fs)) (ok:fieldOk C n=true) (hx:x.Is v) (hz:fs.length≤900)
 (h:∀s',At prog w B F ρ (up σ a (.inst C d (kput fs n x))) s'→Q () s'):wpAny (model prog w) A (setAttr (.ref a) n v) Q E s:=by
 (refine xAAAAA (fld_in Gd ok) λh1 h2 h3 h4=>?_;rintro - h7)
 have R:=H.fs.ws.rep
 refine xEA (inst_at R e) λod I hod=>?_
 refine xAEA (R.obj a _ e) λe1 kvs D kv=>?_
 have X:=X_in Gd H
 have hl:=lookIn_dictOf D hod n
 have nm:Mut σ d:=.inr ⟨a,C,fs,e⟩
 have had:a≠d:=λz=>by have:=R.off a C d fs e;rw[←z,e] at this;exact nS this
 refine set_plain X I h4 (osa_open (s:={ s with toks:=s.toks + 1 }) X I h3 h7 λb=>?_)
 refine xEA (any_some h2) λcd hc hd'=>?_
 have key:∀t:Tok,(s.heap.update d (Obj.putName n (PyData.keyHash w.params n) (.str n t) v)).DictOf (strKind prog w) d (PySem.stored kvs n v):=λt=>dictOf_putName D
 have sb:∀t:Tok,Heap.SameBut d s.heap (s.heap.update d (Obj.putName n (PyData.keyHash w.params n) (.str n t) v)):=λt=>Heap.SameBut.update ..
 have fin:∀t t':Tok,Q () { s with heap:=s.heap.update d (Obj.putName n (PyData.keyHash w.params n) (.str n t) v),toks:=t' }:=λt t'=>by
  have kp:∀b o,b≠d→s.heap.get? b=some o→(s.heap.update d (Obj.putName n (PyData.keyHash w.params n) (.str n t) v)).get? b=some o:=λb o q z=>((sb t).2 b q).trans z
  have kB:B.StaysIn (s.heap.update d (Obj.putName n (PyData.keyHash w.params n) (.str n t) v)):=λb o z=>kp b o (λq=>by rw[q,(R.new d nm).1] at z;exact nn z) (H.fs.ws.stays b o z)
  exact h _ (H.step (.heap (λb o z m _=>kp b o (λq=>m (q▸nm)) z) (λb m=>.inl (mut_setInst e m)) (th_but (sb t) (key t).mapOf.choose_spec.choose_spec.choose_spec.1)) kB (R.setInst e (key t) (kv.put n hx) kp))
 refine wpAny_bind (wpAny_pure (wpAny_bind (wpAny_bind (wpAny_loadPart e1 (wpAny_bind (Looks.here (s:={ s with toks:=s.toks + 1 }) (looks_clsIn X hc) ?_))))))
 refine rE hd' ?_
 refine wpAny_pure (a:=some d) (wpAny_bind (wpAny_pure (wpAny_bind ?_)))
 unfold nsSet
 refine wpAny_bind (wpAny_bind (wpAny_askSetting (wpAny_pure (wpAny_bind (wpAny_mkText (wpAny_bind (wpAny_loadPart hod ?_)))))))
 refine xEEEAAAAA D λo es ep ho hcx hdd hk hp hn=>?_
 rw[hod] at ho;(have ho:=sJ ho;subst ho)
 refine rE hdd ?_
 dsimp only
 have c:(!es.any (·.key.isStr n) && es.any (·.refKey))=false:=by rw[←Array.any_toList (p:=DictEntry.refKey),keysOf_noRef hk,Bool.and_false]
 rw[aRefKeyMayBeTheName_at,c]
 refine wpAny_updatePart hod ?_
 refine xEEEAAAAA (key (s.toks + 1)) λo' es' ep' ho' hcx' hdd' hk' hp' hn'=>?_
 refine wpAny_bind (wpAny_lookBehind ho' (by
  refine rE hdd' ?_
  refine pastItsLine_dict ?_
  have q:=hp'.length
  have q2:(PySem.stored kvs n v).length≤kvs.length + 1:=by unfold PySem.stored;split<;>simp
  have q3:=kv.length
  rw[Array.length_toList] at q
  refine rE sizeLine_eq ?_;lia) ?_)
 exact wpAny_pure (fin _ _)
theorem Loc.get_set_ne:∀{ρ:Loc} {x y:Str} {a:AV},y≠x→(ρ.set x a).get y=ρ.get y:=by
 intro ρ
 induction ρ with
 |nil=>
  intro _ _ _ _
  exact rfl
 |cons p0 r ih=>
  obtain ⟨z,o⟩:=p0
  intro x y a h
  rw[Loc.set_c]
  induction q:x == z with
  |true=>
   have e:=eq_of_beq q
   simp only[cond_true,Loc.get,List.lookup_cons]
   have:(y == z)=false:=by rw[beq_eq_false_iff_ne];exact λw=>h (w.trans e.symm)
   exact rE this rfl
  |false=>
   simp only[cond_false,Loc.get,List.lookup_cons]
   induction y == z with
   |true=>rfl
   |false=>exact ih h
theorem Loc.get_set:∀{ρ:Loc} {x:Str} {a:AV},(ρ.lookup x).isSome=true→(ρ.set x a).get x=some a:=by
 intro ρ
 induction ρ with
 |nil=>
  intro _ _ h
  simp at h
 |cons p0 r ih=>
  obtain ⟨z,o⟩:=p0
  intro x a h
  rw[Loc.set_c]
  induction q:x == z with
  |true=>simp[Loc.get,List.lookup_cons,q]
  |false=>
   simp only[cond_false,Loc.get,List.lookup_cons,q]
   rw[List.lookup_cons,q] at h
   exact ih h
theorem funFrames_of {B h h':Heap}:∀{l:List Env},h.FunFrames B l→(∀b o,b∈frs l→h.get? b=some o→(∀vs,o.data≠.fields vs)→∃o',h'.get? b=some o'∧∀vs,o'.data≠.fields vs)→h'.FunFrames B l:=by
 intro l
 induction l with
 |nil=>intro _ _;trivial
 |cons env r ih=>
  (rintro zz;refine xAA zz λhk=>?_;rintro ⟨L,o,hf,hn,ho,hd⟩ hr k)
  refine xEA (k L o (by simp[frs,hf]) ho hd) λo' e' d'=>?_
  refine ⟨hk,⟨L,o',hf,hn,e',d'⟩,ih hr λb o hb=>k b o ?_⟩
  simp only[frs,List.filterMap_cons,hf];exact List.mem_cons_of_mem _ hb
theorem At.turn {ρ':Loc} {s':Shared} {c:Addr} {oc oc':Obj} (fit:Fit prog w B Γ A F) (H:At prog w B F ρ σ s) (ho:s.heap.get? c=some oc) (hd:∀vs,oc.data≠.fields vs) (ho':s'.heap.get? c=some oc') (hd':∀vs,oc'.data≠.fields vs)
 (hs:Heap.SameBut c s.heap s'.heap) (hB:B.get? c=none) (hm:¬Mut σ c) (hown:F.own c) (hl:LocOk F.env ρ' s'.heap) (same:s'.gens=s.gens∧s'.drawn=s.drawn∧s'.os=s.os):At prog w B F ρ' σ s':=by
 have kp:∀b o,b≠c→s.heap.get? b=some o→s'.heap.get? b=some o:=λb o q e=>(hs.2 b q).trans e
 refine ⟨⟨⟨λb o e=>kp b o (λq=>by rw[q,hB] at e;exact nn e) (H.fs.ws.stays b o e),funFrames_of H.fs.ws.frames λb o hb e d=>?_,H.fs.ws.rep.keeps λb o e z=>kp b o (λq=>?_) e,H.fs.ws.sep,H.fs.ws.big⟩,hl,H.fs.sepL⟩,H.ev.trans ⟨λb o e m n=>?_,λb m=>.inl m,th_but hs ho',same⟩⟩
 ·by_cases q:b=c
  ·subst q;exact iEA _ ho' hd'
  ·exact iEA o (kp b o q e) d
 ·subst q
  rcases z with z|⟨vs,q,t,z,_⟩
  ·exact hm z
  ·rw[ho] at e;(have e:=sJ e;subst e);exact hd vs z
 ·exact iEA o (kp b o (λq=>n (q▸hown)) e) (.inl rfl)
theorem st_var (fit:Fit prog w B Γ A F) (H:At prog w B F ρ σ s) {x:Str} {a:AV} {v:Value} {E:Value→Shared→Prop} {Q:Unit→Shared→Prop} (ok:stored1 Γ ρ x=true) (ha:a.Is v)
 (h:∀s',At prog w B F (ρ.set x a) σ s'→Q () s'):wpAny (model prog w) A (storeName F.env x v) Q E s:=by
 unfold stored1 at ok
 simp only[Bool.and_eq_true,Bool.or_eq_true,beq_iff_eq] at ok
 obtain ⟨⟨hk,hin⟩,hok⟩:=ok
 refine xEA H.fs.loc.ns λm hn k=>?_
 have hn0:=hn
 refine xEEEAAA hn0 λoL es ep hoL hdL hkL hfL=>?_
 rcases hk with hk|hk
 ·have hk':=fit.loc x hk
  refine wpAny_storeName_local hk' hn (λh' hn' hs'=>h _ ?_) (by refine rE fit.kind ?_;rfl)
  have hn1:=hn'
  (refine xEEEAA hn1 λoL' es' ep' hoL' hdL'=>?_;rintro -)
  refine H.turn fit hoL (λvs q=>by rw[hdL] at q;exact nC Data.ctorIdx q rfl) hoL' (λvs q=>by rw[hdL'] at q;exact nC Data.ctorIdx q rfl) hs' fit.newL H.fs.sepL fit.mineL ⟨⟨_,hn',λy b ky ey=>?_⟩,λy c e=>?_,H.fs.loc.has,H.fs.loc.apart⟩ ⟨rfl,rfl,rfl⟩
  ·by_cases q:y=x
   ·subst q;rw[Loc.get_set hin] at ey;(have ey:=sJ ey;subst ey);exact iEA v (if_pos rfl) ha
   ·rw[Loc.get_set_ne q] at ey;refine rE (if_neg q) ?_;exact k y b ky ey
  ·refine xEA (H.fs.loc.cell y c e) λu hc kc=>?_
   have hcL:c≠F.env.locals:=λq=>by
    refine xEA hc λoc hoc hdc=>?_
    rw[q,hoL] at hoc;(have hoc:=sJ hoc;subst hoc);rw[hdL] at hdc;exact nC Data.ctorIdx hdc rfl
   refine iEA u (hc.sameBut hs' hcL) (λb hb eb=>kc b hb ?_)
   have:y≠x:=λq=>by subst q;rw[hk'] at hb;rcases hb with hb|hb<;>exact nC NameKind.ctorIdx (sJ hb) rfl
   rwa [Loc.get_set_ne this] at eb
 ·have hk':=fit.cel x hk
  obtain ⟨c,ec⟩:=Option.isSome_iff_exists.mp (H.fs.loc.has x (.inl hk'))
  refine xEA (H.fs.loc.cell x c ec) λu hc kc=>?_
  have hc0:=hc
  refine xEA hc0 λoc hoc hdc=>?_
  refine wpAny_storeName_cell fit.kind hk' ec hc λh' hc' hs'=>h _ ?_
  have hc1:=hc'
  refine xEA hc1 λoc' hoc' hdc'=>?_
  have hLc:F.env.locals≠c:=λq=>by rw[←q,hoL] at hoc;(have hoc:=sJ hoc;subst hoc);rw[hdL] at hdc;exact nC Data.ctorIdx hdc rfl
  refine H.turn fit hoc (λvs q=>by rw[hdc] at q;exact nC Data.ctorIdx q rfl) hoc' (λvs q=>by rw[hdc'] at q;exact nC Data.ctorIdx q rfl) hs' (fit.newC x c ec) (cell_not_mut H.fs.ws.rep hc) (fit.mineC x c hk ec) ⟨⟨m,hn.sameBut hs' hLc,λy b ky ey=>?_⟩,λy c' e=>?_,H.fs.loc.has,H.fs.loc.apart⟩ ⟨rfl,rfl,rfl⟩
  ·have:y≠x:=λq=>by subst q;rw[hk'] at ky;exact nC NameKind.ctorIdx (sJ ky) rfl
   rw[Loc.get_set_ne this] at ey;exact k y b ky ey
  ·by_cases q:y=x
   ·subst q
    rw[ec] at e;(have e:=sJ e;subst e)
    refine iEA _ hc' (λb _ eb=>?_)
    rw[Loc.get_set hin] at eb;(have eb:=sJ eb;subst eb);exact iEA v rfl ha
   ·refine xEA (H.fs.loc.cell y c' e) λu' hcy kcy=>?_
    refine iEA u' (hcy.sameBut hs' λz=>q (name_of_addr H.fs.loc.apart (PySem.mem_of_lookup e) (z▸PySem.mem_of_lookup ec))) (λb hb eb=>kcy b hb ?_)
    rwa [Loc.get_set_ne q] at eb
set_option backward.match.sparseCases false in
noncomputable def absV:Value→AV
 |.none=>.none
 |.bool b=>.bool b
 |.int i _=>.int i
 |.str x _=>.str x
 |.ref a=>.ref a
 |_=>.none
theorem abs_of {a:AV} {v:Value} (h:a.Is v):absV v=a:=by
 induction a with
 |none=>subst h;rfl
 |bool b=>subst h;rfl
 |int i=>obtain ⟨t,rfl⟩:=h;rfl
 |str x=>obtain ⟨t,rfl⟩:=h;rfl
 |ref a=>subst h;rfl
theorem dec_str (x y:Str):decide (x=y)=(x == y):=by by_cases h:x=y<;>simp[h]
theorem dec_int (x y:Int):decide (x=y)=(x == y):=by by_cases h:x=y<;>simp[h]
theorem feq_at {a b:AV} {u v:Value} {r:Bool} (e:AV.feq a b=some r) (ha:a.Is u) (hb:b.Is v):SeqAt.EqAt A s u v r∧SeqAt.RcAt A s u v r∧SeqAt.RcNeAt A s u v (!r):=by
 induction a with
 |none=>
  subst ha
  induction b with
  |none=>(have e:=sJ e;subst e);subst hb;exact iAA (.same _) .none_none .none_none
  |int j=>(have e:=sJ e;subst e);obtain ⟨t',rfl⟩:=hb;exact iAA (.none_int _ _) (.none_int _ _) (.none_int _ _)
  |str y=>(have e:=sJ e;subst e);obtain ⟨t',rfl⟩:=hb;exact iAA (.none_str _ _) (.none_str _ _) (.none_str _ _)
  |_=>exact nn e
 |bool x=>
  subst ha
  induction b with
  |bool y=>(have e:=sJ e;subst e);subst hb;exact iAA (.bool_bool _ _) (.bool_bool _ _) (.bool_bool _ _)
  |_=>exact nn e
 |int i=>
  obtain ⟨t,rfl⟩:=ha
  induction b with
  |none=>(have e:=sJ e;subst e);subst hb;exact iAA (.int_none _ _) (.int_none _ _) (.int_none _ _)
  |int j=>(have e:=sJ e;subst e);obtain ⟨t',rfl⟩:=hb;refine rE (dec_int _ _) ?_;exact iAA (.int_int _ _ _ _) (.int_int _ _ _ _) (.int_int _ _ _ _)
  |_=>exact nn e
 |str x=>
  obtain ⟨t,rfl⟩:=ha
  induction b with
  |none=>(have e:=sJ e;subst e);subst hb;exact iAA (.str_none _ _) (.str_none _ _) (.str_none _ _)
  |str y=>(have e:=sJ e;subst e);obtain ⟨t',rfl⟩:=hb;refine rE (dec_str _ _) ?_;exact iAA (.str_str _ _ _ _) (.str_str _ _ _ _) (.str_str _ _ _ _)
  |_=>exact nn e
 |ref _=>exact nn e
theorem units_lt (r:Room A Γ.d):A.units < cLine:=by
 have:=r.2
 show A.units < 9900
 lia
theorem ORep.opened {h:Heap} {a:Addr} {o:AO} (r:ORep prog w h a o):ORep prog w h a o.opened:=by
 induction o with
 |lock ep kvs=>refine xEA r λkv x y=>?_;exact ⟨kv,x.dictOf,y⟩
 |fix xs vs n=>exact ⟨vs,n,r.1,r.2⟩
 |_=>exact r
set_option tactic.hygienic true in
theorem rd_rep (Gd:Gd prog w K B) {h:Heap} (R:Rep prog w B σ h) (hB:B.StaysIn h) {a:Addr} {o:AO} (e:rd σ a=some o):ORep prog w h a o:=by
 unfold rd at e
 split at e
 ·rename_i o' e';(have e:=sJ e;subst e);exact (R.obj a _ e').opened
 ·exact (Gd.so a o e).keeps λb ob q _=>hB b ob q
theorem at_rd (Gd:Gd prog w K B) (H:At prog w B F ρ σ s) {a:Addr} {o:AO} (e:rd σ a=some o):ORep prog w s.heap a o:=rd_rep Gd H.fs.ws.rep H.fs.ws.stays e
theorem tup_at (Gd:Gd prog w K B) (H:At prog w B F ρ σ s) {a:Addr} {xs:List AV} (e:rd σ a=some (.tup xs)):∃vs,s.heap.IsTuple a vs.toArray∧AllIs xs vs:=by
 refine xEA (at_rd Gd H e) λvs e h=>?_
 exact iEA vs ⟨_,e,rfl,_,rfl⟩ h
theorem list_at (Gd:Gd prog w K B) (H:At prog w B F ρ σ s) {a:Addr} {xs:List AV} (e:rd σ a=some (.list xs)):∃vs,s.heap.IsList a vs.toArray∧AllIs xs vs:=by
 refine xEEA (at_rd Gd H e) λvs n e h=>?_
 exact iEA vs ⟨_,e,rfl,n,rfl⟩ h
noncomputable def eqj (as bs:List AV) (j:Nat):Bool:=((as[j]?).bind λa=>(bs[j]?).bind λb=>AV.feq a b).getD false
theorem feqs_all {as:List AV}:∀{bs:List AV} {r:Bool},feqs as bs=some r→(∀(j:Nat) (a b:AV),as[j]?=some a→bs[j]?=some b→∃x,AV.feq a b=some x)∧r=((List.range (min as.length bs.length)).all (eqj as bs) && as.length == bs.length):=by
 induction as with
 |nil=>
  intro bs r e
  induction bs using List.casesOn with
  |nil=>(have e:=sJ e;subst e);exact ⟨λj a b h=>nn h,rfl⟩
  |cons=>(have e:=sJ e;subst e);exact ⟨λj a b h=>nn h,rfl⟩
 |cons a as ih=>
  intro bs r e
  induction bs using List.casesOn with
  |nil=>(have e:=sJ e;subst e);exact ⟨λj a b _ h=>nn h,rfl⟩
  |cons b bs=>
   (refine xEEAA (andO_e e) λx y e1 e2=>?_;rintro rfl)
   obtain ⟨k1,rfl⟩:=ih e2
   refine ⟨λj a' b' h1 h2=>?_,?_⟩
   ·induction j using Nat.casesOn with
    |zero=>(have h1:=sJ h1;subst h1);(have h2:=sJ h2;subst h2);exact ⟨_,e1⟩
    |succ j=>exact k1 j a' b' h1 h2
   ·rw[List.length_cons,List.length_cons,Nat.add_min_add_right,List.range_succ_eq_map,List.all_cons,List.all_map]
    show _=(((AV.feq a b).getD false && (List.range (min as.length bs.length)).all (eqj as bs)) && _)
    rw[e1,Bool.and_assoc,show (as.length + 1 == bs.length + 1)=(as.length == bs.length) by simp]
    rfl
theorem aeq_tups (Gd:Gd prog w K B) (H:At prog w B F ρ σ s) (hu:A.units < cLine) {a b:Addr} {xs ys:List AV} {k:Bool} (e1:rd σ a=some (.tup xs)) (e2:rd σ b=some (.tup ys)) (e:feqs xs ys=some k):SeqAt.RcAt A s (.ref a) (.ref b) k∧SeqAt.RcNeAt A s (.ref a) (.ref b) (!k):=by
 refine xEA (tup_at Gd H e1) λvs t1 i1=>?_
 refine xEA (tup_at Gd H e2) λws t2 i2=>?_
 obtain ⟨k1,rfl⟩:=feqs_all e
 have he:∀j (h1:j < vs.toArray.size) (h2:j < ws.toArray.size),SeqAt.EqAt A.in1 s vs.toArray[j] ws.toArray[j] (eqj xs ys j):=λj h1 h2=>by
  refine xEA (i1.getV (i:=j) (v:=vs[j]) (List.getElem?_eq_getElem h1)) λa' q1 q2=>?_
  refine xEA (i2.getV (i:=j) (v:=ws[j]) (List.getElem?_eq_getElem h2)) λb' q3 q4=>?_
  obtain ⟨x,q5⟩:=k1 j a' b' q1 q3
  refine rE (show eqj xs ys j=x by unfold eqj;rw[q1,q3];show (AV.feq a' b').getD false=x;rw[q5];rfl) ?_
  exact (feq_at (A:=A.in1) (s:=s) q5 q2 q4).1
 have z:=SeqAt.RcAt.tuples t1 t2 hu he
 have z':=SeqAt.RcNeAt.tuples t1 t2 hu he
 rw[List.size_toArray,List.size_toArray,←i1.length,←i2.length] at z z'
 exact ⟨z,z'⟩
theorem map_e {o:Option (List AV)} {k:Bool} (h:(o.map λ_=>false)=some k):∃xs,o=some xs∧k=false:=by
 induction o with
 |none=>exact nn h
 |some xs=>exact iEA xs rfl ((Option.some.inj h).symm)
theorem aeq_at (Gd:Gd prog w K B) (H:At prog w B F ρ σ s) (r:Room A Γ.d) {a b:AV} {u v:Value} {k:Bool} (e:aeq σ a b=some k) (ha:a.Is u) (hb:b.Is v):SeqAt.RcAt A s u v k∧SeqAt.RcNeAt A s u v (!k):=by
 have hu:=units_lt r
 induction a with
 |ref a=>
  subst ha
  induction b with
  |ref b=>
   subst hb
   refine xEA (Option.bind_eq_some_iff.mp e) λxs e1 e=>?_
   refine xEA (Option.bind_eq_some_iff.mp e) λys e2 e=>?_
   exact aeq_tups Gd H hu (tupOf_e e1) (tupOf_e e2) e
  |none=>
   subst hb
   (refine xEA (map_e e) λxs e1=>?_;rintro rfl)
   refine xEA (tup_at Gd H (tupOf_e e1)) λvs t1 i1=>?_
   exact ⟨.tuple_none t1 hu,.tuple_none t1 hu⟩
  |_=>exact nn e
 |none=>
  induction b with
  |ref b=>
   subst ha;subst hb
   (refine xEA (map_e e) λxs e1=>?_;rintro rfl)
   refine xEA (tup_at Gd H (tupOf_e e1)) λvs t1 i1=>?_
   exact ⟨.none_tuple t1 hu,.none_tuple t1 hu⟩
  |_=>exact (feq_at (by exact e) ha hb).2
 |_=>exact (feq_at (by exact e) ha hb).2
theorem fmem_all {x:AV} {ys:List AV}:∀{r:Bool},fmem x ys=some r→(∀y∈ys,∃k,AV.feq y x=some k)∧r=ys.any λy=>(AV.feq y x).getD false:=by
 induction ys with
 |nil=>intro r e;(have e:=sJ e;subst e);exact ⟨λy h=>(nomatch h),rfl⟩
 |cons y ys ih=>
  intro r e
  (refine xEEAA (fmem_e e) λa b e1 e2=>?_;rintro rfl)
  obtain ⟨k1,rfl⟩:=ih e2
  refine ⟨λz hz=>?_,by (refine rE List.any_cons ?_;refine rE e1 ?_);rfl⟩
  rcases List.mem_cons.mp hz with rfl|hz
  ·exact ⟨_,e1⟩
  ·exact k1 z hz
theorem allIs_mem {as:List AV} {vs:List Value} (h:AllIs as vs):∀v∈vs,∃a∈as,a.Is v:=by
 induction h with
 |nil=>intro v hv;cases hv
 |cons h1 _ ih=>
  intro v hv
  rcases List.mem_cons.mp hv with rfl|hv
  ·exact iEA _ (.head _) h1
  ·refine xEA (ih v hv) λa q1 q2=>?_;exact iEA a (.tail _ q1) q2
theorem allIs_any {as:List AV} {vs:List Value} (h:AllIs as vs) (f:AV→Bool):as.any f=vs.any λv=>f (absV v):=by
 induction h with
 |nil=>rfl
 |cons h1 _ ih=>simp[ih,abs_of h1]
set_option tactic.hygienic true in
theorem not_sys (H:At prog w B F ρ σ s) {a:Addr} {o:AO} (e:rd σ a=some o):(a == sysModules)=false:=by
 rw[beq_eq_false_iff_ne]
 rintro rfl
 unfold rd at e
 split at e
 ·rename_i o' e'
  exact absurd (H.fs.ws.rep.new _ (.inl ⟨_,e'⟩)).2 (dE rfl)
 ·exact nn e
theorem mem_any {a:AV} {u:Value} {xs:List AV} {vs:List Value} {k:Bool} (ha:a.Is u) (i1:AllIs xs vs) (e:fmem a xs=some k):(∀y,y∈vs.toArray→SeqAt.EqAt A.in1 s y u ((AV.feq (absV y) a).getD false))∧(vs.toArray.any λy=>(AV.feq (absV y) a).getD false)=k:=by
 obtain ⟨k1,rfl⟩:=fmem_all e
 refine ⟨λy hy=>?_,by (refine rE List.any_toArray ?_;exact rE (allIs_any i1 λy=>(AV.feq y a).getD false) rfl)⟩
 refine xEA (allIs_mem i1 y (List.mem_toArray.mp hy)) λb q1 q2=>?_
 obtain ⟨k,q3⟩:=k1 b q1
 (refine rE (abs_of q2) ?_;refine rE q3 ?_)
 exact (feq_at q3 q2 ha).1
theorem amem_at (Gd:Gd prog w K B) (H:At prog w B F ρ σ s) {a b:AV} {u v:Value} {k:Bool} {E:Value→Shared→Prop} (e:amem σ a b=some k) (ha:a.Is u) (hb:b.Is v) :
 (∀Q:Value→Shared→Prop,(∀t,Q (.bool k) { s with toks:=t })→wpAny (model prog w) A (compareOp .In u v) Q E s)∧(∀Q:Value→Shared→Prop,(∀t,Q (.bool (!k)) { s with toks:=t })→wpAny (model prog w) A (compareOp .NotIn u v) Q E s):=by
 induction b with
 |ref b=>
  subst hb
  have e:amemR a (rd σ b)=some k:=e
  induction er:rd σ b with
  |none=>rw[er] at e;exact nn e
  |some o=>
   rw[er] at e
   induction o with
   |list xs=>
    refine xEA (list_at Gd H er) λvs t1 i1=>?_
    have z:=mem_any (A:=A) (s:=s) ha i1 e
    exact ⟨λQ h=>SeqAt.in_listAt _ t1 z.1 (by refine rE z.2 ?_;exact h s.toks),λQ h=>SeqAt.notIn_listAt _ t1 z.1 (by refine rE z.2 ?_;exact h s.toks)⟩
   |tup xs=>
    refine xEA (tup_at Gd H er) λvs t1 i1=>?_
    have z:=mem_any (A:=A) (s:=s) ha i1 e
    exact ⟨λQ h=>SeqAt.in_tupleAt _ t1 z.1 (by refine rE z.2 ?_;exact h s.toks),λQ h=>SeqAt.notIn_tupleAt _ t1 z.1 (by refine rE z.2 ?_;exact h s.toks)⟩
   |sdict kvs=>
    induction a with
    |str y=>
     (have e:=sJ e;subst e)
     refine xEA (at_rd Gd H er) λkv D ki=>?_
     obtain ⟨t,rfl⟩:=ha
     have hx:=not_sys H er
     have hk:(strKind prog w).is y (.str y t)=true:=beq_self_eq_true y
     have q:(valueAt kv y).isSome=(kget kvs y).isSome:=by rcases ki.find y with ⟨q1,q2⟩|⟨_,_,q1,q2,_⟩<;>((refine rE q1 ?_;refine rE q2 ?_);rfl)
     exact ⟨λQ h=>wpAny_in_of hk hx D.mapOf (by refine rE q ?_;exact h _),λQ h=>wpAny_notIn_of hk hx D.mapOf (by refine rE q ?_;exact h _)⟩
    |_=>exact nn e
   |_=>exact nn e
 |_=>exact nn e
end
section
variable {prog:Program} {w:World} {B:Heap} {K:Frag} {Γ:Cx} {A:Around} {F:FQ} {ρ:Loc} {σ:AH} {s:Shared} {E:Value→Shared→Prop}
theorem isNone_at {a:AV} {v:Value} (h:a.Is v):(v == Value.none)=a.isNone:=by
 induction a with
 |none=>subst h;rfl
 |bool b=>subst h;rfl
 |int i=>obtain ⟨t,rfl⟩:=h;rfl
 |str x=>obtain ⟨t,rfl⟩:=h;rfl
 |ref a=>subst h;rfl
theorem one_one {ops:List CmpOp} {rs:List Expr} {P:CmpOp→Expr→Prop} (h:match ops,rs with|[op],[r]=>P op r|_,_=>False):∃op r,ops=[op]∧rs=[r]:=by
 rcases ops with _|⟨op,_|⟨o,os⟩⟩
 ·exact False.elim h
 ·rcases rs with _|⟨r,_|⟨r',rs⟩⟩
  ·exact False.elim h
  ·exact iEEA op r rfl rfl
  ·exact False.elim h
 ·exact False.elim h
theorem cmp_at (Gd:Gd prog w K B) (H:At prog w B F ρ σ s) (r:Room A Γ.d) {op:CmpOp} {a b:AV} {u v:Value} {Q:Post} (h:cmpA op a b σ Q) (ha:a.Is u) (hb:b.Is v):wpAny (model prog w) A (compareOp op u v) (REx prog w B F ρ Q) E s:=by
 induction op with
 |Is=>
  induction b with
  |none=>subst hb;exact PySem.is_none ⟨.bool a.isNone,σ,by refine rE (isNone_at ha) ?_;rfl,H,h⟩
  |_=>exact False.elim h
 |IsNot=>
  induction b with
  |none=>subst hb;exact PySem.isNot_none ⟨.bool (!a.isNone),σ,by refine rE (isNone_at ha) ?_;rfl,H,h⟩
  |_=>exact False.elim h
 |Eq=>
  obtain ⟨k,e,h⟩:=h
  exact (aeq_at Gd H r e ha hb).1 prog w E _ ⟨.bool k,σ,rfl,H,h⟩
 |NotEq=>
  obtain ⟨k,e,h⟩:=h
  exact (aeq_at Gd H r e ha hb).2 prog w E _ ⟨.bool (!k),σ,rfl,H,h⟩
 |Lt=>
  refine onInt_e h ha λi t h=>onInt_e h hb λj t' h=>?_
  exact PyProof.Rows.lt_int ⟨.bool _,σ,rfl,H,h⟩
 |Gt=>
  refine onInt_e h ha λi t h=>onInt_e h hb λj t' h=>?_
  exact PyProof.Rows.gt_int ⟨.bool _,σ,rfl,H,h⟩
 |In=>
  obtain ⟨k,e,h⟩:=h
  exact (amem_at Gd H e ha hb).1 _ λt=>⟨.bool k,σ,rfl,H.tok t,h⟩
 |NotIn=>
  obtain ⟨k,e,h⟩:=h
  exact (amem_at Gd H e ha hb).2 _ λt=>⟨.bool (!k),σ,rfl,H.tok t,h⟩
 |_=>exact False.elim h
theorem truth_at (H:At prog w B F ρ σ s) {a:AV} {v:Value} {Q:Bool→AH→Prop} (h:truthA a σ Q) (ha:a.Is v):wpAny (model prog w) A (truthy v) (RTx prog w B F ρ Q) E s:=by
 refine truthA_e h ha λb h=>?_
 exact wpAny_truthy_bool ⟨σ,H,h⟩
theorem e_compare (Gd:Gd prog w K B) {R:Ops} (snd:Snd prog w B R) {l:Expr} {ops rs pos} {Q:Post} (h:stepE R Γ (.Compare l ops rs pos) ρ σ Q) (fit:Fit prog w B Γ A F) (H:At prog w B F ρ σ s) :
 wpAny (model prog w) A (eval (.Compare l ops rs pos) F.env) (REx prog w B F ρ Q) (Err prog w B F Γ.X) s:=by
 (refine xEEA (one_one (P:=λop r=>chk (!behindInMarks op r) (R.E Γ l ρ σ (qCmp R op r Γ ρ Q))) h) λop r=>?_;rintro rfl rfl)
 obtain ⟨ok,h⟩:=chk_iff h
 rw[Bool.not_eq_true'] at ok
 refine wpAny_Compare1 (snd.E h fit H λa u σ₁ s₁ ha H₁ h₁=>?_) ok
 refine snd.E h₁ fit H₁ λb v σ₂ s₂ hb H₂ h₂=>?_
 exact cmp_at Gd H₂ fit.room h₂ ha hb
theorem t_compare (Gd:Gd prog w K B) {R:Ops} (snd:Snd prog w B R) {l:Expr} {ops rs pos} {Q:Bool→AH→Prop} (h:stepT R Γ (.Compare l ops rs pos) ρ σ Q) (fit:Fit prog w B Γ A F) (H:At prog w B F ρ σ s) {whole} :
 wpAny (model prog w) A (isTrue (.Compare l ops rs pos) F.env whole) (RTx prog w B F ρ Q) (Err prog w B F Γ.X) s:=by
 (refine xEEA (one_one (P:=λop r=>chk (!behindInMarks op r) (R.E Γ l ρ σ (qCmp R op r Γ ρ (qTr Q)))) h) λop r=>?_;rintro rfl rfl)
 obtain ⟨ok,h⟩:=chk_iff h
 rw[Bool.not_eq_true'] at ok
 refine wpAny_isTrue_Compare1 (snd.E h fit H λa u σ₁ s₁ ha H₁ h₁=>?_) ok
 refine snd.E h₁ fit H₁ λb v σ₂ s₂ hb H₂ h₂=>?_
 refine wpAny_mono (cmp_at Gd H₂ fit.room h₂ ha hb) (λc s₃ h₃=>?_) λ_ _ z=>z
 obtain ⟨c',σ₃,hc,H₃,h₃⟩:=h₃
 exact truth_at H₃ h₃ hc
theorem t_value {R:Ops} (snd:Snd prog w B R) {e:Expr} {Q:Bool→AH→Prop} (h:R.E Γ e ρ σ (qTr Q)) (fit:Fit prog w B Γ A F) (H:At prog w B F ρ σ s)
 (he:isTrue e F.env (eval e F.env)=(do let v ←eval e F.env;standAt e.pos;holding [v] (truthy v))) :
 wpAny (model prog w) A (isTrue e F.env (eval e F.env)) (RTx prog w B F ρ Q) (Err prog w B F Γ.X) s:=by
 refine wpAny_isTrue_value (snd.E h fit H λa u σ₁ s₁ ha H₁ h₁=>?_) he
 exact truth_at H₁ h₁ ha
theorem t_all {R:Ops} (snd:Snd prog w B R) {op:BoolOp} (fit:Fit prog w B Γ A F) {Q:Bool→AH→Prop}:∀{es:List Expr} {σ:AH} {s:Shared},allA R Γ ρ op es σ Q→At prog w B F ρ σ s→
 wpAny (model prog w) A (allTrue op es F.env) (RTx prog w B F ρ Q) (Err prog w B F Γ.X) s:=by
 intro es
 induction es with
 |nil=>
  intro σ s h H
  exact wpAny_pure ⟨σ,H,h⟩
 |cons x rest ih=>
  intro σ s h H
  rw[arm_allTrue_cons]
  refine wpAny_bind (snd.T h fit H λb σ₁ s₁ H₁ h₁=>?_)
  induction op<;>induction b<;>first|exact wpAny_pure ⟨σ₁,H₁,h₁⟩|exact ih h₁ H₁
theorem s_test {R:Ops} (Gd:Gd prog w K B) (snd:Snd prog w B R) {e:Expr} {Q:Bool→AH→Prop} (h:stepT R Γ e ρ σ Q) (fit:Fit prog w B Γ A F) (H:At prog w B F ρ σ s) :
 wpAny (model prog w) A (isTrue e F.env (eval e F.env)) (RTx prog w B F ρ Q) (Err prog w B F Γ.X) s:=by
 induction e using Expr.casesOn with
 |UnaryOp op x p=>
  induction op with
  |Not=>
   exact wpAny_isTrue_Not (snd.T h fit H λb σ₁ s₁ H₁ h₁=>⟨σ₁,H₁,h₁⟩)
  |_=>exact h.elim
 |BoolOp op vs p=>exact wpAny_isTrue_BoolOp (t_all snd fit h H)
 |IfExp t b o p=>
  rw[arm_isTrue_IfExp]
  refine wpAny_bind (snd.T h fit H λc σ₁ s₁ H₁ h₁=>?_)
  induction c
  ·exact snd.t h₁ fit H₁
  ·exact snd.t h₁ fit H₁
 |Compare l ops rs p=>exact t_compare Gd snd h fit H
 |Name id p=>exact t_value snd h fit H rfl
 |Attribute a b c=>exact t_value snd h fit H rfl
 |Call a b c d=>exact t_value snd h fit H rfl
 |Subscript a b c=>exact t_value snd h fit H rfl
 |_=>exact h.elim
theorem e_ifexp {R:Ops} (snd:Snd prog w B R) {t b o:Expr} {pos} {Q:Post} (h:stepE R Γ (.IfExp t b o pos) ρ σ Q) (fit:Fit prog w B Γ A F) (H:At prog w B F ρ σ s) :
 wpAny (model prog w) A (eval (.IfExp t b o pos) F.env) (REx prog w B F ρ Q) (Err prog w B F Γ.X) s:=by
 rw[arm_eval_IfExp]
 refine wpAny_bind (snd.T h fit H λc σ₁ s₁ H₁ h₁=>?_)
 induction c
 ·exact snd.e h₁ fit H₁
 ·exact snd.e h₁ fit H₁
theorem e_bool {R:Ops} (snd:Snd prog w B R) {op:BoolOp} {pos} (fit:Fit prog w B Γ A F) {Q:Post}:∀{es:List Expr} {σ:AH} {s:Shared},boolA R Γ ρ op es σ Q→At prog w B F ρ σ s→
 wpAny (model prog w) A (boolOp pos op (evalEach es F.env)) (REx prog w B F ρ Q) (Err prog w B F Γ.X) s
:=by
  intro es
  induction es with
  |nil=>intro σ s h H;exact h.elim
  |cons x es ih=>
   intro σ s h H
   induction es using List.casesOn with
   |nil=>exact snd.e h fit H
   |cons y rest=>
   refine wpAny_bind (snd.E h fit H λa u σ₁ s₁ ha H₁ h₁=>?_)
   have h₂:truthA a σ₁ (qBool op (boolA R Γ ρ op (y :: rest)) a Q):=h₁
   clear h₁
   induction a with
   |bool b=>
    subst ha
    refine wpAny_bind (wpAny_standAt (wpAny_bind (wpAny_holding (wpAny_truthy_bool ?_))))
    induction op<;>induction b<;>first|exact wpAny_pure ⟨.bool _,σ₁,rfl,H₁,h₂⟩|exact ih h₂ H₁
   |_=>exact h₂.elim
theorem pl_rd (Gd:Gd prog w K B) (H:At prog w B F ρ σ s) {a:Addr} {xs:List AV} (e:rd σ a=some (.list xs)):∃vs n,IsL s.heap a vs.toArray n∧AllIs xs vs:=at_rd Gd H e
theorem pt_rd (Gd:Gd prog w K B) (H:At prog w B F ρ σ s) {a:Addr} {xs:List AV} (e:rd σ a=some (.tup xs)):∃vs,IsT s.heap a vs.toArray 0∧AllIs xs vs:=at_rd Gd H e
theorem At.push {o:AO} {ob:Obj} (H:At prog w B F ρ σ s) (hn:NotInst o) (ho:ORep prog w (s.heap.push ob) s.heap.objs.size o) (t:Tok):At prog w B F ρ (up σ s.heap.objs.size o) { s with heap:=s.heap.push ob,toks:=t }:=by
 refine H.step (.heap (λb o e _ _=>Heap.get?_push_of_some _ e) (λb m=>?_) (th_of λ_ _ e=>Heap.get?_push_of_some _ e)) (λb o e=>Heap.get?_push_of_some _ (H.fs.ws.stays b o e)) (H.fs.ws.rep.push H.fs.ws.stays H.fs.ws.big2 hn ho)
 rcases mut_up hn m with rfl|m
 ·exact .inr get_none_size
 ·exact .inl m
theorem new_at {o:AO} {ob:Obj} {Q:Post} (H:At prog w B F ρ σ s) (h:newAt σ o Q) (hn:NotInst o) (ho:ORep prog w (s.heap.push ob) s.heap.objs.size o) (t:Tok):REx prog w B F ρ Q (.ref s.heap.objs.size) { s with heap:=s.heap.push ob,toks:=t }:=
 ⟨.ref s.heap.objs.size,_,rfl,H.push hn ho t,h _ _ (freshAt H.fs.ws get_none_size) rfl⟩
theorem new_list {xs:List AV} {vs:List Value} {Q:Post} (H:At prog w B F ρ σ s) (h:newAt σ (.list xs) Q) (hi:AllIs xs vs):REx prog w B F ρ Q (.ref s.heap.objs.size) { s with heap:=s.heap.push { cls:=.type "list",data:=.seq vs.toArray } }:=
 new_at H h (λ_ _ _ q=>by exact nC AO.ctorIdx q rfl) ⟨vs,0,Heap.get?_push_size _ rfl,hi⟩ s.toks
theorem new_tup {xs:List AV} {vs:List Value} {Q:Post} (H:At prog w B F ρ σ s) (h:newAt σ (.tup xs) Q) (hi:AllIs xs vs):REx prog w B F ρ Q (.ref s.heap.objs.size) { s with heap:=s.heap.push { cls:=.type "tuple",data:=.seq vs.toArray } }:=
 new_at H h (λ_ _ _ q=>by exact nC AO.ctorIdx q rfl) ⟨vs,Heap.get?_push_size _ rfl,hi⟩ s.toks
inductive RLx (prog:Program) (w:World) (B:Heap) (F:FQ) (ρ:Loc) (n:Nat) (Q:LPost) (vs:List Value) (s':Shared):Prop
 |mk (as:List AV) (σ':AH) (i:AllIs as vs) (l:vs.length=n) (H:At prog w B F ρ σ' s') (q:Q as σ'):RLx prog w B F ρ n Q vs s'
theorem star_cons {e:Expr} {r:List Expr} {env:Env} (h:noStar1 e=true):starEach (e :: r) env=(false,eval e env) :: starEach r env:=by
 induction e using Expr.casesOn with
 |Starred=>cases h
 |_=>rfl
theorem evs_cons {R:Ops} {Γ:Cx} {ρ:Loc} {e:Expr} {r:List Expr} {σ:AH} {Q:LPost} (h:evs R Γ ρ (e :: r) σ Q):noStar1 e=true∧R.E Γ e ρ σ (qEvs (evs R Γ ρ r) Q):=by
 induction e using Expr.casesOn with
 |Starred=>exact h.elim
 |_=>exact ⟨rfl,h⟩
theorem evs_at {R:Ops} (snd:Snd prog w B R) (fit:Fit prog w B Γ A F) {pos:Pos}:∀{es:List Expr} {σ:AH} {s:Shared} {Q:LPost},evs R Γ ρ es σ Q→At prog w B F ρ σ s→
 wpAny (model prog w) A (spliced (backTo pos (starEach es F.env))) (RLx prog w B F ρ es.length Q) (Err prog w B F Γ.X) s:=by
 intro es
 induction es with
 |nil=>
  intro σ s Q h H
  exact spliced_nil ⟨[],σ,.nil,rfl,H,h⟩
 |cons e r ih=>
  intro σ s Q h H
  have q:=evs_cons h
  refine rE (star_cons q.1) ?_
  have h:=q.2
  refine spliced_cons (snd.E h fit H λa v σ₁ s₁ ha H₁ h₁=>?_)
  refine wpAny_mono (ih (Q:=qCons a Q) h₁ H₁) (λvs s₂ h₂=>?_) λ_ _ z=>z
  obtain ⟨as,σ₂,has,hl,H₂,h₂⟩:=h₂
  exact ⟨a :: as,σ₂,.cons ha has,by simp[hl],H₂,h₂⟩
theorem e_list {R:Ops} (snd:Snd prog w B R) {es:List Expr} {pos} {Q:Post} (h:stepE R Γ (.List es pos) ρ σ Q) (fit:Fit prog w B Γ A F) (H:At prog w B F ρ σ s) :
 wpAny (model prog w) A (eval (.List es pos) F.env) (REx prog w B F ρ Q) (Err prog w B F Γ.X) s:=by
 obtain ⟨ok,h⟩:=chk_iff h
 refine wpAny_List_spliced (wpAny_mono (evs_at snd fit h H) (λvs s₁ h₁=>?_) λ_ _ z=>z)
 obtain ⟨as,σ₁,hi,hl,H₁,h₁⟩:=h₁
 exact ⟨by refine rE hl ?_;exact Nat.le_trans (Nat.le_of_ble_eq_true ok) (dE rfl),new_list H₁ h₁ hi⟩
theorem e_tuple {R:Ops} (snd:Snd prog w B R) {es:List Expr} {x1 pos} {Q:Post} (h:stepE R Γ (.Tuple es x1 pos) ρ σ Q) (fit:Fit prog w B Γ A F) (H:At prog w B F ρ σ s) :
 wpAny (model prog w) A (eval (.Tuple es x1 pos) F.env) (REx prog w B F ρ Q) (Err prog w B F Γ.X) s:=by
 obtain ⟨ok,h⟩:=chk_iff h
 refine wpAny_Tuple_spliced (wpAny_mono (evs_at snd fit h H) (λvs s₁ h₁=>?_) λ_ _ z=>z)
 obtain ⟨as,σ₁,hi,hl,H₁,h₁⟩:=h₁
 exact ⟨by refine rE hl ?_;exact Nat.le_trans (Nat.le_of_ble_eq_true ok) (dE rfl),new_tup H₁ h₁ hi⟩
theorem small_div {a b:Int} (ha:small a) (hb:0 < b) (hb':b < 1000):Builtin.divisionGoesByPylong a b=false:=PyProof.noPylong_small (by lia)
theorem allIs_ne {as:List AV} {vs:List Value} (h:AllIs as vs) (n:as≠[]):¬vs.toArray.isEmpty=true:=by
 cases h with
 |nil=>exact absurd rfl n
 |cons _ _=>simp
theorem mul_at (Gd:Gd prog w K B) (H:At prog w B F ρ σ s) {a:Addr} {xs:List AV} {n:Int} {t:Tok} {Q:Value→Shared→Prop} (e:rd σ a=some (.list xs)) (ne:xs≠[]) (hz:xs.length≤1000) (hn:n=0∨n=1)
 (h:∀vs,AllIs (if n=0 then [] else xs) vs→Q (.ref s.heap.objs.size) { s with heap:=s.heap.push { cls:=.type "list",data:=.seq vs.toArray } }):wpAny (model prog w) A (binaryOp .Mult (.ref a) (.int n t)) Q E s:=by
 refine xEEA (pl_rd Gd H e) λvs k hl hi=>?_
 have z:=hi.length
 have hsz:vs.toArray.size * n.toNat≤2 ^ 24:=by
  (refine rE List.size_toArray ?_;refine rL z ?_)
  rcases hn with rfl|rfl<;>simp<;>lia
 have q:∃ws:List Value,AllIs (if n=0 then [] else xs) ws∧List.foldl (λx1 x2=>x1 ++ x2) #[] (List.replicate (if vs.toArray.isEmpty=true then 0 else n.toNat) vs.toArray)=ws.toArray:=by
  refine rE (if_neg (allIs_ne hi ne)) ?_
  rcases hn with rfl|rfl
  ·exact iEA ([]) .nil rfl
  ·exact iEA vs hi (by simp)
 refine xEA q λws q1 q2=>?_
 refine wpAny_binaryOp_repeat_ref (T:="list") (U:="int") (dE rfl) ⟨_,hl,rfl⟩ (λs'=>typeIs_int s' n t) noFill_list_mul PySem.F.fills_int_mul PySem.F.slot_int_rmul repeat_list PySem.F.slot_int_index.lookup
  (call_meets PySem.F.slot_int_rmul (typeIs_int s n t) PySem.F.entry_int_rmul (PySem.F.args_int_rmul_2 _ _) (int___rmul___int_list n t a vs.toArray k)
   ⟨hl,rfl,⟨_,hl,rfl⟩,call_meets PySem.F.slot_list_mul ⟨_,hl,rfl⟩ PySem.F.entry_list_mul (PySem.F.args_list_mul_2 _ _)
    (AutoListH.list___mul___list_int_3 a vs.toArray k n t (by rcases hn with rfl|rfl<;>simp[Builtin.List.listFitsIndex]) (by lia) (by simp[Builtin.List.listTooLong,sizeLine];rw[List.size_toArray] at hsz;lia))
    ⟨hl,by refine rE q2 ?_;exact h ws q1⟩⟩)
theorem size_two {xs ys:List AV} {vs ws:List Value} (i:AllIs xs vs) (j:AllIs ys ws) (hz:xs.length + ys.length≤100000):vs.toArray.size + ws.toArray.size≤sizeLine:=by
 (refine rE List.size_toArray ?_;refine rE List.size_toArray ?_;refine rL i.length ?_;refine rL j.length ?_;refine rE sizeLine_eq ?_)
 exact Nat.le_trans hz (dE rfl)
theorem bin_lists (Gd:Gd prog w K B) (H:At prog w B F ρ σ s) {a b:Addr} {xs ys:List AV} {Q:Post} (hz:xs.length + ys.length≤100000) (e1:rd σ a=some (.list xs)) (e2:rd σ b=some (.list ys)) (h:newAt σ (.list (xs ++ ys)) Q) :
 wpAny (model prog w) A (binaryOp .Add (.ref a) (.ref b)) (REx prog w B F ρ Q) E s:=by
 refine xEEA (pl_rd Gd H e1) λvs n t1 i1=>?_
 refine xEEA (pl_rd Gd H e2) λws n' t2 i2=>?_
 refine P.add_list t1 t2 ?_ (size_two i1 i2 hz)
 refine rE (List.append_toArray _ _) ?_
 exact new_list H h (i1.append i2)
theorem bin_tups (Gd:Gd prog w K B) (H:At prog w B F ρ σ s) {a b:Addr} {xs ys:List AV} {Q:Post} (hz:xs.length + ys.length≤100000) (e1:rd σ a=some (.tup xs)) (e2:rd σ b=some (.tup ys)) (n1:xs≠[]) (n2:ys≠[]) (h:newAt σ (.tup (xs ++ ys)) Q) :
 wpAny (model prog w) A (binaryOp .Add (.ref a) (.ref b)) (REx prog w B F ρ Q) E s:=by
 refine xEA (pt_rd Gd H e1) λvs t1 i1=>?_
 refine xEA (pt_rd Gd H e2) λws t2 i2=>?_
 refine P.add_tuple t1 t2 (allIs_ne i1 n1) (allIs_ne i2 n2) ?_ (size_two i1 i2 hz)
 refine rE (List.append_toArray _ _) ?_
 exact new_tup H h (i1.append i2)
theorem bin_at (Gd:Gd prog w K B) (H:At prog w B F ρ σ s) {op:Operator} {a b:AV} {u v:Value} {Q:Post} (h:binA op a b σ Q) (ha:a.Is u) (hb:b.Is v):wpAny (model prog w) A (binaryOp op u v) (REx prog w B F ρ Q) E s:=by
 induction op with
 |Add=>
  induction a with
  |int i=>
   refine onInt_e h hb λj t' h=>?_
   obtain ⟨t,rfl⟩:=ha
   exact PyProof.Rows.add_int ⟨.int _,σ,⟨_,rfl⟩,H.tok _,h⟩
  |str x=>
   refine onStr_e h hb λy t' h=>?_
   obtain ⟨t,rfl⟩:=ha
   exact PyProof.Rows.add_str (λt tk=>⟨.str _,σ,⟨_,rfl⟩,H.tok _,h.2⟩) (Nat.le_trans h.1 (by refine rE sizeLine_eq ?_;exact dE rfl))
  |ref a=>
   subst ha
   refine onRef_e h hb λb h=>?_
   (refine xEEA h λxs ys hz=>?_;rintro (h|h))
   ·exact bin_lists Gd H hz h.1 h.2.1 h.2.2
   ·exact bin_tups Gd H hz h.1 h.2.1 h.2.2.1 h.2.2.2.1 h.2.2.2.2
  |_=>exact h.elim
 |Sub=>
  refine onInt_e h ha λi t h=>onInt_e h hb λj t' h=>?_
  exact PyProof.Rows.sub_int ⟨.int _,σ,⟨_,rfl⟩,H.tok _,h⟩
 |Mod=>
  refine onInt_e h ha λi t h=>onInt_e h hb λj t' h=>?_
  exact PyProof.Rows.mod_int (Int.ne_of_gt h.1) ⟨.int _,σ,⟨_,by exact rE (Int.fmod_eq_emod_of_nonneg _ (Int.le_of_lt h.1)) rfl⟩,H.tok _,h.2⟩
 |FloorDiv=>
  refine onInt_e h ha λi t h=>onInt_e h hb λj t' h=>?_
  exact PyProof.Rows.floordiv_int (Int.ne_of_gt h.2.1) ⟨.int _,σ,⟨_,by exact rE (Int.fdiv_eq_ediv_of_nonneg _ (Int.le_of_lt h.2.1)) rfl⟩,H.tok _,h.2.2.2⟩ (.inl (small_div h.1 h.2.1 h.2.2.1))
 |Pow=>
  refine onInt_e h ha λi t h=>onInt_e h hb λj t' h=>?_
  (refine xAA h ?_;rintro rfl rfl h)
  exact PyProof.Rows.pow_int (dE rfl) (by decide +kernel) ⟨.int _,σ,⟨_,rfl⟩,H.tok _,h⟩
 |Mult=>
  refine onRef_e h ha λa h=>onInt_e h hb λn t h=>?_
  obtain ⟨xs,e,ne,hz,hn,h⟩:=h
  exact mul_at Gd H e ne hz hn λvs hi=>new_list H h hi
 |_=>exact h.elim
theorem e_binop (Gd:Gd prog w K B) {R:Ops} (snd:Snd prog w B R) {l r:Expr} {op pos} {Q:Post} (h:stepE R Γ (.BinOp l op r pos) ρ σ Q) (fit:Fit prog w B Γ A F) (H:At prog w B F ρ σ s) :
 wpAny (model prog w) A (eval (.BinOp l op r pos) F.env) (REx prog w B F ρ Q) (Err prog w B F Γ.X) s:=by
 refine wpAny_BinOp (snd.E h fit H λa u σ₁ s₁ ha H₁ h₁=>?_)
 refine snd.E h₁ fit H₁ λb v σ₂ s₂ hb H₂ h₂=>?_
 exact bin_at Gd H₂ h₂ ha hb
theorem e_unop {R:Ops} (snd:Snd prog w B R) {x:Expr} {op pos} {Q:Post} (h:stepE R Γ (.UnaryOp op x pos) ρ σ Q) (fit:Fit prog w B Γ A F) (H:At prog w B F ρ σ s) :
 wpAny (model prog w) A (eval (.UnaryOp op x pos) F.env) (REx prog w B F ρ Q) (Err prog w B F Γ.X) s:=by
 induction op with
 |Not=>
  refine wpAny_UnaryOp (snd.E h fit H λa u σ₁ s₁ ha H₁ h₁=>?_)
  refine not_value (wpAny_mono (truth_at H₁ h₁ ha) (λb s₂ h₂=>?_) λ_ _ z=>z)
  obtain ⟨σ₂,H₂,h₂⟩:=h₂
  exact ⟨.bool (!b),σ₂,rfl,H₂,h₂⟩
 |USub=>
  refine wpAny_UnaryOp (snd.E h fit H λa u σ₁ s₁ ha H₁ h₁=>?_)
  refine onInt_e h₁ ha λi t h₁=>?_
  exact PyProof.Rows.neg_int ⟨.int _,σ₁,⟨_,rfl⟩,H₁.tok _,h₁⟩
 |_=>exact h.elim
theorem sub_tail {value slice:Expr} {o i:Value} {T id:String} {Q:Value→Shared→Prop} (hT:s.TypeIs o T) (hl:typeLookup (.type T) "__getitem__"=pure (some (.builtin id)))
 (h:wpAny (model prog w) A (getItem o i) Q E s):wpAny (model prog w) A (do let r ←subscripted slice (←getitemInPython o) o i;letTemporaryGo value o r;pure r) Q E s:=by
 refine wpAny_bind ?_
 refine rE (getitemInPython_of_ne hT.not_modules) ?_
 refine wpAny_bind (wpAny_specialOf hT hl ?_)
 have fin:wpAny (model prog w) A (subscripted slice false o i) (λr s₃=>wpAny (model prog w) A (letTemporaryGo value o r >>= λ_=>pure r) Q E s₃) E s:=by
  have g:∀vs,wpAny (model prog w) A (operate vs (getItem o i)) (λr s₃=>wpAny (model prog w) A (letTemporaryGo value o r >>= λ_=>pure r) Q E s₃) E s:=λvs=>
   wpAny_operateT (wpAny_mono h (λr s₃ h₃=>wpAny_bind (wpAny_letTemporaryGo (wpAny_pure h₃))) λ_ _ x=>x)
  induction slice using Expr.casesOn with
  |Slice a b c p=>induction c<;>exact g _
  |_=>exact g _
 first
  |exact wpAny_pure (wpAny_bind fin)
  |exact wpAny_bind (wpAny_pure (wpAny_bind fin))
  |exact wpAny_bind fin
theorem seqIdx {k:Int} {n:Nat} (h0:0≤k) (h1:k.toNat < n):seqIndex? k n=some k.toNat:=by
 unfold seqIndex?
 simp
 lia
theorem list_getitem_lk:typeLookup (.type "list") "__getitem__"=pure (some (.builtin "list.__getitem__")):=slot_list_getitem.lookup
theorem tuple_getitem_lk:typeLookup (.type "tuple") "__getitem__"=pure (some (.builtin "tuple.__getitem__")):=slot_tuple_getitem.lookup
theorem dict_getitem_lk:typeLookup (.type "dict") "__getitem__"=pure (some (.builtin "dict.__getitem__")):=slot_dict_getitem.lookup
theorem arr {vs:List Value} {i:Nat} {y:Value} (e:vs[i]?=some y):vs.toArray[i]?=some y:=List.getElem?_toArray.trans e
theorem item_at (Gd:Gd prog w K B) (H:At prog w B F ρ σ s) {value slice:Expr} {a b:AV} {u v:Value} {Q:Post} (h:itemA a b σ Q) (ha:a.Is u) (hb:b.Is v) :
 wpAny (model prog w) A (do let r ←subscripted slice (←getitemInPython u) u v;letTemporaryGo value u r;pure r) (REx prog w B F ρ Q) E s:=by
 refine onRef_e h ha λa h=>?_
 induction b with
 |int k=>
  obtain ⟨t,rfl⟩:=hb
  rcases h with ⟨xs,hr|hr,h0,h1,x,ex,h⟩|⟨kvs,hr,x,ex,h⟩
  ·refine xEEA (pl_rd Gd H hr) λvs n hl hi=>?_
   refine xEA (hi.get ex) λy ey iy=>?_
   exact sub_tail (IsL.isList hl).typeIs list_getitem_lk (wpAny_getItem_list (IsL.isList hl) h0 (Int.lt_trans h1 (dE rfl)) (arr ey) ⟨x,σ,iy,H,h⟩)
  ·refine xEA (pt_rd Gd H hr) λvs hl hi=>?_
   refine xEA (hi.get ex) λy ey iy=>?_
   have lt:k.toNat < vs.length:=(List.getElem?_eq_some_iff.mp ey).1
   exact sub_tail (T:="tuple") ⟨_,hl,rfl⟩ tuple_getitem_lk (P.getItem_tuple hl (Int.le_trans (dE rfl) h0) (Int.lt_trans h1 (dE rfl)) (seqIdx h0 (by refine rE List.size_toArray ?_;exact lt)) (arr ey) ⟨x,σ,iy,H,h⟩)
  ·refine xEA (at_rd Gd H hr) λkv D ki=>?_
   refine xEA (ki.found ex) λy z2 z3=>?_
   exact sub_tail D.typeIs dict_getitem_lk (wpAny_getItem_of (knd:=intKind prog w) (by exact beq_self_eq_true _) D.mapOf z2 ⟨x,σ,z3,H.tok _,h⟩)
 |str k=>
  obtain ⟨t,rfl⟩:=hb
  obtain ⟨kvs,hr,x,ex,h⟩:=h
  refine xEA (at_rd Gd H hr) λkv D ki=>?_
  refine xEA (ki.found ex) λy z2 z3=>?_
  exact sub_tail D.typeIs dict_getitem_lk (wpAny_getItem_of (knd:=PySem.strKind prog w) (by exact beq_self_eq_true _) D.mapOf z2 ⟨x,σ,z3,H.tok _,h⟩)
 |_=>exact h.elim
theorem At.pushF {ob:Obj} (H:At prog w B F ρ σ s) (t:Tok):At prog w B F ρ σ { s with heap:=s.heap.push ob,toks:=t }:=
 H.step (.heap (λb o e _ _=>Heap.get?_push_of_some _ e) (λb m=>.inl m) (th_of λ_ _ e=>Heap.get?_push_of_some _ e)) (λb o e=>Heap.get?_push_of_some _ (H.fs.ws.stays b o e)) (H.fs.ws.rep.keeps λb o e _=>Heap.get?_push_of_some _ e)
theorem allIs_rev {as:List AV} {vs:List Value} (h:AllIs as vs):AllIs as.reverse vs.toArray.toList.reverse:=by simpa using h.reverse
theorem tupCut {sl t:Addr} {items:Array Value} {k:Nat} {u:Tok} {Q:Value→Shared→Prop} (ht:IsTup s.heap t items) (hs:s.heap.IsSliceOf sl .none (.int k u) .none) (hk:k < items.size)
 (h:Q (.ref s.heap.objs.size) { s with heap:=s.heap.push { cls:=.type "tuple",data:=.seq (items.toList.take k).toArray } })
 (hsz:items.size≤sizeLine):wpAny (model prog w) A (getItem (.ref t) (.ref sl)) Q E s:=by
 have htake:sizeOk (.seq (items.toList.take k).toArray):=by
  show (items.toList.take k).toArray.size≤sizeLine
  rw[List.size_toArray,List.length_take,Array.length_toList]
  lia
 have places:Builtin.Slice.slicePlaces 0 (k:Int) 1=k:=by
  unfold Builtin.Slice.slicePlaces
  simp only[show (1:Int) > 0 by lia,if_true,Int.ediv_one]
  split<;>lia
 have adj:Builtin.Slice.sliceAdjust none (some (k:Int)) 1 (items.size:Int)=(0,(k:Int)):=by
  unfold Builtin.Slice.sliceAdjust
  simp only[show ¬((1:Int) < 0) by lia,show ¬((k:Int) < 0) by lia,if_false]
  congr 1
  lia
 have applied:∀{R:Int×Int×Nat→Shared→Prop},R (0,1,k) s→wpAny (model prog w) A.in1 (Builtin.Slice.sliceApplied (.ref sl) (pure (items.size:Int))) R (λe s'=>E e s') s:=λ{R} h=>by
  refine xEAA (id hs) λos hos hcs hds=>?_
  unfold Builtin.Slice.sliceApplied Builtin.Slice.sliceFields
  refine wpAny_bind (wpAny_bind (wpAny_field hos hds (x:=.none) rfl (wpAny_bind (wpAny_field hos hds (x:=.int k u) rfl (wpAny_bind (wpAny_field hos hds (x:=.none) rfl (wpAny_pure ?_)))))))
  refine wpAny_bind (slicePart_none ?_)
  show wpAny _ _ (if ((1:Int) == 0)=true then _ else _) _ _ s
  rw[if_neg (dE rfl)]
  refine wpAny_bind (slicePart_none (wpAny_bind (slicePart_int (wpAny_bind (wpAny_pure ?_)))))
  show wpAny _ _ (match Builtin.Slice.sliceAdjust none (some (k:Int)) 1 (items.size:Int) with|(lo,hi)=>pure (lo,(1:Int),Builtin.Slice.slicePlaces lo hi 1)) _ _ s
  rw[adj]
  show wpAny _ _ (pure ((0:Int),(1:Int),Builtin.Slice.slicePlaces 0 (k:Int) 1)) _ _ s
  rw[places]
  exact wpAny_pure h
 have pick:((List.range k).filterMap λ(j:Nat)=>items[((0:Int) + (j:Int) * 1).toNat]?).toArray=(items.toList.take k).toArray:=by
  have e:(λ(j:Nat)=>items[((0:Int) + (j:Int) * 1).toNat]?)=λj=>items[0 + j]?:=by
   funext j
   rw[show ((0:Int) + (j:Int) * 1).toNat=0 + j by lia]
  rw[e]
  have:=pick_run items 0 k
  rw[List.filterMap_map] at this
  rw[show ((λx=>items[x]?)∘λx=>0 + x)=λj=>items[0 + j]? from rfl] at this
  rw[this,List.drop_zero]
 refine xEAA (id hs) λos hos hcs hds=>?_
 have hTs:s.TypeIs (.ref sl) "slice":=⟨os,hos,hcs⟩
 unfold getItem
 try with_reducible refine wpAny_holding ?_
 first|refine wpAny_bind (wpAny_pure ?_)|skip
 refine wpAny_bind (wpAny_sequenceKey ht.typeIs (dE rfl) ?_)
 refine wpAny_bind (wpAny_callSpecial?_slot (name:="__getitem__") ht.typeIs slot_tuple_getitem
  (wpAny_call_entry slot_tuple_getitem ht.typeIs entry_tuple_getitem ?_ (args_tuple_getitem _ _)))
 show wpAny _ _ (Builtin.Tuple.tupleItemsOf (.ref t) >>= _) _ _ s
 refine wpAny_bind (tupleItemsOf_ ht ?_)
 refine wpAny_bind (wpAny_typeOf hTs ?_)
 refine rE (if_pos (dE rfl)) ?_
 refine wpAny_bind (applied ?_)
 have hno:¬(((0:Int) == 0 && (1:Int) == 1 && k == items.size)=true):=by
  have:(k == items.size)=false:=by rw[beq_eq_false_iff_ne];lia
  refine rE this ?_;simp
 show wpAny _ _ (if ((0:Int) == 0 && (1:Int) == 1 && k == items.size)=true then _ else _) _ _ s
 (refine rE (if_neg hno) ?_;refine rE pick ?_)
 first
  |exact wpAny_bind (m:=Builtin.Tuple.tupleExact _) (wpAny_newObj_type (wpAny_pure ⟨_,rfl,wpAny_pure h⟩) htake)
  |exact wpAny_bind (m:=Builtin.Tuple.tupleExact _) (wpAny_newObj_type (wpAny_bind (wpAny_pure (wpAny_pure ⟨_,rfl,wpAny_pure h⟩))) htake)
  |exact wpAny_bind (wpAny_bind (m:=Builtin.Tuple.tupleExact _) (wpAny_newObj_type (wpAny_pure (wpAny_pure ⟨_,rfl,wpAny_pure h⟩)) htake))
theorem len_line {xs:List AV} {vs:List Value} (hi:AllIs xs vs) (hz:xs.length≤100000):vs.toArray.size≤sizeLine:=by
 (refine rE List.size_toArray ?_;refine rL hi.length ?_;refine rE sizeLine_eq ?_);exact Nat.le_trans hz (dE rfl)
theorem sl_rev (Gd:Gd prog w K B) {v sl e:Expr} {pos p} {a:AV} {o:Value} {Q:Post} (fit:Fit prog w B Γ A F) (H:At prog w B F ρ σ s) (ok:isRev e=true) (h:cutA List.reverse a σ Q) (ha:a.Is o) :
 wpAny (model prog w) A (eval (.Slice none none (some e) p) F.env) (λi s'=>wpAny (model prog w) A (do standAt pos;let r ←subscripted sl (←getitemInPython o) o i;letTemporaryGo v o r;pure r) (REx prog w B F ρ Q) E s') E s:=by
 have er:=isRev_e ok
 (refine xEEE er λc p' q=>?_;rintro rfl)
 refine onRef_e h ha λx h=>?_
 obtain ⟨xs,hz,er,h⟩:=h
 refine wpAny_Slice (wpAny_pure (wpAny_pure (wpAny_UnaryOp (wpAny_Constant_int (PyProof.Rows.neg_int ?_)))))
 have H₂:=H.pushF (ob:={ cls:=.type "slice",data:=.fields #[.none,.none,.int (-1) (s.toks + 1)] }) (s.toks + 1 + 1)
 refine xEEA (pl_rd Gd H₂ er) λvs n hl hi=>?_
 refine wpAny_bind (wpAny_standAt (sub_tail (IsL.isList hl).typeIs list_getitem_lk (wpAny_getItem_list_slice (IsL.isList hl) (Heap.IsSliceOf.new ..) .none .none (.int _ _) (dE rfl) ?_ (len_line hi hz))))
 refine rE (krv_pick _) ?_
 exact new_list H₂ h (allIs_rev hi)
theorem sl_from (Gd:Gd prog w K B) {R:Ops} (snd:Snd prog w B R) {v sl e:Expr} {pos p} {a:AV} {o:Value} {Q:Post} (fit:Fit prog w B Γ A F) (H:At prog w B F ρ σ s) (h:R.E Γ e ρ σ (qFrom a Q)) (ha:a.Is o) :
 wpAny (model prog w) A (eval (.Slice (some e) none none p) F.env) (λi s'=>wpAny (model prog w) A (do standAt pos;let r ←subscripted sl (←getitemInPython o) o i;letTemporaryGo v o r;pure r) (REx prog w B F ρ Q) (Err prog w B F Γ.X) s') (Err prog w B F Γ.X) s:=by
 refine wpAny_Slice (snd.E h fit H λb i σ₂ s₂ hb H₂ h₂=>wpAny_pure (wpAny_pure ?_))
 refine onInt_e h₂ hb λk t h₂=>?_
 refine xAA h₂ λh0 hlt h₂=>?_
 refine onRef_e h₂ ha λx h₂=>?_
 obtain ⟨xs,hz,er,h₂⟩:=h₂
 have H₃:=H₂.pushF (ob:={ cls:=.type "slice",data:=.fields #[.int k t,.none,.none] }) s₂.toks
 refine xEEA (pl_rd Gd H₃ er) λvs n hl hi=>?_
 refine wpAny_bind (wpAny_standAt (sub_tail (IsL.isList hl).typeIs list_getitem_lk (wpAny_getItem_list_slice (IsL.isList hl) (Heap.IsSliceOf.new ..) (.int _ _) .none .none (dE rfl) ?_ (len_line hi hz))))
 have q:=slicePick_from' vs.toArray k.toNat
 rw[Int.toNat_of_nonneg h0] at q
 refine rE q ?_
 exact new_list H₃ h₂ (hi.drop _)
theorem sl_upto (Gd:Gd prog w K B) {R:Ops} (snd:Snd prog w B R) {v sl e:Expr} {pos p} {a:AV} {o:Value} {Q:Post} (fit:Fit prog w B Γ A F) (H:At prog w B F ρ σ s) (h:R.E Γ e ρ σ (qUpto a Q)) (ha:a.Is o) :
 wpAny (model prog w) A (eval (.Slice none (some e) none p) F.env) (λi s'=>wpAny (model prog w) A (do standAt pos;let r ←subscripted sl (←getitemInPython o) o i;letTemporaryGo v o r;pure r) (REx prog w B F ρ Q) (Err prog w B F Γ.X) s') (Err prog w B F Γ.X) s:=by
 refine wpAny_Slice (wpAny_pure (snd.E h fit H λb i σ₂ s₂ hb H₂ h₂=>wpAny_pure ?_))
 refine onInt_e h₂ hb λk t h₂=>?_
 refine xAA h₂ λh0 hlt h₂=>?_
 refine onRef_e h₂ ha λx h₂=>?_
 refine xEA h₂ λxs hz h₂=>?_
 have H₃:=H₂.pushF (ob:={ cls:=.type "slice",data:=.fields #[.none,.int k t,.none] }) s₂.toks
 rcases h₂ with h₂|h₂
 ·refine xEEA (pl_rd Gd H₃ h₂.1) λvs n hl hi=>?_
  refine wpAny_bind (wpAny_standAt (sub_tail (IsL.isList hl).typeIs list_getitem_lk (wpAny_getItem_list_slice (IsL.isList hl) (Heap.IsSliceOf.new ..) .none (.int _ _) .none (dE rfl) ?_ (len_line hi hz))))
  have q:=slicePick_upto' vs.toArray k.toNat
  rw[Int.toNat_of_nonneg h0] at q
  refine rE q ?_
  exact new_list H₃ h₂.2 (hi.take _)
 ·refine xEA (pt_rd Gd H₃ h₂.1) λvs hl hi=>?_
  have ht:IsTup _ _ vs.toArray:=⟨_,hl,rfl,0,rfl⟩
  have hs:=Heap.IsSliceOf.new s₂.heap .none (.int k t) .none
  have hk:k.toNat < vs.toArray.size:=by (refine rE List.size_toArray ?_;refine rL hi.length ?_);exact h₂.2.1
  rw[←Int.toNat_of_nonneg h0] at hs
  refine wpAny_bind (wpAny_standAt (sub_tail ht.typeIs tuple_getitem_lk (tupCut ht (k:=k.toNat) (u:=t) ?_ hk (new_tup H₃ h₂.2.2 (hi.take _)) (len_line hi hz))))
  refine rL (Int.toNat_of_nonneg h0) ?_
  exact hs
theorem isSl {e:Expr} (h:noSlice e=false):∃a b c p,e=.Slice a b c p:=by
 induction e using Expr.casesOn with
 |Slice a b c p=>exact ⟨a,b,c,p,rfl⟩
 |_=>exact absurd h.symm Bool.false_ne_true
theorem noSl {R:Ops} {e:Expr} {o:AV} {Q:Post} (h:noSlice e=true) (q:qSub R e Γ ρ Q o σ):R.E Γ e ρ σ (qItem o Q):=by
 induction e using Expr.casesOn with
 |Slice=>cases h
 |_=>exact q
theorem e_sub (Gd:Gd prog w K B) {R:Ops} (snd:Snd prog w B R) {v sl:Expr} {pos} {Q:Post} (h:stepE R Γ (.Subscript v sl pos) ρ σ Q) (fit:Fit prog w B Γ A F) (H:At prog w B F ρ σ s) :
 wpAny (model prog w) A (eval (.Subscript v sl pos) F.env) (REx prog w B F ρ Q) (Err prog w B F Γ.X) s:=by
 rw[arm_eval_Subscript]
 refine wpAny_bind (snd.E h fit H λa o σ₁ s₁ ha H₁ h₁=>?_)
 refine wpAny_bind (wpAny_holding ?_)
 induction hs:noSlice sl with
 |true=>exact snd.E (noSl hs h₁) fit H₁ λb i σ₂ s₂ hb H₂ h₂=>wpAny_bind (wpAny_standAt (item_at Gd H₂ h₂ ha hb))
 |false=>
  (refine xEEEE (isSl hs) λlo hi st p=>?_;rintro rfl)
  induction st with
  |some e=>
   induction lo with
   |none=>
    induction hi with
    |none=>obtain ⟨ok,h₁⟩:=chk_iff h₁;exact sl_rev Gd fit H₁ ok h₁ ha
    |some _=>exact h₁.elim
   |some _=>exact h₁.elim
  |none=>
   induction lo with
   |some e=>
    induction hi with
    |none=>exact sl_from Gd snd fit H₁ h₁ ha
    |some _=>exact h₁.elim
   |none=>
    induction hi with
    |some e=>exact sl_upto Gd snd fit H₁ h₁ ha
    |none=>exact h₁.elim
noncomputable abbrev FQ.at (F:FQ) (σ:AH) (s:Shared):FQ:={ F with σ₀:=σ,s₀:=s }
theorem At.here (H:At prog w B F ρ σ s):At prog w B (F.at σ s) ρ σ s:=⟨H.fs,.refl _ _ _ _⟩
theorem At.back {ρ' σ' s'} (H:At prog w B F ρ σ s) (H':At prog w B (F.at σ s) ρ' σ' s'):At prog w B F ρ' σ' s':=⟨H'.fs,H.ev.trans H'.ev⟩
theorem Fly.mono {n m:Heap} {e v} {l:List Env} (h:Fly prog w B n l σ e v s) (q:∀b,n.get? b=none→m.get? b=none):Fly prog w B m l σ e v s:=by
 obtain ⟨ea,d,oe,vs,kvs,u,h1,h2,h3,h4,h5,h6,h7,h8,h9,h10,h11,h12,h13,h14⟩:=h
 refine ⟨ea,d,oe,vs,kvs,u,h1,h2,h3,h4,h5,h6,h7,h8,q _ h9,h10,h11,h12,h13,?_⟩
 rcases h14 with h|⟨T,oT,ts,k1,k2,k3,k4⟩
 ·exact .inl h
 ·exact .inr ⟨T,oT,ts,k1,k2,q _ k3,k4⟩
theorem Err.back {X:Post} {e s'} (H:At prog w B F ρ σ s) (h:Err prog w B (F.at σ s) X e s'):Err prog w B F X e s':=by
 obtain ⟨v,σ',f,W,ev,x⟩:=h
 exact ⟨v,σ',f.mono H.ev.th,W,H.ev.trans ev,x⟩
theorem Fit.at (fit:Fit prog w B Γ A F) (H:At prog w B F ρ σ s):Fit prog w B Γ A (F.at σ s):=
 ⟨fit.loc,fit.cel,fit.fre,fit.glo,fit.kind,fit.g,fit.b,fit.frames,fit.handled,fit.room,fit.call,fit.mineL,fit.mineC,fit.top,fit.newL,λb h q=>fit.old b h (H.ev.th b q),fit.newC,fit.code⟩
noncomputable def pairsOf (env:Env) (pos:Pos):List (Option Expr)→List Expr→List (Sem Value×Sem Value)
 |some k :: ks,v :: vs=>(eval k env,do let x ←eval v env;standAt pos;pure x) :: pairsOf env pos ks vs
 |_,_=>[]
inductive RKx (prog:Program) (w:World) (B:Heap) (F:FQ) (ρ:Loc) (Q:KPost) (vs:List (Value×Value)) (s':Shared):Prop
 |mk (kas:List (Str×AV)) (kvs:List (Str×Value)) (σ':AH) (c:Carries (PySem.strKind prog w) vs kvs) (i:KvIs kas kvs) (H:At prog w B F ρ σ' s') (q:Q kas σ'):RKx prog w B F ρ Q vs s'
theorem evKV_at {R:Ops} (snd:Snd prog w B R) (fit:Fit prog w B Γ A F) {pos:Pos} {ks:List (Option Expr)}:∀{vs:List Expr} {σ:AH} {s:Shared} {Q:KPost},evKV R Γ ρ ks vs σ Q→At prog w B F ρ σ s→
 wpAny (model prog w) A (evalPairs (pairsOf F.env pos ks vs)) (RKx prog w B F ρ Q) (Err prog w B F Γ.X) s:=by
 induction ks with
 |nil=>
  intro vs σ s Q h H
  induction vs using List.casesOn with
  |nil=>exact evalPairs_nil ⟨[],[],σ,trivial,.nil,H,h⟩
  |cons=>exact False.elim h
 |cons k ks ih=>
  intro vs σ s Q h H
  induction k with
  |none=>induction vs using List.casesOn<;>exact False.elim h
  |some k=>
   induction vs using List.casesOn with
   |nil=>exact False.elim h
   |cons v vs=>
    refine evalPairs_cons (snd.E h fit H λa u σ₁ s₁ ha H₁ h₁=>?_)
    refine wpAny_bind (snd.E h₁ fit H₁ λb x σ₂ s₂ hb H₂ h₂=>wpAny_bind (wpAny_standAt (wpAny_pure ?_)))
    refine onStr_e h₂ ha λy t h₂=>?_
    refine wpAny_mono (ih (Q:=qKV3 y b Q) h₂ H₂) (λvs s₃ h₃=>?_) λ_ _ z=>z
    obtain ⟨kas,kvs,σ₃,h1,h2,h3,h4⟩:=h₃
    exact ⟨(_,b) :: kas,(_,x) :: kvs,σ₃,⟨beq_self_eq_true _,rfl,h1⟩,.cons hb h2,h3,h4⟩
theorem pairs_shape {env:Env} {pos:Pos}:∀{ks:List (Option Expr)} {vs:List Expr},pairUp ks vs=true→
 (evalEachOpt ks env).zip ((evalEach vs env).map λv=>do let x ←v;standAt pos;pure x)=(pairsOf env pos ks vs).map (λp=>(some p.1,p.2))∧(pairsOf env pos ks vs).length=ks.length:=by
 intro ks
 induction ks with
 |nil=>intro vs h;induction vs using List.casesOn with
  |nil=>exact ⟨rfl,rfl⟩
  |cons=>exact nF h
 |cons k ks ih=>
  intro vs h
  induction k using Option.casesOn with
  |none=>induction vs using List.casesOn<;>exact nF h
  |some k=>
  induction vs using List.casesOn with
  |nil=>exact nF h
  |cons v vs=>
  obtain ⟨h1,h2⟩:=ih (vs:=vs) h
  refine ⟨?_,congrArg (· + 1) h2⟩
  rw[arm_evalEachOpt_cons,arm_evalEach_cons,arm_evalOpt_some]
  exact congrArg (_ :: ·) h1
theorem kvIs_fold {kas:List (Str×AV)} {kvs:List (Str×Value)} (h:KvIs kas kvs):∀{a:List (Str×AV)} {b:List (Str×Value)},KvIs a b→KvIs (kas.foldl (λm p=>kput m p.1 p.2) a) (kvs.foldl (λacc kv=>stored acc kv.1 kv.2) b):=by
 induction h with
 |nil=>exact λh=>h
 |cons h1 _ ih=>exact λh=>ih (h.put _ h1)
theorem e_dict {R:Ops} (snd:Snd prog w B R) {ks:List (Option Expr)} {vs:List Expr} {pos} {Q:Post} (h:stepE R Γ (.Dict ks vs pos) ρ σ Q) (fit:Fit prog w B Γ A F) (H:At prog w B F ρ σ s) :
 wpAny (model prog w) A (eval (.Dict ks vs pos) F.env) (REx prog w B F ρ Q) (Err prog w B F Γ.X) s:=by
 obtain ⟨ok,h⟩:=chk_iff h
 rw[Bool.and_eq_true] at ok
 induction ks using List.casesOn with
 |nil=>
  induction vs using List.casesOn with
  |nil=>
   exact wpAny_Dict_empty (new_at H h (λ_ _ _ q=>by exact nC AO.ctorIdx q rfl) ⟨[],Heap.DictOf.new s.heap,.nil⟩ s.toks)
  |cons=>exact absurd ok.2 Bool.false_ne_true
 |cons k ks=>
  obtain ⟨e1,e2⟩:=pairs_shape (env:=F.env) (pos:=pos) ok.2
  have H₀:=H.pushF (ob:={ cls:=.type "dict",data:=.dict #[] }) s.toks
  have ne:pairsOf F.env pos (k :: ks) vs≠[]:=λq=>by rw[q] at e2;cases e2
  have nm₀:¬Mut σ s.heap.objs.size:=not_mut_new H.fs.ws.rep (get_none_size (h:=s.heap))
  refine wpAny_Dict_pairs (knd:=PySem.strKind prog w) e1 ne (by refine rE e2 ?_;exact Nat.le_trans (Nat.le_of_ble_eq_true ok.1) (dE rfl)) (wpAny_mono (evKV_at snd (fit.at H₀) h H₀.here) (λxs s₁ h₁=>?_) λ_ _ z=>z.back H₀)
  obtain ⟨kas,kvs,σ₁,c,kv,H₁,h₁⟩:=h₁
  have nm₁:¬Mut σ₁ s.heap.objs.size:=λm=>by
   rcases H₁.ev.fr _ m with q|q
   ·exact nm₀ q
   ·rw[show (s.heap.push { cls:=.type "dict",data:=.dict #[] }).get? s.heap.objs.size=some { cls:=.type "dict",data:=.dict #[] } from Heap.get?_push_size _ rfl] at q
    exact nS q
  have none₁:σ₁ s.heap.objs.size=none:=by
   induction q:σ₁ s.heap.objs.size with
   |none=>rfl
   |some o=>exact absurd (.inl ⟨o,q⟩) nm₁
  have no:¬F.own s.heap.objs.size:=λq=>fit.old _ q (H.ev.th _ get_none_size)
  have neL:s.heap.objs.size≠F.env.locals:=λq=>by
   (refine xEA H.fs.loc.ns λ_=>?_;(rintro zz;refine xEEEA zz λoL _ _ eL _ _=>?_))
   rw[←q,get_none_size] at eL;exact nn eL
  have gd:(s.heap.push { cls:=.type "dict",data:=.dict #[] }).get? s.heap.objs.size=some { cls:=.type "dict",data:=.dict #[] }:=Heap.get?_push_size _ rfl
  refine xEA (H₁.ev.kp _ _ gd nm₀ no) λo' e' q=>?_
  have notF:s.heap.objs.size∉frs F.l:=λm=>by
   refine xAEA (H.fs.ws.frames.mem m) λ_ o e _=>?_
   rw[get_none_size] at e;exact nn e
  have eo:o'={ cls:=.type "dict",data:=.dict #[] }:=by rcases q with q|⟨q,_⟩;exact q;exact absurd q notF
  subst eo
  have Hb:=H₀.back H₁
  refine iEAA kvs c ⟨_,#[],0,e',⟨rfl,rfl,rfl⟩,rfl,(λe he=>by simp at he),.nil,by simp⟩ (λh' D' sb=>?_)
  have R':Rep prog w B (up σ₁ s.heap.objs.size (.sdict (kas.foldl (λm p=>kput m p.1 p.2) []))) h':=
   Hb.fs.ws.rep.put (λ_ _ _ q=>by exact nC AO.ctorIdx q rfl) ⟨_,D',kvIs_fold kv .nil⟩ (λx C fs e=>nm₁ (.inr ⟨x,C,fs,e⟩)) ⟨base_none H.fs.ws.stays get_none_size,H.fs.ws.big2⟩ (λb o q e=>(sb.2 b q).trans e)
    λo e=>by rw[e'] at e;(have e:=sJ e;subst e);exact ⟨(λ_ q=>by exact nC Data.ctorIdx q rfl),(λ_ _ _ q=>by exact nC Data.ctorIdx q rfl),λ_ q=>by exact nC Data.ctorIdx q rfl⟩
  refine ⟨.ref s.heap.objs.size,_,rfl,⟨?_,?_⟩,h₁ _ _ ⟨none₁,H.fs.ws.soNone (base_none H.fs.ws.stays get_none_size)⟩ rfl⟩
  ·refine ⟨⟨λb o e=>(sb.2 b λq=>by rw[q,base_none H.fs.ws.stays get_none_size] at e;exact nn e).trans (Hb.fs.ws.stays b o e),funFrames_of Hb.fs.ws.frames λb o hb e d=>⟨o,(sb.2 b λq=>notF (q▸hb)).trans e,d⟩,R',λb hb m=>?_,Hb.fs.ws.big⟩,⟨?_,λx cc e=>?_,Hb.fs.loc.has,Hb.fs.loc.apart⟩,λm=>?_⟩
   ·rcases mut_up (λ_ _ _ q=>by exact nC AO.ctorIdx q rfl) m with rfl|m
    ·exact notF hb
    ·exact Hb.fs.ws.sep b hb m
   ·refine xEA Hb.fs.loc.ns λm hn k=>?_
    exact iEA m (hn.sameBut sb (neL ·.symm)) k
   ·refine xEA (Hb.fs.loc.cell x cc e) λv hv k=>?_
    refine iEA v (hv.sameBut sb λq=>?_) k
    (refine xEA (H.fs.loc.cell x cc e) λ_=>?_;(rintro zz;refine xEA zz λoc ec _ _=>?_))
    rw[q,get_none_size] at ec;exact nn ec
   ·rcases mut_up (λ_ _ _ q=>by exact nC AO.ctorIdx q rfl) m with q|m
    ·exact neL q.symm
    ·exact Hb.fs.sepL m
  ·refine H.ev.trans ⟨λb o e m n=>?_,λb m=>?_,λb e=>?_,H₁.ev.same⟩
   ·refine xEA (H₁.ev.kp b o (Heap.get?_push_of_some _ e) m n) λo' e' q=>?_
    exact iEA o' ((sb.2 b (Nat.ne_of_lt (Heap.lt_size e))).trans e') q
   ·rcases mut_up (λ_ _ _ q=>by exact nC AO.ctorIdx q rfl) m with rfl|m
    ·exact .inr get_none_size
    ·rcases H₁.ev.fr b m with q|q
     ·exact .inl q
     ·exact .inr (th_of (λ_ _ e=>Heap.get?_push_of_some _ e) b q)
   ·refine th_of (λ_ _ e=>Heap.get?_push_of_some _ e) b (H₁.ev.th b ?_)
    by_cases q:b=s.heap.objs.size
    ·subst q
     refine xEEEA D' λo es ep ho _=>?_
     rw[show h'.get? _=none from e] at ho;exact nn ho
    ·exact (sb.2 b q).symm.trans e
theorem plain_any {pos:Pos} {env:Env} {es:List Expr} (h:es.all noStar1=true):(backTo pos (starEach es env)).any (·.1)=false∧(backTo pos (starEach es env)).all (λx=>!x.1)=true:=by
 induction es with
 |nil=>exact ⟨rfl,rfl⟩
 |cons e r ih=>
  have k:noStar1 e=true∧r.all noStar1=true:=Bool.and_eq_true_iff.mp h
  refine rE (star_cons k.1) ?_
  exact ih k.2
theorem args_of {f:Value} {first:List Value} {pos:Pos} {es:List Expr} {P:List Value→Shared→Prop} {Q:Value→Shared→Prop} {env:Env} (hp:es.all noStar1=true)
 (h:wpAny (model prog w) A (spliced (backTo pos (starEach es env))) P E s)
 (hk:∀h:Heap,K.In h→∃k,(k=Keeper.frame∨k=Keeper.machine∨k=Keeper.boundFrame)∧Looks (model prog w) h (keeperOf f) k)
 (hc:∀vs s',P vs s'→K.In s'.heap∧wpAny (model prog w) A (call f (first ++ vs)) Q E s'):wpAny (model prog w) A (callWith pos f first (backTo pos (starEach es env)) []) Q E s:=by
 refine callWith_of (P:=K.In) (by refine rE ((plain_any hp).1) ?_;rfl) hk ?_
 induction es using List.casesOn with
 |nil=>
  unfold evalArgs
  refine wpAny_bind (wpAny_mono h (λvs s' p=>wpAny_bind (wpAny_pure ?_)) λ_ _ z=>z)
  refine wpAny_holding ?_
  exact wpAny_bind (wpAny_pure (wpAny_bind (wpAny_pure (wpAny_pure (hc vs s' p)))))
 |cons e r=>
  rw[star_cons (Bool.and_eq_true_iff.mp hp).1] at h ⊢
  exact evalArgs_plain (wpAny_mono h (λvs s' p=>hc vs s' p) λ_ _ z=>z)
theorem call_ok (fit:Fit prog w B Γ A F) (H:At prog w B F ρ σ s) {f:Addr} {as:List AV} {vs:List Value} {Q:Post} (h:CallOK prog w B Γ.d f as σ Q Γ.X) (hi:AllIs as vs) :
 wpAny (model prog w) A (call (.ref f) vs) (REx prog w B F ρ Q) (Err prog w B F Γ.X) s:=by
 refine wpAny_call (codeAny_mono (h.ok A F.l s vs fit.room fit.frames fit.handled H.fs.ws hi) λr s' hr=>?_)
 induction r with
 |error e=>
  obtain ⟨v,σ',fl,W,ev,x⟩:=hr
  exact ⟨v,σ',fl.mono H.ev.th,W,H.ev.trans (ev.mono λ_ f=>f.elim),x⟩
 |ok fl=>
  induction fl with
  |ret v=>
   obtain ⟨a,σ',ha,W,ev,q⟩:=hr
   exact ⟨a,σ',ha,H.of rfl W ev,q⟩
  |_=>exact hr.elim
theorem own_call (Gd:Gd prog w K B) {R:Ops} (snd:Snd prog w B R) (fit:Fit prog w B Γ A F) {pos:Pos} {f:Addr} {fa:List AV} {first:List Value} {es:List Expr} {Q:Post} (hk:keepIn K (.ref f)=true) (hp:es.all noStar1=true)
 {P:LPost} (h:evs R Γ ρ es σ P) (hP:∀as σ,P as σ→Γ.call Γ.d f (fa ++ as) σ Q Γ.X) (hf:AllIs fa first) (H:At prog w B F ρ σ s) :
 wpAny (model prog w) A (callWith pos (.ref f) first (backTo pos (starEach es F.env)) []) (REx prog w B F ρ Q) (Err prog w B F Γ.X) s:=by
 refine args_of hp (evs_at snd fit h H) (λh X=>keeps_K hk h X) λvs s' p=>?_
 obtain ⟨as,σ',hi,_,H',q⟩:=p
 exact ⟨X_in Gd H',call_ok fit H' (fit.call _ _ _ _ _ _ (hP as σ' q)) (hf.append hi)⟩
theorem call_attr {o:Expr} {name:Str} {apos pos:Pos} {es:List Expr} {env:Env} {Q:Value→Shared→Prop} (ok:notSuper o=true) (hline:(apos.endLine == pos.line)=true) (hp:plainArgs es=true)
 (h:wpAny (model prog w) A (eval o env) (λov s₁=>∀pl,wpAny (model prog w) A (getMethod ov name pl) (λfx s₂=>wpAny (model prog w) A (callWith pos fx.1 fx.2 (backTo pos (starEach es env)) []) Q E s₂) E s₁) E s) :
 wpAny (model prog w) A (eval (.Call (.Attribute o name apos) es [] pos) env) Q E s:=by
 rw[arm_eval_Call,attrBase ok]
 refine wpAny_bind (wpAny_mono h (λov s₁ h₁=>wpAny_bind (wpAny_standAt ?_)) λ_ _ z=>z)
 unfold plainArgs at hp
 rw[Bool.and_eq_true,decide_eq_true_eq] at hp
 have hform:methodCallForm (es.length + ([]:List Keyword).length) (backTo pos (starEach es env)) (backToKw pos (keywordEach [] env))=true:=by
  unfold methodCallForm
  refine rE ((plain_any hp.2).2) ?_
  have:=hp.1
  refine rE (arm_keywordEach_nil _) ?_
  simp[backToKw]
  lia
 have hpos:methodCallPos true o env apos pos=pure pos:=by unfold methodCallPos;simp[hline]
 unfold methodCall
 (refine rE hform ?_;refine rE hpos ?_)
 refine wpAny_bind (wpAny_holding (wpAny_mono (h₁ _) (λfx s₂ h₂=>?_) λ_ _ z=>z))
 exact wpAny_bind (wpAny_pure h₂)
theorem isi_K (Gd:Gd prog w K B) {D:Addr} {l:List Addr} (e:isaTab.lookup D=some l):plainGet K D "__class__"=true∧hasDictIn K D=true∧findIn K (.ref D) "__class__"=some (some (.builtin "object.__class__"))∧
 specialIn K (.builtin "object.__class__") "__get__"=some (some (.builtin "getset_descriptor.__get__"))∧takesIn K (.builtin "object.__class__")=some true∧mroIn K D (.type "object")=some true∧
 (∀T∈["bool","int","str"],kin_notT K D T=true)∧∀C∈clsAll,if l.contains C then isIn K (.ref D) C=true else kin_not K D C=true:=by
 have h:=Gd.isi
 unfold kIsi at h
 rw[Bool.and_eq_true,Bool.and_eq_true] at h
 have k:=List.all_eq_true.mp h.2 (D,l) (lk_mem e)
 simp only[Bool.and_eq_true,beq_iff_eq] at k h
 obtain ⟨⟨⟨⟨⟨k1,k2⟩,k3⟩,k4⟩,k5⟩,k6⟩:=k
 refine ⟨k1,k2,k3,h.1.1,h.1.2,k4,λT hT=>List.all_eq_true.mp k5 T hT,λC hC=>?_⟩
 have q:=List.all_eq_true.mp k6 C hC
 cases z:l.contains C
 ·rw[z] at q;exact q
 ·rw[z] at q;exact q
theorem isi_at (Gd:Gd prog w K B) (H:At prog w B F ρ σ s) {D d a:Addr} {fs} {l:List Addr} (e:σ a=some (.inst D d fs)) (ei:isaTab.lookup D=some l) {Q:Post} :
 (∀{T:String},T∈["bool","int","str"]→Q (.bool false) σ→wpAny (model prog w) A (call (.builtin "isinstance") [.ref a,.type T]) (REx prog w B F ρ Q) E s)∧
 (∀{C:Addr},C∈clsAll→Q (.bool (l.contains C)) σ→wpAny (model prog w) A (call (.builtin "isinstance") [.ref a,.ref C]) (REx prog w B F ρ Q) E s):=by
 refine xAAAAAAA (isi_K Gd ei) λk1 k2 k3 k4 k5 k6 k7 k8=>?_
 refine xEA (inst_at H.fs.ws.rep e) λod I _=>?_
 have X:=X_in Gd H
 refine ⟨λ{T} hT q=>?_,λ{C} hC q=>?_⟩
 ·refine kin_callT X I (k7 T hT) ?_ k1 k2 k3 k4 k5 k6 ⟨.bool false,σ,rfl,H.tok _,q⟩
  simp only[List.mem_cons,List.not_mem_nil,or_false] at hT
  rcases hT with rfl|rfl|rfl<;>kernel_rfl
 ·have z:=k8 C hC
  cases y:l.contains C
  ·rw[y] at z q
   exact kin_callC X I (by simpa using z) k1 k2 k3 k4 k5 k6 ⟨.bool false,σ,rfl,H.tok _,q⟩
  ·rw[y] at z q
   exact isi_call X (λM=>I.type) (by simpa using z) (by intro q;exact nC Value.ctorIdx q rfl) ⟨.bool true,σ,rfl,H,q⟩
theorem tyOf_e {C:Str} {T:String} (h:tyOf C=some T):C=Str.ofString T∧(T = "bool"∨T = "int"∨T = "str"):=by
 unfold tyOf at h
 induction b1:C == "bool" with
 |true=>rw[b1] at h;(have h:=sJ h;subst h);exact ⟨eq_of_beq b1,.inl rfl⟩
 |false=>
  rw[b1] at h
  induction b2:C == "int" with
  |true=>rw[b2] at h;(have h:=sJ h;subst h);exact ⟨eq_of_beq b2,.inr (.inl rfl)⟩
  |false=>
   rw[b2] at h
   induction b3:C == "str" with
   |true=>rw[b3] at h;(have h:=sJ h;subst h);exact ⟨eq_of_beq b3,.inr (.inr rfl)⟩
   |false=>rw[b3] at h;exact nn h
theorem isa_e {D:Addr} (h:(isa D 0).isSome=true):∃l,isaTab.lookup D=some l:=by
 unfold isa at h
 rw[Option.isSome_map] at h
 exact Option.isSome_iff_exists.mp h
theorem isa_l {D c:Addr} {r:Bool} (h:isa D c=some r):∃l,isaTab.lookup D=some l∧l.contains c=r:=Option.map_eq_some_iff.mp h
theorem isi_cls (Gd:Gd prog w K B) (fit:Fit prog w B Γ A F) (H:At prog w B F ρ σ s) {C:Str} {cp:Pos} {a:AV} {v:Value} {Q:Post} (hC:Γ.nm.lookup C=some .globalImplicit) (n1:(C == ("__debug__":Str))=false) (ha:a.Is v) (h:isiA a C σ Q) :
 wpAny (model prog w) A (spliced [(false,eval (.Name C cp) F.env)]) (λvs s'=>wpAny (model prog w) A (call (.builtin "isinstance") ([] ++ (v :: vs))) (REx prog w B F ρ Q) (Err prog w B F Γ.X) s') (Err prog w B F Γ.X) s:=by
 unfold isiA at h
 induction et:tyOf C with
 |some T=>
  rw[et] at h
  refine onRef_e h ha λa h₁=>?_
  clear h
  obtain ⟨D,d,fs,e,ok,h⟩:=h₁
  obtain ⟨l,el⟩:=isa_e ok
  obtain ⟨rfl,hT⟩:=tyOf_e et
  have k:T∈bnames∧T∈["bool","int","str"]∧bootBuiltins (Str.ofString T)=some (.type T)∧Str.ofString T ≠ "__name__":=by
   rcases hT with rfl|rfl|rfl<;>exact iAAA (dE rfl) (dE rfl) (by decide +kernel) (dE rfl)
  exact spliced_cons (wpAny_Name (ld_bi Gd fit H (x:=T) (v:=.type T) hC k.1 k.2.2.1 (spliced_nil ((isi_at Gd H e el).1 k.2.1 h)) k.2.2.2) n1)
 |none=>
  rw[et] at h
  induction ec:gtab.lookup C with
  |none=>rw[ec] at h;exact h.elim
  |some c=>
   rw[ec] at h
   obtain ⟨hc,h⟩:=chk_iff h
   refine onRef_e h ha λa h=>?_
   obtain ⟨D,d,fs,e,r,er,h⟩:=h
   (refine xEA (isa_l er) λl el=>?_;rintro rfl)
   exact spliced_cons (wpAny_Name (ld_glob Gd fit H hC ec (spliced_nil ((isi_at Gd H e el).2 (List.contains_iff_mem.mp hc) h))) n1)
theorem c_isi (Gd:Gd prog w K B) {R:Ops} (snd:Snd prog w B R) (fit:Fit prog w B Γ A F) (H:At prog w B F ρ σ s) {x:Expr} {C:Str} {p cp pos:Pos} {Q:Post} (hi:Γ.nm.lookup (Str.ofString "isinstance")=some .globalImplicit)
 (hC:Γ.nm.lookup C=some .globalImplicit) (hok:okName C=true) (hp:[x,.Name C cp].all noStar1=true) (h:R.E Γ x ρ σ (qIsi C Q)) :
 wpAny (model prog w) A (eval (.Call (.Name "isinstance" p) [x,.Name C cp] [] pos) F.env) (REx prog w B F ρ Q) (Err prog w B F Γ.X) s:=by
 refine wpAny_Call_NameR (wpAny_Name (ld_bi Gd fit H (x:="isinstance") (v:=.builtin "isinstance") hi (dE rfl) (by decide +kernel) ?_ (dE rfl)))
 refine callWith_builtin (plain_any hp).1 ?_
 refine rE (star_cons (Bool.and_eq_true_iff.mp hp).1) ?_
 exact evalArgs_plain (spliced_cons (snd.E h fit H λa v σ₁ s₁ ha H₁ h₁=>isi_cls Gd fit H₁ hC (okName_iff hok).1 ha h₁))
theorem ints_of:∀{is:List Int} {vs:List Value},AllIs (is.map AV.int) vs→∃xs:Array (Int×Tok),vs.toArray=intItems xs∧xs.toList.map (·.1)=is:=by
 intro is
 induction is with
 |nil=>
  intro vs h
  cases h;exact iEA (#[]) (by simp[intItems]) rfl
 |cons i is ih=>
  intro vs h
  cases h with
  |cons h1 h2=>
   obtain ⟨t,rfl⟩:=h1
   refine xEA (ih h2) λxs e1 e2=>?_
   refine iEA (((i,t) :: xs.toList).toArray) ?_ (by simp[e2])
   simp only[intItems,List.map_toArray,List.map_cons] at e1 ⊢
   have:=congrArg Array.toList e1
   simp only[Array.toList_map] at this
   exact rL this rfl
theorem At.grow {h':Heap} {t:Tok} (H:At prog w B F ρ σ s) (k:∀b o,s.heap.get? b=some o→h'.get? b=some o):At prog w B F ρ σ { s with heap:=h',toks:=t }:=
 H.step (.heap (λb o e _ _=>k b o e) (λb m=>.inl m) (th_of k)) (λb o e=>k b o (H.fs.ws.stays b o e)) (H.fs.ws.rep.keeps λb o e _=>k b o e)
theorem new_grown {o:AO} {h':Heap} {t:Tok} {a:Addr} {Q:Post} (H:At prog w B F ρ σ s) (h:newAt σ o Q) (k:∀b o,s.heap.get? b=some o→h'.get? b=some o) (e:s.heap.get? a=none) (h2:2 < a) (hn:NotInst o) (ho:ORep prog w h' a o) :
 REx prog w B F ρ Q (.ref a) { s with heap:=h',toks:=t }:=by
 have nm:=not_mut_new H.fs.ws.rep e
 have z:σ a=none:=by
  induction q:σ a with
  |none=>rfl
  |some o'=>exact absurd (.inl ⟨o',q⟩) nm
 refine ⟨.ref a,_,rfl,H.step (.heap (λb o e _ _=>k b o e) (λb m=>?_) (th_of k)) (λb o e=>k b o (H.fs.ws.stays b o e)) (H.fs.ws.rep.put hn ho (λx C fs q=>nm (.inr ⟨x,C,fs,q⟩)) ⟨base_none H.fs.ws.stays e,h2⟩ (λb o _ e=>k b o e) λo q=>by rw[e] at q;exact nn q),h a _ (freshAt H.fs.ws e) rfl⟩
 rcases mut_up hn m with rfl|m
 ·exact .inr e
 ·exact .inl m
theorem fit63 {n:Nat} (h:n≤100000):(n:Int) < 2 ^ 63:=by lia
theorem bi_len (Gd:Gd prog w K B) (H:At prog w B F ρ σ s) {a:AV} {v:Value} {Q:Post} (ha:a.Is v) (h:onRef (λa=>LenI σ a Q) a) :
 wpAny (model prog w) A (call (.builtin "len") [v]) (REx prog w B F ρ Q) E s:=by
 refine onRef_e h ha λa h=>?_
 obtain ⟨xs,hr,hz,h⟩:=h
 have sz:∀{vs:List Value},AllIs xs vs→vs.toArray.size=xs.length:=λhi=>by (refine rE List.size_toArray ?_;exact rE hi.length rfl)
 rcases hr with e|e
 ·refine xEEA (pl_rd Gd H e) λvs n hl hi=>?_
  exact Calls.call_len_list (IsL.isList hl) (by rw[sz hi];exact fit63 hz) ⟨.int xs.length,σ,⟨_,by exact rE (sz hi) rfl⟩,H.tok _,h⟩
 ·refine xEA (pt_rd Gd H e) λvs hl hi=>?_
  exact P.len_tuple hl (by rw[sz hi];exact Int.not_le.mpr (fit63 hz)) ⟨.int xs.length,σ,⟨_,by exact rE (sz hi) rfl⟩,H.tok _,h⟩
theorem bi_sum (Gd:Gd prog w K B) (H:At prog w B F ρ σ s) (hh:A.handled=none) {a:AV} {v:Value} {Q:Post} (ha:a.Is v) (h:biA .sum a σ Q) :
 wpAny (model prog w) A (call (.builtin "sum") [v]) (REx prog w B F ρ Q) E s:=by
 refine onRef_e h ha λa h=>?_
 refine xEA h λis e h=>?_
 refine xEEA (pl_rd Gd H e) λvs n hl hi=>?_
 refine xEA (ints_of hi) λxs e1 e2=>?_
 have hl':=IsL.isList hl
 rw[e1] at hl'
 refine sum_intListG hh hl' λh' tk t' k=>?_
 have q:preSum (numAt xs) xs.size=is.sum:=by
  rw[preSum_eq,e2,List.take_of_length_le (by rw[←e2];simp)]
 refine rE q ?_
 exact ⟨.int is.sum,σ,⟨_,rfl⟩,H.grow k,h⟩
theorem bi_abs (H:At prog w B F ρ σ s) {a:AV} {v:Value} {Q:Post} (ha:a.Is v) (h:biA .abs a σ Q) :
 wpAny (model prog w) A (call (.builtin "abs") [v]) (REx prog w B F ρ Q) E s:=by
 refine onInt_e h ha λi t h=>?_
 refine PyProof.Rows.call_abs_int λu tk=>⟨.int i.natAbs,σ,⟨u,?_⟩,H.tok _,h⟩
 congr 1
 split<;>lia
theorem bi_int (H:At prog w B F ρ σ s) {a:AV} {v:Value} {Q:Post} (ha:a.Is v) (h:biA .int a σ Q) :
 wpAny (model prog w) A (call (.type "int") [v]) (REx prog w B F ρ Q) E s:=by
 refine onBool_e h ha λb h=>?_
 exact call_int_bool ⟨.int _,σ,⟨_,rfl⟩,H.tok _,h⟩
theorem kvIs_get {K':Type} {kas:List (K'×AV)} {kvs:List (K'×Value)} (h:KvIs kas kvs):∀{j:Nat} {k:K'} {x:Value},kvs[j]?=some (k,x)→∃a,kas[j]?=some (k,a)∧a.Is x:=by
 induction h with
 |nil=>intro j k x e;simp at e
 |cons h1 _ ih=>
  intro j k x e
  induction j using Nat.casesOn with
  |zero=>simp at e;obtain ⟨rfl,rfl⟩:=e;exact iEA _ rfl h1
  |succ j=>simpa using ih (by simpa using e)
theorem allIs_of:∀{as:List AV} {vs:List Value},as.length=vs.length→(∀(j:Nat) a v,as[j]?=some a→vs[j]?=some v→AV.Is a v)→AllIs as vs:=by
 intro as
 induction as with
 |nil=>intro vs h _;induction vs using List.casesOn with
  |nil=>exact .nil
  |cons=>cases h
 |cons a as ih=>intro vs h k;induction vs using List.casesOn with
  |nil=>cases h
  |cons v vs=>exact .cons (k 0 a v rfl rfl) (ih (Nat.succ.inj h) λj a v e1 e2=>k (j + 1) a v e1 e2)
theorem bi_list (Gd:Gd prog w K B) (H:At prog w B F ρ σ s) (hh:A.handled=none) {a:AV} {v:Value} {Q:Post} (ha:a.Is v) (h:biA .list a σ Q) :
 wpAny (model prog w) A (call (.type "list") [v]) (REx prog w B F ρ Q) E s:=by
 refine onRef_e h ha λa h=>?_
 refine xEAA h λkas e hz h=>?_
 refine xEA (at_rd Gd H e) λkvs D ki=>?_
 obtain ⟨ep,D'⟩:=D.dictAt
 have l:=ki.length
 refine kdl_call (kdl_dict (not_sys H e)) hh D' (by (refine rE sizeLine_eq ?_;refine rL l ?_);exact Nat.le_trans hz (dE rfl)) λh' tk acc' c' k hS hi=>?_
 have acc:AllIs (kas.map λkv=>AV.str kv.1) acc'.toList:=by
  refine allIs_of (by rw[List.length_map,l,Array.length_toList];exact hi.1.symm) λj a v e1 e2=>?_
  refine xEEA (hi.2 j v (by refine rL (Array.getElem?_toList) ?_;exact e2)) λk x e3 e4=>?_
  refine xEA (kvIs_get ki e3) λb e5 _=>?_
  rw[List.getElem?_map,e5] at e1
  (have e1:=sJ e1;subst e1)
  obtain ⟨t,rfl⟩:=Value.isStrOf_shape e4
  exact ⟨t,rfl⟩
 exact new_grown H h k get_none_size H.fs.ws.big2 (λ_ _ _ q=>by exact nC AO.ctorIdx q rfl) ⟨acc'.toList,c',hS,acc⟩
theorem At.turnObj {o₀ o:AO} {a:Addr} {h':Heap} {t:Tok} {ob:Obj} (H:At prog w B F ρ σ s) (e:σ a=some o₀) (hn:NotInst o) (ho:ORep prog w h' a o) (sb:Heap.SameBut a s.heap h') (hob:h'.get? a=some ob) :
 At prog w B F ρ (up σ a o) { s with heap:=h',toks:=t }:=by
 have R:=H.fs.ws.rep
 have m:Mut σ a:=.inl ⟨_,e⟩
 have nB:=R.new a m
 have kp:∀b o,b≠a→s.heap.get? b=some o→h'.get? b=some o:=λb o q z=>(sb.2 b q).trans z
 refine H.step (.heap (λb o z n _=>kp b o (λq=>n (q▸m)) z) (λb mm=>?_) (th_but sb hob)) (λb o z=>kp b o (λq=>by rw[q,nB.1] at z;exact nn z) (H.fs.ws.stays b o z))
  (R.put hn ho (λx C fs q=>by have:=R.off x C a fs q;rw[e] at this;exact nS this) nB kp λob' q=>by refine xEA (mut_obj R m) λo' e' so=>?_;rw[q] at e';(have e':=sJ e';subst e');exact so)
 rcases mut_up hn mm with rfl|mm
 ·exact .inl m
 ·exact .inl mm
theorem own_at (H:At prog w B F ρ σ s) {a:Addr} {o:AO} (e:σ a=some o):ORep prog w s.heap a o:=H.fs.ws.rep.obj a o e
theorem m_append (H:At prog w B F ρ σ s) {a:Addr} {xs:List AV} {x:AV} {v:Value} {Q:Post} {args:List (Bool×Sem Value)} (e:σ a=some (.list xs)) (hz:xs.length≤100000) (hx:x.Is v) (h:Q .none (up σ a (.list (xs ++ [x])))) :
 wpAny (model prog w) A (call (.builtin "list.append") [.ref a,v]) (REx prog w B F ρ Q) E s:=by
 refine xEEA (own_at H e) λvs n hl hi=>?_
 have l:=hi.length
 refine call_meets PySem.F.slot_list_append ⟨_,hl,rfl⟩ PySem.F.entry_list_append (PySem.F.args_list_append_2 _ _) (list_append a vs.toArray n v (by (refine rE List.size_toArray ?_;refine rE sizeLine_eq ?_);lia)) ⟨hl,?_⟩
 have hl':IsL (s.heap.update a (Obj.mapSeq λx=>x.push v)) a (vs.toArray.push v) _:=IsL.update hl λx=>x.push v
 have hl2:=hl'
 rw[List.push_toArray] at hl2
 refine ⟨.none,_,rfl,H.turnObj (o:=.list (xs ++ [x])) (t:=s.toks) e (λ_ _ _ q=>by exact nC AO.ctorIdx q rfl) ⟨vs ++ [v],_,hl2,hi.snoc hx⟩ (Heap.SameBut.update ..) hl',h⟩
theorem m_extend (Gd:Gd prog w K B) (H:At prog w B F ρ σ s) {a b:Addr} {xs ys:List AV} {Q:Post} (e:σ a=some (.list xs)) (e2:rd σ b=some (.list ys)) (hz:xs.length≤100000) (hz2:ys.length≤100000) (h:Q .none (up σ a (.list (xs ++ ys)))) :
 wpAny (model prog w) A (call (.builtin "list.extend") [.ref a,.ref b]) (REx prog w B F ρ Q) E s:=by
 refine xEEA (own_at H e) λvs n hl hi=>?_
 refine xEEA (pl_rd Gd H e2) λws n2 hl2 hi2=>?_
 have l:=hi.length
 have l2:=hi2.length
 refine call_meets PySem.F.slot_list_extend ⟨_,hl,rfl⟩ PySem.F.entry_list_extend (PySem.F.args_list_extend_2 _ _) (AutoSeq1.list_extend_list_list_0 a vs.toArray n b ws.toArray n2
  (by simp[Builtin.List.listTooLong,sizeLine];intro _;lia) (by (refine rE List.size_toArray ?_;refine rE sizeLine_eq ?_);lia) (by (refine rE List.size_toArray ?_;refine rE List.size_toArray ?_;refine rE sizeLine_eq ?_);lia)) ⟨hl,hl2,?_⟩
 have hl':IsL (s.heap.update a (Obj.mapSeq λx=>x ++ ws.toArray)) a (vs.toArray ++ ws.toArray) _:=IsL.update hl λx=>x ++ ws.toArray
 have hl3:=hl'
 rw[List.append_toArray] at hl3
 refine ⟨.none,_,rfl,H.turnObj (o:=.list (xs ++ ys)) (t:=s.toks) e (λ_ _ _ q=>by exact nC AO.ctorIdx q rfl) ⟨vs ++ ws,_,hl3,hi.append hi2⟩ (Heap.SameBut.update ..) hl',h⟩
set_option backward.match.sparseCases false in
noncomputable def strEq (x:Str) (v:Value):Bool:=v.casesOn false false false (λ_=>false) (λ_ _=>false) (λ_ _=>false) (λy _=>y.cps.toList == x.cps.toList) (λ_ _=>false) (λ_=>false) (λ_=>false) λ_=>false
theorem m_index (Gd:Gd prog w K B) (H:At prog w B F ρ σ s) {a:Addr} {xs:List Str} {x:Str} {i:Nat} {t:Tok} {Q:Post} (e:rd σ a=some (.list (xs.map AV.str))) (hf:xs.findIdx? (λy=>decide (y=x))=some i) (hz:xs.length≤1000) (h:Q (.int i) σ) :
 wpAny (model prog w) A (call (.builtin "list.index") [.ref a,.str x t]) (REx prog w B F ρ Q) E s:=by
 refine xEEA (pl_rd Gd H e) λvs n hl hi=>?_
 have l:=hi.length
 rw[List.length_map] at l
 refine xEA (List.findIdx?_eq_some_iff_getElem.mp hf) λhlt hp hbefore=>?_
 have str:∀(j:Nat) (hj:j < vs.length),∃y u,xs[j]?=some y∧vs[j]=.str y u:=λj hj=>by
  refine xEA (hi.getV (i:=j) (v:=vs[j]) (List.getElem?_eq_getElem hj)) λb e1 e2=>?_
  rw[List.getElem?_map,Option.map_eq_some_iff] at e1
  (refine xEA e1 λy e3=>?_;rintro rfl)
  obtain ⟨u,e4⟩:=e2
  exact iEEA y u e3 e4
 have ev:∀j (hj:j < vs.toArray.size),strEq x vs.toArray[j]=decide (xs[j]?=some x):=λj hj=>by
  refine xEEA (str j (by simpa using hj)) λy u e3 e4=>?_
  (refine rE (show vs.toArray[j]=vs[j]'(by simpa using hj) from by simp) ?_;refine rE e4 ?_;refine rE e3 ?_)
  show (y.cps.toList == x.cps.toList)=_
  by_cases q:y=x
  ·subst q;simp
  ·have:¬y.cps=x.cps:=λz=>q (by induction y;induction x;subst z;rfl)
   simp[q,this]
 refine call_meets PySem.F.slot_list_index ⟨_,hl,rfl⟩ PySem.F.entry_list_index (PySem.F.args_list_index_2 _ _) (MeetsSeq.list_index a vs.toArray n (.str x t) (strEq x) (λy hy=>?_) i (by refine rE List.size_toArray ?_;lia) (by lia) ?_ λm hm hlt'=>?_) ⟨hl,?_⟩
 ·obtain ⟨j,hj,e⟩:=List.getElem_of_mem (by simpa using hy:y∈vs)
  refine xEEA (str j hj) λy' u _ e4=>?_
  (refine rL e ?_;refine rE e4 ?_)
  exact PySem.SeqRoads2.EqGives.str y' x u t
 ·refine rE (ev i (by rw[List.size_toArray];lia)) ?_
  refine rE (List.getElem?_eq_getElem hlt) ?_
  simpa using hp
 ·refine rE (ev m hm) ?_
  have:=hbefore m hlt'
  refine rE (List.getElem?_eq_getElem (by lia)) ?_
  simpa using this
 ·exact ⟨.int i,σ,⟨_,rfl⟩,H.tok _,h⟩
theorem m_get (Gd:Gd prog w K B) (H:At prog w B F ρ σ s) {a:Addr} {kvs:List (Str×AV)} {x:Str} {t:Tok} {Q:Post} (e:rd σ a=some (.sdict kvs)) :
 (Q ((kget kvs x).getD .none) σ→wpAny (model prog w) A (call (.builtin "dict.get") [.ref a,.str x t]) (REx prog w B F ρ Q) E s)∧
 (∀{d:AV} {dv:Value},d.Is dv→Q ((kget kvs x).getD d) σ→wpAny (model prog w) A (call (.builtin "dict.get") [.ref a,.str x t,dv]) (REx prog w B F ρ Q) E s):=by
 refine xEA (at_rd Gd H e) λkv D ki=>?_
 have hk:(PySem.strKind prog w).is x (.str x t)=true:=beq_self_eq_true x
 have is:∀{d:AV} {dv:Value},d.Is dv→((kget kvs x).getD d).Is ((valueAt kv x).getD dv):=λhd=>by
  rcases ki.find x with ⟨q1,q2⟩|⟨_,_,q1,q2,q3⟩<;>(refine rE q1 ?_;refine rE q2 ?_)
  ·exact hd
  ·exact q3
 refine ⟨λh=>?_,λ{d dv} hd h=>?_⟩
 ·exact call_meetsIn PySem.F.slot_dict_get D.typeIs PySem.F.entry_dict_get (PySem.F.args_dict_get_2 _ _) (meets_dict_get (PySem.strKind prog w) a hk (not_sys H e)) ⟨_,D.mapOf,⟨_,σ,is (d:=.none) (dv:=.none) rfl,H.tok _,h⟩⟩
 ·exact call_meetsIn PySem.F.slot_dict_get D.typeIs PySem.F.entry_dict_get (PySem.F.args_dict_get_3 _ _ _) (meets_dict_get_default (PySem.strKind prog w) a hk (not_sys H e) dv) ⟨_,D.mapOf,⟨_,σ,is hd,H.tok _,h⟩⟩
theorem m_pop (H:At prog w B F ρ σ s) {a:Addr} {kvs:List (Str×AV)} {k:Str} {x:AV} {t:Tok} {Q:Post} (e:σ a=some (.sdict kvs)) (ex:kget kvs k=some x) (hz:kvs.length≤900) (h:Q x (up σ a (.sdict (kdel kvs k)))) :
 wpAny (model prog w) A (call (.builtin "dict.pop") [.ref a,.str k t]) (REx prog w B F ρ Q) E s:=by
 refine xEA (own_at H e) λkv D ki=>?_
 have l:=ki.length
 have hk:(PySem.strKind prog w).is k (.str k t)=true:=beq_self_eq_true k
 rcases ki.find k with ⟨z,_⟩|⟨_,v,z1,z2,z3⟩
 ·rw[ex] at z;exact nS z
 rw[ex] at z1;(have z1:=sJ z1;subst z1)
 refine call_meetsIn PySem.F.slot_dict_pop D.typeIs PySem.F.entry_dict_pop (PySem.F.args_dict_pop_2 _ _) (meets_dict_pop_there (PySem.strKind prog w) a hk [] (.inl rfl) (by rfl)) ⟨kv,v,D,by refine rE sizeLine_eq ?_;lia,z2,λh' D' sb=>?_⟩
 refine xEEEA (id D') λo es ep ho _=>?_
 exact ⟨x,_,z3,H.turnObj (o:=.sdict (kdel kvs k)) e (λ_ _ _ q=>by exact nC AO.ctorIdx q rfl) ⟨_,D',ki.del k⟩ sb ho,h⟩
noncomputable def MeKP.id:MeK→String
 |.app=>"list.append"
 |.ext=>"list.extend"
 |.idx=>"list.index"
 |.get=>"dict.get"
 |.pop=>"dict.pop"
theorem methA_at (Gd:Gd prog w K B) (H:At prog w B F ρ σ s) {a:Addr} {m:MeK} {as:List AV} {vs:List Value} {Q:Post} (h:methA a m as σ Q) (hi:AllIs as vs) :
 wpAny (model prog w) A (call (.builtin m.id) (.ref a :: vs)) (REx prog w B F ρ Q) E s:=by
 induction m with
 |app=>
  refine on1_e h hi λx v hx h=>?_
  obtain ⟨xs,e,hz,h⟩:=h
  exact m_append (args:=[]) H e hz hx h
 |ext=>
  refine on1_e h hi λx v hx h=>onRef_e h hx λb h=>?_
  obtain ⟨_,xs,ys,e,e2,hz,hz2,h⟩:=h
  exact m_extend Gd H e e2 hz hz2 h
 |idx=>
  refine on1_e h hi λx v hx h=>onStr_e h hx λy t h=>?_
  obtain ⟨xs,i,e,hf,hz,h⟩:=h
  exact m_index Gd H e hf hz h
 |get=>
  cases hi with
  |nil=>exact h.elim
  |cons h1 r=>cases r with
   |nil=>
    refine onStr_e h h1 λy t h=>?_
    obtain ⟨kvs,e,h⟩:=h
    exact (m_get Gd H e).1 h
   |cons h3 r=>cases r with
    |nil=>
     refine onStr_e h h1 λy t h=>?_
     obtain ⟨kvs,e,h⟩:=h
     exact (m_get Gd H e).2 h3 h
    |cons=>exact h.elim
 |pop=>
  refine on1_e h hi λx v hx h=>onStr_e h hx λy t h=>?_
  obtain ⟨kvs,x,e,ex,hz,h⟩:=h
  exact m_pop H e ex hz h
noncomputable def DictSnd (prog:Program) (w:World) (B:Heap):Prop:=∀{A:Around} {F:FQ} {ρ:Loc} {σ:AH} {s:Shared} {E:Value→Shared→Prop} {a:Addr} {Q:Post},DictI σ a Q→At prog w B F ρ σ s→A.handled=none→A.units < cLine→
 wpAny (model prog w) A (call (.type "dict") [.ref a]) (REx prog w B F ρ Q) E s
theorem bkOf_e {id:Str} {k:BK} (h:bkOf id=some k):id=Str.ofString k.name:=by
 unfold bkOf at h
 induction b1:id == "len" with
 |true=>rw[b1] at h;(have h:=sJ h;subst h);exact eq_of_beq b1
 |false=>
 rw[b1] at h
 induction b2:id == "int" with
 |true=>rw[b2] at h;(have h:=sJ h;subst h);exact eq_of_beq b2
 |false=>
 rw[b2] at h
 induction b3:id == "sum" with
 |true=>rw[b3] at h;(have h:=sJ h;subst h);exact eq_of_beq b3
 |false=>
 rw[b3] at h
 induction b4:id == "list" with
 |true=>rw[b4] at h;(have h:=sJ h;subst h);exact eq_of_beq b4
 |false=>
 rw[b4] at h
 induction b5:id == "dict" with
 |true=>rw[b5] at h;(have h:=sJ h;subst h);exact eq_of_beq b5
 |false=>
 rw[b5] at h
 induction b6:id == "abs" with
 |true=>rw[b6] at h;(have h:=sJ h;subst h);exact eq_of_beq b6
 |false=>rw[b6] at h;exact nn h
theorem bi_at (Gd:Gd prog w K B) (hD:DictSnd prog w B) (fit:Fit prog w B Γ A F) (H:At prog w B F ρ σ s) {k:BK} {a:AV} {v:Value} {Q:Post} (ha:a.Is v) (h:biA k a σ Q):wpAny (model prog w) A (call k.val [v]) (REx prog w B F ρ Q) (Err prog w B F Γ.X) s:=by
 induction k with
 |len=>exact bi_len Gd H ha h
 |int=>exact bi_int H ha h
 |sum=>exact bi_sum Gd H fit.handled ha h
 |list=>exact bi_list Gd H fit.handled ha h
 |dict=>
  refine onRef_e h ha λa h=>?_
  exact hD h H fit.handled (units_lt fit.room)
 |abs=>exact bi_abs H ha h
theorem BKP.in_ (k:BK):k.name∈bnames∧bootBuiltins (Str.ofString k.name)=some k.val∧Str.ofString k.name ≠ "__name__"∧(Str.ofString k.name == ("__debug__":Str))=false∧(k.val=.builtin k.name∨k.val=.type k.name):=by
 induction k<;>exact iAAAA (dE rfl) (by decide +kernel) (dE rfl) (dE rfl) (by first|exact .inl rfl|exact .inr rfl)
theorem c_bi (Gd:Gd prog w K B) (hD:DictSnd prog w B) {R:Ops} (snd:Snd prog w B R) (fit:Fit prog w B Γ A F) (H:At prog w B F ρ σ s) {x:Expr} {id:Str} {p pos:Pos} {k:BK} {Q:Post} (hi:Γ.nm.lookup id=some .globalImplicit)
 (hp:[x].all noStar1=true) (hb:bkOf id=some k) (h:R.E Γ x ρ σ (qBi k Q)) :
 wpAny (model prog w) A (eval (.Call (.Name id p) [x] [] pos) F.env) (REx prog w B F ρ Q) (Err prog w B F Γ.X) s:=by
 obtain rfl:=bkOf_e hb
 refine xAAAA k.in_ λe1 e2 e3 e4 e5=>?_
 refine wpAny_Call_NameR (wpAny_Name (ld_bi Gd fit H hi e1 e2 ?_ e3) e4)
 refine rE (star_cons (Bool.and_eq_true_iff.mp hp).1) ?_
 have arg:=snd.E h fit H λa v σ₁ s₁ ha H₁ h₁=>bi_at Gd hD fit H₁ ha h₁
 rcases e5 with e5|e5
 ·rw[e5] at arg ⊢;exact callWith_builtin1 arg
 ·rw[e5] at arg ⊢;exact callWith_type1 arg
theorem meth_in (Gd:Gd prog w K B) {C:Addr} {m:Str} {g:Addr} (e:methodOf C m=some g):plainGet K C ""=true∧findIn K (.ref C) m=some (some (.ref g))∧isFn K (.ref g)=true∧keepIn K (.ref g)=true:=by
 unfold methodOf at e
 refine xEA (Option.bind_eq_some_iff.mp e) λl e1 e2=>?_
 have h:=List.all_eq_true.mp Gd.meth (C,l) (lk_mem e1)
 simp only[Bool.and_eq_true] at h
 have k:=List.all_eq_true.mp h.2 (m,g) (lk_mem e2)
 simp only[Bool.and_eq_true,beq_iff_eq] at k
 exact iAAA h.1.1 k.1.1 k.1.2 k.2
theorem meOf_e {m:Str} {k:MeK} (h:meOf m=some k):m=Str.ofString k.name:=by
 unfold meOf at h
 induction b1:m == "append" with
 |true=>rw[b1] at h;(have h:=sJ h;subst h);exact eq_of_beq b1
 |false=>
 rw[b1] at h
 induction b2:m == "extend" with
 |true=>rw[b2] at h;(have h:=sJ h;subst h);exact eq_of_beq b2
 |false=>
 rw[b2] at h
 induction b3:m == "index" with
 |true=>rw[b3] at h;(have h:=sJ h;subst h);exact eq_of_beq b3
 |false=>
 rw[b3] at h
 induction b4:m == "get" with
 |true=>rw[b4] at h;(have h:=sJ h;subst h);exact eq_of_beq b4
 |false=>
 rw[b4] at h
 induction b5:m == "pop" with
 |true=>rw[b5] at h;(have h:=sJ h;subst h);exact eq_of_beq b5
 |false=>rw[b5] at h;exact nn h
theorem meth_bi (Gd:Gd prog w K B) {R:Ops} (snd:Snd prog w B R) (fit:Fit prog w B Γ A F) (H:At prog w B F ρ σ s) {T:String} {k:MeK} {a:Addr} {pos:Pos} {pl:Sem Bool} {es:List Expr} {Q:Post} (hp:es.all noStar1=true) (hT:s.TypeIs (.ref a) T)
 (hd:∀b,Value.ref a=.ref b→∃o,s.heap.get? b=some o∧o.dict=none) (pa:PlainAttrs T) (sl:Slot T (Str.ofString k.name) k.id) (ty:typeOf (.builtin k.id)=pure (.type "method_descriptor")) (hev:evs R Γ ρ es σ (qMethA a k Q)) :
 wpAny (model prog w) A (getMethod (.ref a) (Str.ofString k.name) pl) (λfx s₂=>wpAny (model prog w) A (callWith pos fx.1 fx.2 (backTo pos (starEach es F.env)) []) (REx prog w B F ρ Q) (Err prog w B F Γ.X) s₂) (Err prog w B F Γ.X) s:=by
 refine getMethod_builtin hT pa sl ty hd ?_
 refine callWith_builtin (plain_any hp).1 ?_
 have done:wpAny (model prog w) A (spliced (backTo pos (starEach es F.env))) (λvs s'=>wpAny (model prog w) A (call (.builtin k.id) ([.ref a] ++ vs)) (REx prog w B F ρ Q) (Err prog w B F Γ.X) s') (Err prog w B F Γ.X) s:=
  wpAny_mono (evs_at snd fit hev H) (λvs s' p=>by induction p with|mk as σ' hi _ H' q=>exact methA_at Gd H' q hi) λ_ _ z=>z
 induction es using List.casesOn with
 |nil=>
  unfold evalArgs
  exact wpAny_bind (wpAny_mono done (λvs s' p=>wpAny_bind (wpAny_pure (wpAny_holding (wpAny_bind (wpAny_pure (wpAny_bind (wpAny_pure (wpAny_pure p)))))))) λ_ _ z=>z)
 |cons e r=>
  rw[star_cons (Bool.and_eq_true_iff.mp hp).1] at done ⊢
  exact evalArgs_plain done
theorem meth_own (Gd:Gd prog w K B) {R:Ops} (snd:Snd prog w B R) (fit:Fit prog w B Γ A F) (H:At prog w B F ρ σ s) {a:Addr} {m:Str} {pos:Pos} {pl:Sem Bool} {es:List Expr} {Q:Post} (hp:es.all noStar1=true) (h:MethI R es m Γ ρ σ a Q) :
 wpAny (model prog w) A (getMethod (.ref a) m pl) (λfx s₂=>wpAny (model prog w) A (callWith pos fx.1 fx.2 (backTo pos (starEach es F.env)) []) (REx prog w B F ρ Q) (Err prog w B F Γ.X) s₂) (Err prog w B F Γ.X) s:=by
 obtain ⟨C,d,fs,e,g,eg,hn,hev⟩:=h
 refine xAAA (meth_in Gd eg) λk1 k2 k3 k4=>?_
 refine xEA (inst_at H.fs.ws.rep e) λod I hod=>?_
 refine xAEA (H.fs.ws.rep.obj a _ e) λ_ kvs D kv=>?_
 have l:=lookIn_dictOf D hod m
 rcases kv.find m with ⟨_,z⟩|⟨_,_,z,_⟩
 ·rw[z] at l
  exact method_fn (X_in Gd H) I (plainGet_of (name:=m) k1).1 (plainGet_of (name:=m) k1).2 k2 (beq_iff_eq.mp k3) (by show (lookIn m od).map _=_;refine rE l ?_;rfl) (own_call Gd snd fit (fa:=[.ref a]) k4 hp hev (λ_ _ z=>z) (.cons (a:=.ref a) rfl .nil) H)
 ·exact nn (hn.symm.trans z)
theorem c_meth (Gd:Gd prog w K B) {R:Ops} (snd:Snd prog w B R) (fit:Fit prog w B Γ A F) (H:At prog w B F ρ σ s) {o:Expr} {m:Str} {apos pos:Pos} {es:List Expr} {Q:Post} (ok:notSuper o=true) (hline:(apos.endLine == pos.line)=true) (hp:plainArgs es=true)
 (h:R.E Γ o ρ σ (qCallM R es m Γ ρ Q)) :
 wpAny (model prog w) A (eval (.Call (.Attribute o m apos) es [] pos) F.env) (REx prog w B F ρ Q) (Err prog w B F Γ.X) s:=by
 have hp2:=(Bool.and_eq_true_iff.mp hp).2
 refine call_attr ok hline hp (snd.E h fit H λa ov σ₁ s₁ ha H₁ h₁ pl=>?_)
 refine onRef_e h₁ ha λa h₁=>?_
 induction b1:meOf m with
 |none=>rw[b1] at h₁;exact meth_own Gd snd fit H₁ hp2 h₁
 |some k=>
  rw[b1] at h₁
  obtain rfl:=meOf_e b1
  have li:k.isL=true→s₁.TypeIs (.ref a) "list"∧∀b,Value.ref a=.ref b→∃o,s₁.heap.get? b=some o∧o.dict=none:=λe=>by
   have h:=h₁.1
   rw[e] at h
   obtain ⟨xs,e⟩:=h
   refine xEEA (pl_rd Gd H₁ e) λvs n hl _=>?_
   exact ⟨⟨_,hl,rfl⟩,λb q=>by cases q;exact iEA _ hl rfl⟩
  have di:k.isL=false→s₁.TypeIs (.ref a) "dict"∧∀b,Value.ref a=.ref b→∃o,s₁.heap.get? b=some o∧o.dict=none:=λe=>by
   have h:=h₁.1
   rw[e] at h
   obtain ⟨xs,e⟩:=h
   refine xEA (at_rd Gd H₁ e) λkv D _=>?_
   exact ⟨D.typeIs,D.mapOf.noDict⟩
  have hev:=h₁.2
  clear h₁
  induction k with
  |app=>exact meth_bi (k:=.app) Gd snd fit H₁ hp2 (li rfl).1 (li rfl).2 PySem.F.plainAttrs_list PySem.F.slot_list_append PySem.F.type_list_append hev
  |ext=>exact meth_bi (k:=.ext) Gd snd fit H₁ hp2 (li rfl).1 (li rfl).2 PySem.F.plainAttrs_list PySem.F.slot_list_extend PySem.F.type_list_extend hev
  |idx=>exact meth_bi (k:=.idx) Gd snd fit H₁ hp2 (li rfl).1 (li rfl).2 PySem.F.plainAttrs_list PySem.F.slot_list_index PySem.F.type_list_index hev
  |get=>exact meth_bi (k:=.get) Gd snd fit H₁ hp2 (di rfl).1 (di rfl).2 PySem.F.plainAttrs_dict PySem.F.slot_dict_get PySem.F.type_dict_get hev
  |pop=>exact meth_bi (k:=.pop) Gd snd fit H₁ hp2 (di rfl).1 (di rfl).2 PySem.F.plainAttrs_dict PySem.F.slot_dict_pop PySem.F.type_dict_pop hev
theorem cattr_in {c:Addr} {m:Str} {g:Addr} (e:cattr c m=some g):c=40∧m = "__init__"∧g=37:=by
 unfold cattr at e
 split at e
 ·rename_i h
  rw[Bool.and_eq_true,decide_eq_true_eq] at h
  (have e:=sJ e;subst e);exact iAA h.1 (eq_of_beq h.2) rfl
 ·exact nn e
theorem c_cls (Gd:Gd prog w K B) {R:Ops} (snd:Snd prog w B R) (fit:Fit prog w B Γ A F) (H:At prog w B F ρ σ s) {o:Expr} {m:Str} {apos pos:Pos} {es:List Expr} {c g:Addr} {Q:Post} (ok:notSuper o=true) (hline:(apos.endLine == pos.line)=true) (hp:plainArgs es=true)
 (hg:cattr c m=some g) (h:R.E Γ o ρ σ (qCallC R es c g Γ ρ Q)) :
 wpAny (model prog w) A (eval (.Call (.Attribute o m apos) es [] pos) F.env) (REx prog w B F ρ Q) (Err prog w B F Γ.X) s:=by
 (refine xAA (cattr_in hg) ?_;rintro rfl rfl rfl)
 refine call_attr ok hline hp (snd.E h fit H λa ov σ₁ s₁ ha H₁ h₁ pl=>?_)
 refine onRef_e h₁ ha λa h₁=>?_
 obtain ⟨ea,hev⟩:=chk_iff h₁
 have e:=eq_of_beq ea
 subst e
 have kc:=Gd.cat
 unfold kCat at kc
 simp only[Bool.and_eq_true,beq_iff_eq] at kc
 obtain ⟨⟨⟨⟨k1,k2⟩,k3⟩,k4⟩,k5⟩:=kc
 have X:=X_in Gd H₁
 induction ev:findCls K (.ref 40) (.type "type") "__init__" with
 |none=>rw[ev] at k3;exact nF k3
 |some x=>
 induction x with
 |get=>rw[ev] at k3;exact nF k3
 |val v=>
 rw[ev] at k3
 have e3:=eq_of_beq (show (v == .ref 37)=true from k3)
 subst e3
 exact method_cls X k4 (cls_value (s:=s₁) X k2 ev rfl (own_call Gd snd fit (fa:=[]) (first:=[]) k5 (Bool.and_eq_true_iff.mp hp).2 hev (λ_ _ z=>z) .nil (H₁.tok _)))
noncomputable def LawSnd (prog:Program) (w:World) (B:Heap) (R:Ops):Prop:=∀{Γ:Cx} {A:Around} {F:FQ} {ρ:Loc} {σ:AH} {s:Shared} {p pos lpos:Pos} {params:Arguments} {body:Expr} {sc:Scope} {Q:Post},
 Γ.nm.lookup (Str.ofString "_law_error")=some .globalImplicit→lamOk Γ params sc=true→LawI R body sc Γ ρ σ Q→Fit prog w B Γ A F→At prog w B F ρ σ s→
 wpAny (model prog w) A (eval (.Call (.Name "_law_error" p) [.Lambda params body sc lpos] [] pos) F.env) (REx prog w B F ρ Q) (Err prog w B F Γ.X) s
theorem glob_keep (Gd:Gd prog w K B) {a:Addr} (h:isGlob a=true):keepIn K (.ref a)=true:=by
 unfold isGlob at h
 rw[Bool.and_eq_true] at h
 refine xEA (List.any_eq_true.mp h.2) λp hp e=>?_
 have k:=List.all_eq_true.mp Gd.glob p hp
 simp only[Bool.and_eq_true,Bool.or_eq_true,Bool.not_eq_true'] at k
 have q:=eq_of_beq e
 rw[q] at k
 exact k.2.resolve_left (by refine rE h.1 ?_;exact dE rfl)
inductive FnKd:Expr→Prop
 |name {x p}:FnKd (.Name x p)
 |attr {o n p}:FnKd (.Attribute o n p)
theorem call_kinds {R:Ops} {f:Expr} {args:List Expr} {pos:Pos} {Q:Post} (h:callA R Γ f args pos ρ σ Q):FnKd f:=by
 induction f using Expr.casesOn with
 |Name=>exact .name
 |Attribute=>exact .attr
 |_=>exact False.elim h
inductive LmK:Expr→Prop
 |lam {a b c d}:LmK (.Lambda a b c d)
theorem lam_kinds {R:Ops} {f:Expr} {Q:Post} (h:lawL R f Γ ρ σ Q):LmK f:=by
 induction f using Expr.casesOn with
 |Lambda=>exact .lam
 |_=>exact False.elim h
inductive NmK:Expr→Prop
 |name {x p}:NmK (.Name x p)
theorem isi_kinds {R:Ops} {id:Str} {x c:Expr} {Q:Post} (h:isiB R id x c Γ ρ σ Q):NmK c:=by
 induction c using Expr.casesOn with
 |Name=>exact .name
 |_=>exact False.elim h
theorem call_var (Gd:Gd prog w K B) {R:Ops} (snd:Snd prog w B R) {id:Str} {p pos:Pos} {args:List Expr} {Q:Post} (fit:Fit prog w B Γ A F) (H:At prog w B F ρ σ s) (hp:args.all noStar1=true) (hk:Γ.nm.lookup id=some .local∨Γ.nm.lookup id=some .cell∨Γ.nm.lookup id=some .free)
 (n1:(id == ("__debug__":Str))=false) (n2:(id == ("__classdict__":Str))=false) (h:callV R id args Γ ρ σ Q) :
 wpAny (model prog w) A (eval (.Call (.Name id p) args [] pos) F.env) (REx prog w B F ρ Q) (Err prog w B F Γ.X) s:=by
 unfold callV at h
 induction ea:ρ.get id with
 |none=>rw[ea] at h;exact h.elim
 |some a=>
  rw[ea] at h
  refine wpAny_Call_NameR (wpAny_Name (ld_var fit H hk ea n2 λv hv=>?_) n1)
  refine onRef_e h hv λa h=>?_
  obtain ⟨g,h⟩:=chk_iff h
  exact own_call Gd snd fit (fa:=[]) (first:=[]) (glob_keep Gd g) hp h (λ_ _ z=>z) .nil H
theorem call_bi (Gd:Gd prog w K B) (hD:DictSnd prog w B) {R:Ops} (hL:LawSnd prog w B R) (snd:Snd prog w B R) {id:Str} {p pos:Pos} {args:List Expr} {Q:Post} (fit:Fit prog w B Γ A F) (H:At prog w B F ρ σ s) (hp:args.all noStar1=true) (hi:Γ.nm.lookup id=some .globalImplicit)
 (h:callB R id args Γ ρ σ Q) :
 wpAny (model prog w) A (eval (.Call (.Name id p) args [] pos) F.env) (REx prog w B F ρ Q) (Err prog w B F Γ.X) s:=by
 induction args using List.casesOn with
 |nil=>exact h.elim
 |cons x r=>induction r using List.casesOn with
  |nil=>
   unfold callB callB1 at h
   induction b:bkOf id with
   |some k=>rw[b] at h;exact c_bi Gd hD snd fit H hi hp b h
   |none=>
    rw[b] at h
    obtain ⟨e,h₁⟩:=chk_iff h
    clear h
    cases lam_kinds h₁ with
    |lam=>
     obtain ⟨k,h₂⟩:=chk_iff h₁
     clear h₁
     obtain rfl:=eq_of_beq e
     exact hL hi k h₂ fit H
  |cons c r=>induction r using List.casesOn with
   |cons=>exact h.elim
   |nil=>
    unfold callB at h
    cases isi_kinds h with
    |name=>
     obtain ⟨k,h₁⟩:=chk_iff h
     clear h
     simp only[Bool.and_eq_true,beq_iff_eq] at k
     obtain ⟨⟨rfl,k2⟩,k3⟩:=k
     exact c_isi Gd snd fit H hi k2 k3 hp h₁
theorem call_name (Gd:Gd prog w K B) (hD:DictSnd prog w B) {R:Ops} (hL:LawSnd prog w B R) (snd:Snd prog w B R) {id:Str} {p pos:Pos} {args:List Expr} {Q:Post} (fit:Fit prog w B Γ A F) (H:At prog w B F ρ σ s) (hp:args.all noStar1=true) (okn:okName id=true)
 (h:callN R id args Γ ρ σ Q) :
 wpAny (model prog w) A (eval (.Call (.Name id p) args [] pos) F.env) (REx prog w B F ρ Q) (Err prog w B F Γ.X) s:=by
 have n:=okName_iff okn
 unfold callN at h
 induction hi:Γ.nm.lookup id with
 |none=>rw[hi] at h;exact h.elim
 |some k=>
  rw[hi] at h
  induction k with
  |globalImplicit=>
   unfold callG at h
   induction ea:gtab.lookup id with
   |none=>rw[ea] at h;exact call_bi Gd hD hL snd fit H hp hi h
   |some a=>
    rw[ea] at h
    obtain ⟨g,h⟩:=chk_iff h
    refine wpAny_Call_NameR (wpAny_Name (ld_glob Gd fit H hi ea ?_) n.1)
    exact own_call Gd snd fit (fa:=[]) (first:=[]) ((gtab_in Gd ea).2 g) hp h (λ_ _ z=>z) .nil H
  |«local»=>exact call_var Gd snd fit H hp (.inl hi) n.1 n.2 h
  |free=>exact call_var Gd snd fit H hp (.inr (.inr hi)) n.1 n.2 h
  |_=>exact h.elim
theorem e_call (Gd:Gd prog w K B) (hD:DictSnd prog w B) {R:Ops} (hL:LawSnd prog w B R) (snd:Snd prog w B R) {f:Expr} {args:List Expr} {kws pos} {Q:Post} (h0:stepE R Γ (.Call f args kws pos) ρ σ Q) (fit:Fit prog w B Γ A F) (H:At prog w B F ρ σ s) :
 wpAny (model prog w) A (eval (.Call f args kws pos) F.env) (REx prog w B F ρ Q) (Err prog w B F Γ.X) s:=by
 obtain ⟨ok,h⟩:=chk_iff h0
 clear h0
 rw[Bool.and_eq_true] at ok
 obtain ⟨ok1,hp⟩:=ok
 obtain rfl:kws=[]:=List.isEmpty_iff.mp ok1
 cases call_kinds h with
 |name=>
  obtain ⟨okn,h⟩:=chk_iff h
  exact call_name Gd hD hL snd fit H (Bool.and_eq_true_iff.mp hp).2 okn h
 |@attr o m p=>
  obtain ⟨k,h⟩:=chk_iff h
  rw[Bool.and_eq_true] at k
  unfold callM at h
  induction ec:clsName o with
  |none=>rw[ec] at h;exact c_meth Gd snd fit H k.2 k.1 hp h
  |some c=>
   rw[ec] at h
   dsimp only at h
   induction eg:cattr c m with
   |none=>rw[eg] at h;exact h.elim
   |some g=>rw[eg] at h;exact c_cls Gd snd fit H k.2 k.1 hp eg h
theorem set_li {l:Addr} {items:Array Value} {n:Nat} {k:Int} {t:Tok} {v:Value} {Q:Unit→Shared→Prop} (hl:IsL s.heap l items n) (h0:0≤k) (hfit:k < 2 ^ 63) (hn:k < items.size)
 (hQ:Q () { s with heap:=s.heap.update l (Obj.mapSeq (·.setIfInBounds k.toNat v)) }):wpAny (model prog w) A (setItem (.ref l) (.int k t) v) Q E s:=by
 have hL:=IsL.isList hl
 unfold setItem
 try with_reducible refine wpAny_holding ?_
 first|refine wpAny_bind (wpAny_pure ?_)|skip
 refine wpAny_bind (wpAny_sequenceKey hL.typeIs (dE rfl) ?_)
 refine wpAny_bind (wpAny_callSpecial?_slot (name:="__setitem__") hL.typeIs slot_list_setitem
  (wpAny_call_entry slot_list_setitem hL.typeIs entry_list_setitem ?_ (args_list_setitem _ _ _)))
 show wpAny _ _ (Builtin.List.listSubscript? (.int k t) >>= _) _ _ s
 refine wpAny_bind (wpAny_listSubscript_int (fitsIndex_of h0 hfit) ?_)
 clear hfit
 obtain ⟨j,rfl⟩:=Int.eq_ofNat_of_zero_le h0
 have hj:j < items.size:=by lia
 have hx':items[j]?=some items[j]:=Array.getElem?_eq_getElem hj
 refine wpAny_bind (wpAny_bind (wpAny_seqItemAt hl rfl (wpAny_pure ?_)))
 refine rE hx' ?_
 refine wpAny_bind (wpAny_setSeqItemAt hl rfl ?_)
 first
  |exact wpAny_bind (wpAny_pure (wpAny_pure ⟨.none,rfl,wpAny_pure hQ⟩))
  |exact wpAny_pure ⟨.none,rfl,wpAny_pure hQ⟩
theorem allIs_set {as:List AV} {vs:List Value} (h:AllIs as vs):∀(j:Nat) {a:AV} {v:Value},a.Is v→AllIs (as.set j a) (vs.set j v):=by
 induction h with
 |nil=>intro j a v _;exact .nil
 |cons h1 h2 ih=>
  intro j a v hv
  induction j using Nat.casesOn with
  |zero=>exact .cons hv h2
  |succ j=>exact .cons h1 (ih j hv)
inductive RAx (prog:Program) (w:World) (B:Heap) (F:FQ) (K:EPost) (u:Unit) (s':Shared):Prop
 |mk (ρ':Loc) (σ':AH) (H:At prog w B F ρ' σ' s') (q:K ρ' σ'):RAx prog w B F K u s'
inductive RUx (prog:Program) (w:World) (B:Heap) (F:FQ) (ρ:Loc) (K:AH→Prop) (u:Unit) (s':Shared):Prop
 |mk (σ':AH) (H:At prog w B F ρ σ' s') (q:K σ'):RUx prog w B F ρ K u s'
theorem setItem_at (H:At prog w B F ρ σ s) {a b c:AV} {u v x:Value} {k:AH→Prop} (h:setItemA a b c σ k) (ha:a.Is u) (hb:b.Is v) (hc:c.Is x):wpAny (model prog w) A (setItem u v x) (RUx prog w B F ρ k) E s:=by
 refine onRef_e h ha λa h=>?_
 induction b with
 |int i=>
  obtain ⟨t,rfl⟩:=hb
  obtain ⟨xs,e,h0,hlt,hj,h⟩:=h
  refine xEEA (own_at H e) λvs n hl hi=>?_
  obtain ⟨j,rfl⟩:=Int.eq_ofNat_of_zero_le h0
  refine set_li hl h0 (Int.lt_trans hlt (dE rfl)) (by (refine rE List.size_toArray ?_;refine rL hi.length ?_);exact Int.ofNat_lt.mpr hj) ?_
  have hl':IsL (s.heap.update a (Obj.mapSeq (·.setIfInBounds j x))) a (vs.toArray.setIfInBounds j x) _:=IsL.update hl (·.setIfInBounds j x)
  have hl2:=hl'
  rw[List.setIfInBounds_toArray] at hl2
  exact ⟨_,H.turnObj (o:=.list (xs.set j c)) (t:=s.toks) e (λ_ _ _ q=>by exact nC AO.ctorIdx q rfl) ⟨vs.set j x,_,hl2,allIs_set hi j hc⟩ (Heap.SameBut.update ..) hl',h⟩
 |str y=>
  obtain ⟨t,rfl⟩:=hb
  obtain ⟨kvs,e,hz,h⟩:=h
  refine xEA (own_at H e) λkv D ki=>?_
  refine wpAny_setItem_pairs (knd:=PySem.strKind prog w) (by exact beq_self_eq_true _) D (λh' D' sb=>?_) (by (refine rE sizeLine_eq ?_;refine rL ki.length ?_);lia)
  refine xEEEA (id D') λo es ep ho _=>?_
  exact ⟨_,H.turnObj (o:=.sdict _) e (λ_ _ _ q=>by exact nC AO.ctorIdx q rfl) ⟨_,D',ki.put _ hc⟩ sb ho,h⟩
 |_=>exact h.elim
inductive TgK:Expr→Prop
 |name {x p}:TgK (.Name x p)
 |attr {o n p}:TgK (.Attribute o n p)
 |sub {o i p}:TgK (.Subscript o i p)
theorem asg1_kinds {R:Ops} {t:Expr} {a:AV} {k:Loc→AH→Prop} (h:asg1 R Γ t a ρ σ k):TgK t:=by
 induction t using Expr.casesOn with
 |Name=>exact .name
 |Attribute=>exact .attr
 |Subscript=>exact .sub
 |_=>exact False.elim h
theorem asg1_at (Gd:Gd prog w K B) {R:Ops} (snd:Snd prog w B R) (fit:Fit prog w B Γ A F) {t:Expr} {a:AV} {v:Value} {k:Loc→AH→Prop} (h:asg1 R Γ t a ρ σ k) (ha:a.Is v) (H:At prog w B F ρ σ s) :
 wpAny (model prog w) A (assign t F.env v) (RAx prog w B F k) (Err prog w B F Γ.X) s:=by
 cases asg1_kinds h with
 |name=>
  obtain ⟨ok,h⟩:=chk_iff h
  rw[arm_assign_Name]
  exact wpAny_bind (wpAny_standAt (wpAny_bindName (st_var fit H ok ha λs' H'=>⟨_,_,H',h⟩)))
 |attr=>
  obtain ⟨ok,h⟩:=chk_iff h
  rw[arm_assign_Attribute]
  refine wpAny_bind (wpAny_holding (snd.E h fit H λb u σ₁ s₁ hb H₁ h₁=>?_))
  refine setAttrA_e h₁ hb λa C d fs e ok' hz h₁=>?_
  exact wpAny_bind (wpAny_standAt (wpAny_bind (wpAny_holding (set_attr Gd H₁ e ok' ha hz λs' H'=>wpAny_release ⟨ρ,_,H',h₁⟩))))
 |sub=>
  obtain ⟨ok,h⟩:=chk_iff h
  rw[arm_assign_Subscript]
  refine wpAny_bind (wpAny_holding (snd.E h fit H λb u σ₁ s₁ hb H₁ h₁=>?_))
  refine wpAny_bind (wpAny_holding (snd.E h₁ fit H₁ λc i σ₂ s₂ hc H₂ h₂=>?_))
  refine wpAny_bind (wpAny_standAt (wpAny_bind (wpAny_holding (wpAny_mono (setItem_at H₂ h₂ hb hc ha) (λ_ s₃ h₃=>?_) λ_ _ z=>z))))
  obtain ⟨σ',H',q⟩:=h₃
  exact wpAny_release ⟨ρ,σ',H',q⟩
theorem IsTup.isTuple {h:Heap} {a:Addr} {xs:Array Value} {n:Nat} (x:IsT h a xs n):h.IsTuple a xs:=⟨_,x,rfl,n,rfl⟩
theorem each_cons {t:Expr} {ts:List Expr} {env:Env} (h:noStar1 t=true):assignEach (t :: ts) env=(false,assign t env) :: assignEach ts env:=by induction t using Expr.casesOn<;>first|rfl|cases h
theorem each_shape {env:Env}:∀{ts:List Expr},noStars ts=true→(assignEach ts env).findIdx? (·.1)=none∧(assignEach ts env).length=ts.length
 |[],_=>⟨rfl,rfl⟩
 |t :: ts,h=>by
  have h:=Bool.and_eq_true_iff.mp h
  obtain ⟨h1,h2⟩:=each_shape (env:=env) (ts:=ts) h.2
  refine rE (each_cons h.1) ?_
  exact ⟨by refine rE (List.findIdx?_cons) ?_;simp[h1],by simp[h2]⟩
theorem asgs_cons {R:Ops} {t:Expr} {ts:List Expr} {as:List AV} {k:EPost} (h:asgs R Γ (t :: ts) as ρ σ k):noStar1 t=true∧∃a r,as=a :: r∧asg1 R Γ t a ρ σ (qAsgs (asgs R Γ ts) r k):=by
 induction as using List.casesOn with
 |nil=>exact False.elim h
 |cons a r=>exact iAEEA (chk_iff h).1 _ _ rfl (chk_iff h).2
theorem asgs_at (Gd:Gd prog w K B) {R:Ops} (snd:Snd prog w B R) (fit:Fit prog w B Γ A F) {ts:List Expr}:∀{as:List AV} {vs:List Value} {ρ:Loc} {σ:AH} {s:Shared} {k:Loc→AH→Prop},asgs R Γ ts as ρ σ k→AllIs as vs→At prog w B F ρ σ s→
 wpAny (model prog w) A (assignInOrder ((assignEach ts F.env).map (·.2)) vs) (RAx prog w B F k) (Err prog w B F Γ.X) s:=by
 induction ts with
 |nil=>
  intro as vs ρ σ s k h ha H
  induction as using List.casesOn with
  |nil=>cases ha;exact wpAny_pure ⟨ρ,σ,H,h⟩
  |cons _ _=>exact False.elim h
 |cons t ts ih=>
  intro as vs ρ σ s k h ha H
  (refine xAEEA (asgs_cons h) λhs a as=>?_;rintro rfl h1')
  cases ha with
  |cons h1 h2=>
   (refine rE (each_cons hs) ?_;refine rE List.map_cons ?_)
   refine wpAny_bind (wpAny_holding (wpAny_mono (asg1_at Gd snd fit h1' h1 H) (λ_ s₁ h₁=>?_) λ_ _ z=>z))
   obtain ⟨ρ₁,σ₁,H₁,h₁⟩:=h₁
   exact ih h₁ h2 H₁
theorem asg_at (Gd:Gd prog w K B) {R:Ops} (snd:Snd prog w B R) (fit:Fit prog w B Γ A F) {t:Expr} {a:AV} {v:Value} {k:Loc→AH→Prop} (h:asg R Γ t a ρ σ k) (ha:a.Is v) (H:At prog w B F ρ σ s) :
 wpAny (model prog w) A (assign t F.env v) (RAx prog w B F k) (Err prog w B F Γ.X) s:=by
 have z:asg1 R Γ t a ρ σ k→wpAny (model prog w) A (assign t F.env v) (RAx prog w B F k) (Err prog w B F Γ.X) s:=λh=>asg1_at Gd snd fit h ha H
 induction t using Expr.casesOn with
 |Tuple ts c p=>
  refine onRef_e h ha λa h=>?_
  obtain ⟨ok,vs,e,hl,h⟩:=chk_iff h
  refine xEA (pt_rd Gd H e) λws ht hi=>?_
  obtain ⟨e1,e2⟩:=each_shape (env:=F.env) ok
  refine wpAny_assign_Tuple fit.handled (IsTup.isTuple ht) (by (refine rE e2 ?_;refine rE List.size_toArray ?_;refine rL hl ?_;exact rE hi.length rfl)) e1 λh' ex=>?_
  have k:=λb o (q:s.heap.get? b=some o)=>ex b o (Nat.ne_of_lt (Heap.lt_size q)) q
  exact asgs_at Gd snd fit h hi (H.grow (t:=s.toks) k)
 |_=>exact z h
noncomputable def Traced (e:Value) (s:Shared):Prop:=∃ea oe vs T,e=.ref ea∧s.heap.get? ea=some oe∧oe.data=.fields vs∧vs[1]?=some (.ref T)
theorem fly_step {l:List Env} {own:Addr→Prop} {σ₀:AH} {s₀ s:Shared} {h':Heap} {t:Tok} {P:Addr→Prop} (W:WS prog w B l σ s) (E:Ev l own σ₀ s₀ σ s) (hP:∀b,P b→s₀.heap.get? b=none∧B.get? b=none∧¬Mut σ b∧b∉frs l∧∀o,s.heap.get? b=some o→¬IsCode o)
 (k:∀b o,¬P b→s.heap.get? b=some o→∃o',h'.get? b=some o'∧(o'=o∨(b∈frs l∧∃sl,o'={ o with slots:=sl }))) :
 WS prog w B l σ { s with heap:=h',toks:=t }∧Ev l own σ₀ s₀ σ { s with heap:=h',toks:=t }:=by
 have notF:∀b∈frs l,¬P b:=λb hb p=>(hP b p).2.2.2.1 hb
 have exact':∀b o,¬P b→b∉frs l→s.heap.get? b=some o→h'.get? b=some o:=λb o p f e=>by
  refine xEA (k b o p e) λo' e' q=>?_
  rcases q with rfl|⟨q,_⟩
  ·exact e'
  ·exact absurd q f
 refine ⟨⟨λb o e=>?_,funFrames_of W.frames λb o hb e d=>?_,W.rep.keeps λb o e z=>?_,W.sep,W.big⟩,⟨λb o e m n=>?_,E.fr,λb e=>?_,E.same⟩⟩
 ·refine exact' b o (λp=>?_) (λf=>?_) (W.stays b o e)
  ·rw[(hP b p).2.1] at e;exact nn e
  ·rw[(W.frames.mem f).1] at e;exact nn e
 ·refine xEA (k b o (notF b hb) e) λo' e' q=>?_
  refine iEA o' e' ?_
  rcases q with rfl|⟨_,sl,rfl⟩<;>exact d
 ·refine exact' b o (λp=>?_) (λf=>?_) e
  ·refine xAAAA (hP b p) λ_ _ nm _ nc=>?_
   rcases z with z|z
   ·exact nm z
   ·exact nc o e z
  ·rcases z with z|⟨vs',q,t,d',z⟩
   ·exact W.sep b f z
   ·refine xAEA (W.frames.mem f) λ_ o' e' dd=>?_
    rw[e] at e';(have e':=sJ e';subst e');exact dd vs' d'
 ·refine xEA (E.kp b o e m n) λo₁ e₁ q₁=>?_
  refine xEA (k b o₁ (λp=>by rw[(hP b p).1] at e;exact nn e) e₁) λo₂ e₂ q₂=>?_
  refine iEA o₂ e₂ ?_
  rcases q₁ with rfl|⟨f,sl,rfl⟩
  ·exact q₂
  ·rcases q₂ with rfl|⟨_,sl',rfl⟩
   ·exact .inr ⟨f,sl,rfl⟩
   ·exact .inr ⟨f,sl',rfl⟩
 ·by_cases p:P b
  ·exact (hP b p).1
  ·refine E.th b ?_
   induction q:s.heap.get? b with
   |none=>rfl
   |some o=>
    refine xEA (k b o p q) λo' e' _=>?_
    rw[show h'.get? b=none from e] at e';exact nn e'
theorem rec_ok {l:List Env} (W:WS prog w B l σ s) {b:Addr} {o:Obj} {vs:Array Value} (e:s.heap.get? b=some o) (d:o.data=.fields vs) (ns:∀q t,vs[1]?≠some (.str q t)):b∉frs l∧∀o,s.heap.get? b=some o→¬IsCode o:=by
 refine ⟨λhb=>?_,λo' e' zz=>xEEEA zz λvs' q t d' z=>?_⟩
 ·refine xAEA (W.frames.mem hb) λ_ o' e' d'=>?_
  rw[e] at e';(have e':=sJ e';subst e');exact d' vs d
 ·rw[e] at e';(have e':=sJ e';subst e');rw[d] at d';cases d';exact ns q t z
theorem Fly.cls {h₀:Heap} {l:List Env} {e:Value} {v:AV} (f:Fly prog w B h₀ l σ e v s):∃ea oe,e=.ref ea∧s.heap.get? ea=some oe∧oe.cls=.ref 654:=by
 induction f with|mk ea d oe vs kvs u k1 k2 k3=>exact iEEAA ea oe k1 k2 k3
structure ErrIn (prog:Program) (w:World) (B:Heap) (l:List Env) (own:Addr→Prop) (σ₀:AH) (s₀:Shared) (v:AV) (σ:AH) (e:Value) (s:Shared):Prop where
 fly:Fly prog w B s₀.heap l σ e v s
 ws:WS prog w B l σ s
 ev:Ev l own σ₀ s₀ σ s
theorem set_same {vs:Array Value} {x:Value} (h:1 < vs.size):(vs.setIfInBounds 1 x)[1]?=some x:=by simp[h]
theorem not_str_set {vs:Array Value} {i:Nat} {x:Value} (h:∀q t,vs[1]?≠some (.str q t)) (hi:i≠1):∀q t,(vs.setIfInBounds i x)[1]?≠some (.str q t):=λq t e=>by
 rw[Array.getElem?_setIfInBounds_ne hi] at e
 exact h q t e
theorem mark_at {M:Model} {l:List Env} {own:Addr→Prop} {σ₀:AH} {s₀ s:Shared} {v:AV} {e:Value} {T:Addr} {ea:Addr} {oe:Obj} {vs:Array Value} {x:Value} {Q:Unit→Shared→Prop} (H:ErrIn prog w B l own σ₀ s₀ v σ e s)
 (h1:e=.ref ea) (h2:s.heap.get? ea=some oe) (h3:oe.data=.fields vs) (h4:vs[1]?=some (.ref T))
 (h:∀s',ErrIn prog w B l own σ₀ s₀ v σ e s'→s'.heap.get? ea=some oe→Q () s'):wpAny M A (setField (.ref T) 3 x) Q E s:=by
 obtain ⟨ea',d,oe',vs',kvs,u,k1,k2,k3,k4,k5,k6,k7,k8,k9,k10,k11,k12,k13,k14⟩:=H.fly
 rw[h1] at k1;cases k1
 rw[h2] at k2;(have k2:=sJ k2;subst k2)
 rw[h3] at k5;cases k5
 rcases k14 with z|⟨T',oT,ts,q1,q2,q3,q4,q5,q6,q7,q8,q9⟩
 ·rw[h4] at z;exact nC Value.ctorIdx (sJ z) rfl
 rw[h4] at q1;cases q1
 refine wpAny_setField q6 q7 q9 (h _ ?_ ?_)
 ·have sb:Heap.SameBut T s.heap (s.heap.update T (Obj.mapFields (·.setIfInBounds 3 x))):=Heap.SameBut.update ..
  have hT:=Heap.get?_update_self (Obj.mapFields (·.setIfInBounds 3 x)) q6 (Obj.isFreed_of_fields (Obj.data_mapFields q7 _))
  obtain ⟨W',E'⟩:=fly_step (t:=s.toks) (P:=(·=T)) H.ws H.ev (λb p=>by subst p;exact iAAA q3 q4 q5 (rec_ok H.ws q6 q7 q8)) (λb o p e=>⟨o,(sb.2 b p).trans e,.inl rfl⟩)
  have dT:d≠T:=λz=>by
   refine xEEEAAA k6 λod es ep ho _ hd _=>?_
   rw[z,q6] at ho;(have ho:=sJ ho;subst ho);rw[q7] at hd;exact nC Data.ctorIdx hd rfl
  refine ⟨⟨ea,d,oe,vs,kvs,u,h1,(sb.2 ea (Ne.symm q2)).trans h2,k3,k4,h3,k6.sameBut sb dT,k7,k8,k9,k10,k11,k12,k13,.inr ⟨T,_,_,h4,q2,q3,q4,q5,hT,Obj.data_mapFields q7 _,not_str_set q8 (dE rfl),by refine rE Array.size_setIfInBounds ?_;exact q9⟩⟩,W',E'⟩
 ·exact (Heap.get?_update_other _ _ q2).trans h2
theorem entry_at {M:Model} {env:Env} {r:List Env} {L:Addr} {own:Addr→Prop} {σ₀:AH} {s₀ s:Shared} {v:AV} {e:Value} {hd:Value} {b:Bool} {Q:Unit→Shared→Prop} (hfr:A.frames=some (env :: r)) (hf:env.frame=some L) (H:ErrIn prog w B (env :: r) own σ₀ s₀ v σ e s)
 (h:∀s',ErrIn prog w B (env :: r) own σ₀ s₀ v σ e s'→Traced e s'→Q () s') :
 wpAny M A (do let a ←frameOf env;let pl ←entryPlaceOf L b;let x ←EntryCells.newEntry hd a .none (rawInt L) .none pl;setField e 1 x) Q E s:=by
 obtain ⟨ea,d,oe,vs,kvs,u,k1,k2,k3,k4,k5,k6,k7,k8,k9,k10,k11,k12,k13,k14⟩:=H.fly
 subst k1
 have hz:1 < vs.size:=by
  rcases k14 with z|⟨_,_,_,z,_⟩<;>exact (Array.getElem?_eq_some_iff.mp z).1
 have ns:∀q t,vs[1]?≠some (.str q t):=λq t z=>by
  rcases k14 with y|⟨_,_,_,y,_⟩<;>(rw[y] at z;exact nC Value.ctorIdx (sJ z) rfl)
 have hene:ea∉frs (env :: r):=λhm=>by
  refine xAEA (H.ws.frames.mem hm) λ_ o ho hnf=>?_
  rw[k2] at ho;(have ho:=sJ ho;subst ho);exact hnf vs k5
 refine wpAny_bind (wpAny_frameOf_fun hfr H.ws.frames hf λh₁ hs₁=>?_)
 refine wpAny_bind (wpAny_entryPlaceOf λpl hpl=>?_)
 unfold EntryCells.newEntry newFields
 refine wpAny_bind (wpAny_newObj_type ?_ (hpl.sizeOk5 _ _ _ _ _))
 generalize hob:({ cls:=.type "traceback",dict:=none,data:=.fields ([hd,.ref L,.none,rawInt L,.none] ++ (if pl.isEmpty then List.replicate 6 Value.none else pl)).toArray }:Obj)=ob
 have hobd:∃ts,ob.data=.fields ts∧3 < ts.size∧(∀q t,ts[1]?≠some (.str q t)):=⟨_,by rw[←hob],by rw[List.size_toArray,List.length_append];exact Nat.lt_of_lt_of_le (dE rfl:3 < 5) (Nat.le_add_right _ _),λq t z=>by have z:some (Value.ref L)=some (Value.str q t):=z;exact nC Value.ctorIdx (sJ z) rfl⟩
 have he₁:h₁.get? ea=some oe:=(hs₁.2.1 ea hene).trans k2
 have he₂:=Heap.get?_push_of_some (h:=h₁) ob he₁
 refine wpAny_setField he₂ k5 hz (h _ ?_ ?_)
 ·generalize hh:(h₁.push ob).update ea (Obj.mapFields (·.setIfInBounds 1 (Value.ref h₁.objs.size)))=h'
  have sb:Heap.SameBut ea (h₁.push ob) h':=hh▸Heap.SameBut.update ..
  have he₃:h'.get? ea=some (Obj.mapFields (·.setIfInBounds 1 (Value.ref h₁.objs.size)) oe):=hh▸Heap.get?_update_self _ he₂ (Obj.isFreed_of_fields (Obj.data_mapFields k5 _))
  have hTe:h₁.objs.size≠ea:=Nat.ne_of_gt (Heap.lt_size he₁)
  have hfree:ob.isFreed=false:=by refine xEA hobd λts z _=>?_;exact Obj.isFreed_of_fields z
  have hT:h'.get? h₁.objs.size=some ob:=(sb.2 _ hTe).trans (Heap.get?_push_size h₁ hfree)
  have step:∀b o,b≠ea→s.heap.get? b=some o→∃o',h'.get? b=some o'∧(o'=o∨(b∈frs (env :: r)∧∃sl,o'={ o with slots:=sl })):=λb o q e=>by
   by_cases f:b∈frs (env :: r)
   ·obtain ⟨sl,e'⟩:=hs₁.2.2 b o e
    exact iEA _ ((sb.2 b q).trans (Heap.get?_push_of_some _ e')) (.inr ⟨f,sl,rfl⟩)
   ·exact iEA o ((sb.2 b q).trans (Heap.get?_push_of_some _ ((hs₁.2.1 b f).trans e))) (.inl rfl)
  obtain ⟨W',E'⟩:=fly_step (t:=s.toks) (P:=(·=ea)) H.ws H.ev (λb p=>by subst p;exact iAAA k9 k10 k11 (rec_ok H.ws k2 k5 ns)) (λb o p e=>step b o p e)
  have de:d≠ea:=λz=>by
   refine xEEEAAA k6 λod es ep ho _ hd _=>?_
   rw[z,k2] at ho;(have ho:=sJ ho;subst ho);rw[k5] at hd;exact nC Data.ctorIdx hd rfl
  have Tnone:s.heap.get? h₁.objs.size=none:=by
   refine rE hs₁.1 ?_;exact get_none_size
  have D':h'.DictOf (PySem.strKind prog w) d kvs:=dictOf_keeps k6 λob e=>by
   refine xEA (step d ob de e) λo' e' q=>?_
   rcases q with rfl|⟨q,_⟩
   ·exact e'
   ·exact absurd q k13
  refine xEAA hobd λts t1 t2 t3=>?_
  refine ⟨⟨ea,d,_,_,kvs,u,rfl,he₃,(Obj.cls_mapFields _ _).trans k3,?_,Obj.data_mapFields k5 _,D',k7,k8,k9,k10,k11,k12,k13,.inr ⟨h₁.objs.size,ob,ts,?_,hTe,H.ev.th _ Tnone,base_none H.ws.stays Tnone,?_,hT,t1,t3,t2⟩⟩,W',E'⟩
  ·obtain ⟨c,dd,dt,sl⟩:=oe;subst k5;exact k4
  ·exact set_same hz
  ·exact not_mut_new H.ws.rep Tnone
 ·refine ⟨ea,_,_,h₁.objs.size,rfl,Heap.get?_update_self _ he₂ (Obj.isFreed_of_fields (Obj.data_mapFields k5 _)),Obj.data_mapFields k5 _,?_⟩
  exact set_same hz
theorem note_at {M:Model} {env:Env} {r:List Env} {L:Addr} {own:Addr→Prop} {σ₀:AH} {s₀ s:Shared} {v:AV} {e:Value} {Q:Unit→Shared→Prop} (hfr:A.frames=some (env :: r)) (hf:env.frame=some L) (H:ErrIn prog w B (env :: r) own σ₀ s₀ v σ e s)
 (h:∀s',ErrIn prog w B (env :: r) own σ₀ s₀ v σ e s'→Traced e s'→Q () s'):wpAny M A (noteFrame e env) Q E s:=by
 obtain ⟨ea,d,oe,vs,kvs,u,k1,k2,k3,k4,k5,k6,k7,k8,k9,k10,k11,k12,k13,k14⟩:=H.fly
 subst k1
 unfold noteFrame
 refine rE hf ?_
 dsimp only
 rcases k14 with z|⟨T,oT,ts,q1,q2,q3,q4,q5,q6,q7,q8,q9⟩
 ·refine wpAny_bind (wpAny_field k2 k5 z ?_)
  refine rE (if_neg (dE rfl)) ?_
  exact entry_at hfr hf H h
 ·refine wpAny_bind (wpAny_field k2 k5 q1 ?_)
  refine rE (if_pos (show (Value.ref T != Value.none)=true from by simp)) ?_
  refine wpAny_bind (wpAny_field q6 q7 (Array.getElem?_eq_getElem q9) ?_)
  by_cases c:(ts[3] == rawInt L)=true
  ·refine rE (if_pos c) ?_
   exact wpAny_pure (h s H ⟨ea,oe,vs,T,rfl,k2,k5,q1⟩)
  ·refine rE (if_neg c) ?_
   refine wpAny_bind (mark_at H rfl k2 k5 q1 λs' H' _=>?_)
   exact entry_at hfr hf H' h
theorem flight_at {M:Model} {l:List Env} {own:Addr→Prop} {σ₀:AH} {s₀ s:Shared} {v:AV} {e:Value} {fr:Option Addr} {Q:Unit→Shared→Prop} (H:ErrIn prog w B l own σ₀ s₀ v σ e s)
 (h:∀s',ErrIn prog w B l own σ₀ s₀ v σ e s'→Q () s'):wpAny M A (setFlight e fr) Q E s:=by
 obtain ⟨ea,d,oe,vs,kvs,u,k1,k2,k3,k4,k5,k6,k7,k8,k9,k10,k11,k12,k13,k14⟩:=H.fly
 subst k1
 unfold setFlight
 rcases k14 with z|⟨T,oT,ts,q1,_⟩
 ·refine wpAny_bind (wpAny_field k2 k5 z ?_)
  refine rE (if_neg (dE rfl)) ?_
  exact wpAny_pure (h s H)
 ·refine wpAny_bind (wpAny_field k2 k5 q1 ?_)
  refine rE (if_pos (show (Value.ref T != Value.none)=true from by simp)) ?_
  exact mark_at H rfl k2 k5 q1 λs' H' _=>h s' H'
theorem leave_at {M:Model} {env:Env} {r:List Env} {L:Addr} {own:Addr→Prop} {σ₀:AH} {s₀ s:Shared} {v:AV} {e:Value} {Q:Unit→Shared→Prop} (hfr:A.frames=some (env :: r)) (hf:env.frame=some L) (H:ErrIn prog w B (env :: r) own σ₀ s₀ v σ e s)
 (h:∀s',ErrIn prog w B (env :: r) own σ₀ s₀ v σ e s'→Q () s'):wpAny M A (leaving env e) Q E s:=by
 unfold leaving
 exact wpAny_bind (note_at hfr hf H λs' H' _=>flight_at H' h)
theorem back_at {M:Model} {l:List Env} {own:Addr→Prop} {σ₀:AH} {s₀ s:Shared} {v:AV} {e:Value} {env:Env} (H:ErrIn prog w B l own σ₀ s₀ v σ e s) (ht:Traced e s) {P:Value→Shared→Prop}
 (h:∀s',ErrIn prog w B l own σ₀ s₀ v σ e s'→P e s'):cameBackBy M A env P e s:=by
 (refine xEEEEAAA ht λea oe vs T=>?_;rintro rfl e1 e2 e3)
 unfold cameBackBy
 refine wpAny_bind (wpAny_field e1 e2 e3 ?_)
 refine rE (if_neg (show ¬((Value.ref T == Value.none)=true) from Bool.false_ne_true)) ?_
 exact flight_at H h
theorem At.aliens {h':Heap} {t:Tok} (H:At prog w B F ρ σ s) (P:Addr→Prop) (hP:∀b,P b→F.s₀.heap.get? b=none∧B.get? b=none∧¬Mut σ b∧b∉frs F.l∧∀o,s.heap.get? b=some o→¬IsCode o)
 (hL:¬P F.env.locals) (hC:∀x c,F.env.cells.lookup x=some c→¬P c) (k:∀b o,¬P b→s.heap.get? b=some o→h'.get? b=some o):At prog w B F ρ σ { s with heap:=h',toks:=t }:=by
 obtain ⟨W',E'⟩:=fly_step (t:=t) (P:=P) H.fs.ws H.ev hP (λb o p e=>⟨o,k b o p e,.inl rfl⟩)
 refine ⟨⟨W',⟨?_,λx c e=>?_,H.fs.loc.has,H.fs.loc.apart⟩,H.fs.sepL⟩,E'⟩
 ·(refine xEA H.fs.loc.ns λm=>?_;(rintro zz;refine xEEEAA zz λo es ep ho hd r z=>?_))
  exact iEA m ⟨o,es,ep,k _ o hL ho,hd,r⟩ z
 ·(refine xEA (H.fs.loc.cell x c e) λv=>?_;(rintro zz;refine xEA zz λo ho hd z=>?_))
  exact iEA v ⟨o,k _ o (hC x c e) ho,hd⟩ z
theorem At.records {h':Heap} {t:Tok} (H:At prog w B F ρ σ s) (P:Addr→Prop) (hP:∀b,P b→F.s₀.heap.get? b=none∧B.get? b=none∧¬Mut σ b∧∃o vs,s.heap.get? b=some o∧o.data=.fields vs∧∀q t,vs[1]?≠some (.str q t))
 (k:∀b o,¬P b→s.heap.get? b=some o→h'.get? b=some o):At prog w B F ρ σ { s with heap:=h',toks:=t }:=by
 refine H.aliens P (λb p=>?_) (λp=>?_) (λx c e p=>?_) k
 ·refine xAAAEEAA (hP b p) λh1 h2 h3 o vs e d ns=>?_
  exact iAAA h1 h2 h3 (rec_ok H.fs.ws e d ns)
 ·(refine xEA H.fs.loc.ns λm=>?_;(rintro zz;refine xEEEAA zz λo es ep ho hd r z=>?_))
  refine xAAAEEAA (hP _ p) λ_ _ _ o' vs e' d' _=>?_
  rw[ho] at e';(have e':=sJ e';subst e');rw[hd] at d';exact nC Data.ctorIdx d' rfl
 ·(refine xEA (H.fs.loc.cell x c e) λv=>?_;(rintro zz;refine xEA zz λo ho hd z=>?_))
  refine xAAAEEAA (hP _ p) λ_ _ _ o' vs e' d' _=>?_
  rw[ho] at e';(have e':=sJ e';subst e');rw[hd] at d';exact nC Data.ctorIdx d' rfl
noncomputable def ItAt (h:Heap) (it:Addr):Src→Nat→Prop
 |.lst a _,i=>h.IsListIter it a i
 |.tpl a _,i=>h.IsTupleIter it a i
 |.nums n,i=>IsRangeIter h it (0 + (i:Int) * 1) ((n:Int) - i) 1
 |.keys a ep kvs,i=>h.IsKeyIter it a i kvs.length ep
structure Alien (B:Heap) (F:FQ) (σ:AH) (it:Addr):Prop where
 new:F.s₀.heap.get? it=none
 base:B.get? it=none
 free:¬Mut σ it
theorem itAt_rec {h:Heap} {it:Addr} {src:Src} {i:Nat} (x:ItAt h it src i):∃o vs,h.get? it=some o∧o.data=.fields vs∧∀q t,vs[1]?≠some (.str q t):=by
 induction src with
 |lst a xs=>refine xEAA x λo ho _ hd=>?_;exact iEEAA o _ ho hd (λq t z=>by simp at z)
 |tpl a xs=>refine xEAA x λo ho _ hd=>?_;exact iEEAA o _ ho hd (λq t z=>by simp at z)
 |nums n=>exact iEEAA _ _ x rfl (λq t z=>by simp[rawInt] at z)
 |keys a ep kvs=>refine xEAA x λo ho _ hd=>?_;exact iEEAA o _ ho hd (λq t z=>by simp at z)
theorem itAt_keep {h h':Heap} {it:Addr} {src:Src} {i:Nat} (x:ItAt h it src i) (k:∀o,h.get? it=some o→h'.get? it=some o):ItAt h' it src i:=by
 induction src with
 |lst a xs=>refine xEA x λo ho r=>?_;exact ⟨o,k o ho,r⟩
 |tpl a xs=>refine xEA x λo ho r=>?_;exact ⟨o,k o ho,r⟩
 |nums n=>exact k _ x
 |keys a ep kvs=>refine xEA x λo ho r=>?_;exact ⟨o,k o ho,r⟩
theorem At.but {h':Heap} {t:Tok} {it:Addr} (H:At prog w B F ρ σ s) (al:Alien B F σ it) (r:∃o vs,s.heap.get? it=some o∧o.data=.fields vs∧∀q t,vs[1]?≠some (.str q t)) (k:Heap.ExtBut it s.heap h'):At prog w B F ρ σ { s with heap:=h',toks:=t }:=
 H.records (·=it) (λb p=>by subst p;exact iAAA al.new al.base al.free r) (λb o p q=>k b o p q)
theorem next_itemR (Gd:Gd prog w K B) (H:At prog w B F ρ σ s) {it:Addr} {src:Src} {i:Nat} {x:AV} {Q:Option Value→Shared→Prop} (hi:ItAt s.heap it src i) (st:src.stands σ) (e:src.items[i]?=some x)
 (h:∀v h' t,x.Is v→Heap.ExtBut it s.heap h'→ItAt h' it src (i + 1)→Q (some v) { s with heap:=h',toks:=t }):wpAny (model prog w) A (pyNext (.ref it)) Q E s:=by
 induction src with
 |lst a xs=>
  refine xEEA (pl_rd Gd H st) λvs n hl hx=>?_
  refine xEA (hx.get e) λv ev iv=>?_
  exact wpAny_pyNext_list_item hi (IsL.isList hl) (by simpa using ev) λh' hi' sb=>h v h' s.toks iv sb.extBut hi'
 |tpl a xs=>
  refine xEA (pt_rd Gd H st) λvs hl hx=>?_
  refine xEA (hx.get e) λv ev iv=>?_
  exact wpAny_pyNext_tuple_item hi (IsTup.isTuple hl) (by simpa using ev) λh' hi' sb=>h v h' s.toks iv sb.extBut hi'
 |nums n=>
  have lt:i < n:=by
   have:=(List.getElem?_eq_some_iff.mp e).1
   simpa [Src.items] using this
  have ex:x=.int i:=by
   simp only[Src.items,List.getElem?_map,List.getElem?_range lt,Option.map_some] at e
   (have e:=sJ e;subst e);rfl
  subst ex
  refine wpAny_pyNext_range_item hi (by lia) λh' hi' sb=>h _ h' (s.toks + 1) ⟨s.toks,?_⟩ sb.extBut ?_
  ·congr 1;lia
  ·show IsRangeIter h' it (0 + ((i + 1:Nat):Int) * 1) ((n:Int) - ((i + 1:Nat):Int)) 1
   have e1:(0 + ((i + 1:Nat):Int) * 1)=0 + (i:Int) * 1 + 1:=by lia
   have e2:((n:Int) - ((i + 1:Nat):Int))=(n:Int) - i - 1:=by lia
   (refine rE e1 ?_;refine rE e2 ?_);exact hi'
 |keys a ep kvs=>
  refine xEA (H.fs.ws.rep.obj a _ st) λkv' hm hx=>?_
  have e':(kv'.map (·.1))[i]?=(kvs.map (·.1))[i]?:=by exact rE hx.keys rfl
  have ex:∃k,(kvs.map (·.1))[i]?=some k∧x=.str k:=by
   simp only[Src.items,List.getElem?_map,Option.map_eq_some_iff] at e ⊢
   obtain ⟨p,e,rfl⟩:=e
   exact iEA p.1 ⟨p,e,rfl⟩ rfl
  (refine xEA ex λk ek=>?_;rintro rfl)
  rw[ek,List.getElem?_map,Option.map_eq_some_iff] at e'
  (refine xEA e' ?_;rintro ⟨k',v⟩ ev rfl)
  rw[show ItAt s.heap it (.keys a ep kvs) i=s.heap.IsKeyIter it a i kvs.length ep from rfl,hx.length] at hi
  refine wpAny_pyNext_dict_item hi hm ev λkey h' hk hi' sb=>h key h' s.toks (Value.isStrOf_shape hk) sb.extBut ?_
  rw[←hx.length] at hi'
  exact hi'
theorem next_endR (Gd:Gd prog w K B) (hh:A.handled=none) (H:At prog w B F ρ σ s) {it:Addr} {src:Src} {Q:Option Value→Shared→Prop} (hi:ItAt s.heap it src src.items.length) (st:src.stands σ)
 (h:∀h',Heap.ExtBut it s.heap h'→Q none { s with heap:=h' }):wpAny (model prog w) A (pyNext (.ref it)) Q E s:=by
 induction src with
 |lst a xs=>
  refine xEEA (pl_rd Gd H st) λvs n hl hx=>?_
  exact wpAny_pyNext_list_end hh hi (IsL.isList hl) (by simp[Src.items,hx.length]) h
 |tpl a xs=>
  refine xEA (pt_rd Gd H st) λvs hl hx=>?_
  exact wpAny_pyNext_tuple_end hh hi (IsTup.isTuple hl) (by simp[Src.items,hx.length]) h
 |nums n=>
  have e:(Src.nums n).items.length=n:=by simp[Src.items]
  rw[e] at hi
  exact wpAny_pyNext_range_end hh hi (by lia) h
 |keys a ep kvs=>
  refine xEA (H.fs.ws.rep.obj a _ st) λkv' hm hx=>?_
  have e:(Src.keys a ep kvs).items.length=kvs.length:=by simp[Src.items]
  rw[e] at hi
  rw[show ItAt s.heap it (.keys a ep kvs) kvs.length=s.heap.IsKeyIter it a kvs.length kvs.length ep from rfl,hx.length] at hi
  exact wpAny_pyNext_dict_end hh hi hm (by simp) h
theorem next_item (Gd:Gd prog w K B) (H:At prog w B F ρ σ s) {it:Addr} {src:Src} {i:Nat} {x:AV} {Q:Option Value→Shared→Prop} (al:Alien B F σ it) (hi:ItAt s.heap it src i) (st:src.stands σ) (e:src.items[i]?=some x)
 (h:∀v s',x.Is v→At prog w B F ρ σ s'→ItAt s'.heap it src (i + 1)→Q (some v) s'):wpAny (model prog w) A (pyNext (.ref it)) Q E s:=
 next_itemR Gd H hi st e λv h' t iv ex hi'=>h v _ iv (H.but al (itAt_rec hi) ex) hi'
theorem next_end (Gd:Gd prog w K B) (hh:A.handled=none) (H:At prog w B F ρ σ s) {it:Addr} {src:Src} {Q:Option Value→Shared→Prop} (al:Alien B F σ it) (hi:ItAt s.heap it src src.items.length) (st:src.stands σ)
 (h:∀s',At prog w B F ρ σ s'→Q none s'):wpAny (model prog w) A (pyNext (.ref it)) Q E s:=
 next_endR Gd hh H hi st λh' ex=>h _ (H.but (t:=s.toks) al (itAt_rec hi) ex)
theorem alien_new (H:At prog w B F ρ σ s) {a:Addr} (e:s.heap.get? a=none):Alien B F σ a:=⟨H.ev.th _ e,base_none H.fs.ws.stays e,not_mut_new H.fs.ws.rep e⟩
inductive RIt (prog:Program) (w:World) (B:Heap) (F:FQ) (ρ:Loc) (Q:Src→AH→Prop) (it:Value) (s':Shared):Prop
 |mk (src:Src) (σ':AH) (ita:Addr) (e:it=.ref ita) (hi:ItAt s'.heap ita src 0) (st:src.stands σ') (al:Alien B F σ' ita) (H:At prog w B F ρ σ' s') (q:Q src σ'):RIt prog w B F ρ Q it s'
theorem notSet_fold {e:Expr} {env:Env} (h:notSet e=true):∀x,foldedSetIterable e env x=pure x:=λx=>by
 induction e using Expr.casesOn<;>first|rfl|cases h
theorem At.swap {a:Addr} {o o':AO} (H:At prog w B F ρ σ s) (ha:σ a=some o) (hn':NotInst o') (ho:ORep prog w s.heap a o'):At prog w B F ρ (up σ a o') s:=
 ⟨⟨⟨H.fs.ws.stays,H.fs.ws.frames,H.fs.ws.rep.swap ha hn' ho,λb hb m=>H.fs.ws.sep b hb (mut_swap ha hn' m),H.fs.ws.big⟩,H.fs.loc,λm=>H.fs.sepL (mut_swap ha hn' m)⟩,H.ev.kp,λb m=>H.ev.fr b (mut_swap ha hn' m),H.ev.th,H.ev.same⟩
theorem src_at (Gd:Gd prog w K B) {R:Ops} (snd:Snd prog w B R) (fit:Fit prog w B Γ A F) {e:Expr} {Q:Src→AH→Prop} (h:srcOf R Γ e ρ σ Q) (H:At prog w B F ρ σ s) :
 wpAny (model prog w) A (eval e F.env) (λx s₁=>wpAny (model prog w) A (pyIter x) (RIt prog w B F ρ Q) (Err prog w B F Γ.X) s₁) (Err prog w B F Γ.X) s∧∀x,foldedSetIterable e F.env x=pure x:=by
 unfold srcOf at h
 induction ea:call1 "range" e with
 |some a=>
  rw[ea] at h
  obtain ⟨ok,h₀⟩:=chk_iff h
  clear h
  cases call1_e ea with|mk=>
  rw[Bool.and_eq_true] at ok
  refine ⟨?_,λx=>rfl⟩
  refine wpAny_Call_NameR (wpAny_Name (ld_bi Gd fit H (x:="range") (v:=.type "range") (eq_of_beq ok.1) (dE rfl) (by decide +kernel) ?_ (dE rfl)))
  refine rE (star_cons ok.2) ?_
  refine callWith_type1 (snd.E h₀ fit H λb v σ₁ s₁ hb H₁ h₁=>?_)
  refine onInt_e h₁ hb λn t h₁=>?_
  refine xAA h₁ λh0 hz h₁=>?_
  refine call_range_1 (wpAny_pyIter_range (IsRange.new ..) (small_one (dE rfl) (dE rfl) (by lia) (by lia)) ?_)
  have H₂:=(H₁.pushF (ob:={ cls:=.type "range",data:=.fields #[.int 0 s₁.toks,.int n t,.int 1 (s₁.toks + 1)] }) (s₁.toks + 1 + 1))
  have H₃:=(H₂.pushF (ob:={ cls:=.type "range_iterator",data:=.fields #[rawInt 0,rawInt (Builtin.Range.rangeSize 0 n 1),rawInt 1] }) (s₁.toks + 1 + 1))
  refine ⟨.nums n.toNat,σ₁,_,rfl,?_,trivial,⟨H₂.ev.th _ get_none_size,base_none H₂.fs.ws.stays get_none_size,not_mut_new H₂.fs.ws.rep get_none_size⟩,H₃,h₁⟩
  have hsz:Builtin.Range.rangeSize 0 n 1=(n.toNat:Int):=by refine rE (rangeSize_one _ _) ?_;split<;>lia
  show IsRangeIter _ _ (0 + ((0:Nat):Int) * 1) (((n.toNat:Nat):Int) - ((0:Nat):Int)) 1
  have e2:(((n.toNat:Nat):Int) - ((0:Nat):Int))=Builtin.Range.rangeSize 0 n 1:=by refine rE hsz ?_;simp
  (refine rE (show (0 + ((0:Nat):Int) * 1)=0 by simp) ?_;refine rE e2 ?_)
  exact Heap.get?_push_size _ rfl
 |none=>
  rw[ea] at h
  obtain ⟨ok,h⟩:=chk_iff h
  refine ⟨snd.E h fit H λb v σ₁ s₁ hb H₁ h₁=>?_,notSet_fold ok⟩
  refine onRef_e h₁ hb λa h₁=>?_
  rcases h₁ with ⟨xs,er,hz,h₁⟩|⟨xs,er,hz,h₁⟩|⟨kvs,er,h₁⟩
  ·refine xEEA (pl_rd Gd H₁ er) λvs n hl hx=>?_
   exact wpAny_pyIter_list (IsL.isList hl) ⟨.lst a xs,σ₁,_,rfl,⟨_,Heap.get?_push_size _ rfl,rfl,rfl⟩,er,alien_new H₁ get_none_size,H₁.pushF s₁.toks,h₁⟩
  ·refine xEA (pt_rd Gd H₁ er) λvs hl hx=>?_
   exact wpAny_pyIter_tuple (IsTup.isTuple hl) ⟨.tpl a xs,σ₁,_,rfl,⟨_,Heap.get?_push_size _ rfl,rfl,rfl⟩,er,alien_new H₁ get_none_size,H₁.pushF s₁.toks,h₁⟩
  ·refine xEA (H₁.fs.ws.rep.obj a _ er) λkv' hm hx=>?_
   obtain ⟨ep,hm⟩:=hm.dictAt
   have H₂:=H₁.swap er (o':=.lock ep kvs) (λ_ _ _ z=>by exact nC AO.ctorIdx z rfl) ⟨kv',hm,hx⟩
   have sys:(a == sysModules)=false:=not_sys H₁ (a:=a) (o:=.sdict kvs) (by unfold rd;refine rE er ?_;rfl)
   exact wpAny_pyIter_dict sys hm ⟨.keys a ep kvs,_,_,rfl,⟨_,Heap.get?_push_size _ rfl,rfl,by refine rE hx.length ?_;rfl⟩,up_self ..,alien_new H₂ get_none_size,H₂.pushF s₁.toks,h₁ ep⟩
noncomputable def FlowOut (P:Prop) (R:Result→Shared→Prop) (s:Shared) (f:Flow):Prop:=match f with
 |.next|.cont=>P
 |.brk=>R (.ok .next) s
 |.ret v=>R (.ok (.ret v)) s
theorem for_own {R:Result→Shared→Prop} {target:Expr} {it:Value} {body:List Stmt} {env:Env} (I:Nat→Shared→Prop)
 (turn:∀n s,I n s→wpAny (model prog w) A (pyNext it) (λr s₁=>match r with
  |none=>R (.ok .next) s₁
  |some v=>wpAny (model prog w) A (letOwnedTupleGo target it v) (λ_ s'=>wpAny (model prog w) A (assign target env v) (λ_ s₂=>wpAny (model prog w) A (execs body env) (λf s₃=>FlowOut (∃m,m < n∧I m s₃) R s₃ f) (notedBy (model prog w) A env λe s'=>R (.error e) s') s₂) (notedBy (model prog w) A env λe s'=>R (.error e) s') s') (notedBy (model prog w) A env λe s'=>R (.error e) s') s₁) (notedBy (model prog w) A env λe s'=>R (.error e) s') s)
 (n:Nat) (h:I n s):codeAny (model prog w) A (.forLoop target it body [] env) R s:=by
 refine codeAny_loop' rfl I (λn s hI=>?_) n h
 show wpAny _ _ ((forTurn target it body [] env).onRaise (λx=>do noteFrame x env;theTreesLotGoes x)) _ _ s
 refine wpAny_noted ?_
 unfold forTurn
 refine wpAny_bind (wpAny_standAt (wpAny_bind (wpAny_onRaise (wpAny_mono (turn n s hI) (λr s₁ h₁=>?_) λ_ _ h'=>wpAny_standAt h'))))
 induction r with
 |none=>exact wpAny_pure (.inr ⟨rfl,codeAny_block (wpAny_execs_nil h₁)⟩)
 |some v=>
  refine wpAny_bind (wpAny_mono h₁ (λ_ s₁ h₁=>?_) λ_ _ h'=>h')
  refine wpAny_bind (wpAny_mono h₁ (λ_ s₂ h₂=>wpAny_bind (wpAny_mono h₂ (λf s₃ h₃=>?_) λ_ _ h'=>h')) λ_ _ h'=>h')
  induction f with
  |next=>exact wpAny_pure (.inl ⟨rfl,h₃⟩)
  |cont=>exact wpAny_pure (.inl ⟨rfl,h₃⟩)
  |brk=>exact wpAny_pure h₃
  |ret v=>exact wpAny_pure h₃
noncomputable def RLoop (prog:Program) (w:World) (B:Heap) (F:FQ) (A:Around) (X:Post) (k:SPost):Result→Shared→Prop:=λr s'=>match r with
 |.ok f=>RSx prog w B F k f s'
 |.error e=>cameBackBy (model prog w) A F.env (Err prog w B F X) e s'
theorem err_noted (fit:Fit prog w B Γ A F) {k:SPost} {e:Value} (h:Err prog w B F Γ.X e s):notedBy (model prog w) A F.env (λe s'=>RLoop prog w B F A Γ.X k (.error e) s') e s:=by
 obtain ⟨v,σ',fl,W,ev,x⟩:=h
 rcases fit.top with ⟨r,L,hl,hf⟩|no
 ·have H:ErrIn prog w B (F.env :: r) F.own F.σ₀ F.s₀ v σ' e s:=⟨hl▸fl,hl▸W,hl▸ev⟩
  unfold notedBy
  refine note_at (by (refine rE fit.frames ?_;exact rE hl rfl)) hf H λs' H' tr=>back_at H' tr λs'' H''=>⟨v,σ',?_,?_,?_,x⟩
  ·refine rE hl ?_;exact H''.fly
  ·refine rE hl ?_;exact H''.ws
  ·refine rE hl ?_;exact H''.ev
 ·exact absurd x (no v σ')
theorem go_tup {ts:List Expr} {c:Nat} {p:Pos} {it:Addr} {v:Value} {src:Src} {i:Nat} {Q:Unit→Shared→Prop} (hi:ItAt s.heap it src i) (h:Q () s):wpAny (model prog w) A (letOwnedTupleGo (.Tuple ts c p) (.ref it) v) Q E s:=by
 induction v with
 |ref a=>
  induction src with
  |nums n=>
   refine wpAny_bind (m:=load it) (wpAny_load hi ?_)
   exact wpAny_pure h
  |_=>
   refine xEAA hi λo ho hc hd=>?_
   refine wpAny_bind (m:=load it) (wpAny_load ho ?_)
   (refine rE hc ?_;refine rE hd ?_)
   exact wpAny_pure h
 |_=>exact wpAny_pure h
theorem go_at {target:Expr} {it:Addr} {v:Value} {src:Src} {i:Nat} {Q:Unit→Shared→Prop} (hi:ItAt s.heap it src i) (h:Q () s):wpAny (model prog w) A (letOwnedTupleGo target (.ref it) v) Q E s:=by
 induction target using Expr.casesOn with
 |Tuple ts c p=>exact go_tup (ts:=ts) (c:=c) (p:=p) hi h
 |List ts p=>exact go_tup (ts:=ts) (c:=0) (p:=p) hi h
 |_=>exact wpAny_pure h
theorem alien_on (fit:Fit prog w B Γ A F) {ρ':Loc} {σ':AH} {s':Shared} {it:Addr} (H:At prog w B F ρ σ s) (al:Alien B F σ it) (H':At prog w B (F.at σ s) ρ' σ' s') (r:∃o vs,s.heap.get? it=some o∧o.data=.fields vs∧∀q t,vs[1]?≠some (.str q t)) :
 Alien B F σ' it∧∀o,s.heap.get? it=some o→s'.heap.get? it=some o:=by
 refine xEEAA r λo vs e d _=>?_
 refine ⟨⟨al.new,al.base,λm=>?_⟩,λo' e'=>?_⟩
 ·rcases H'.ev.fr it m with q|q
  ·exact al.free q
  ·rw[show s.heap.get? it=none from q] at e;exact nn e
 ·refine xEA (H'.ev.kp it o' e' al.free (λow=>fit.old it ow al.new)) λo₂ e₂ q=>?_
  rcases q with rfl|⟨q,_⟩
  ·exact e₂
  ·refine xAEA (H.fs.ws.frames.mem q) λ_ o₃ e₃ d₃=>?_
   rw[e] at e₃;(have e₃:=sJ e₃;subst e₃)
   exact absurd d (d₃ vs)
inductive LoopSt (prog:Program) (w:World) (B:Heap) (F:FQ) (src:Src) (ita:Addr) (I:List AV→Loc→AH→Prop) (n:Nat) (s:Shared):Prop
 |mk (i:Nat) (ρ:Loc) (σ:AH) (hn:n + i=src.items.length) (H:At prog w B F ρ σ s) (hi:ItAt s.heap ita src i) (al:Alien B F σ ita) (hv:I (src.items.drop i) ρ σ):LoopSt prog w B F src ita I n s
theorem drop_at {xs rest:List AV} {x:AV} {i:Nat} (h:xs.drop i=x :: rest):xs[i]?=some x∧xs.drop (i + 1)=rest∧i < xs.length:=by
 have e:xs[i]?=some x:=by
  have:=congrArg (λl=>l[0]?) h
  simpa using this
 exact iAA e (by (refine rL List.drop_drop ?_;refine rE h ?_);rfl) ((List.getElem?_eq_some_iff.mp e).1)
theorem flow_e {fl:Fl} {f:Flow} {k:SPost} {I:EPost} {ρ:Loc} {σ:AH} {P:Prop} {R:Result→Shared→Prop} {s:Shared} (i:Fl.Is fl f) (h:qLoop I k fl ρ σ) (a:I ρ σ→P) (b:k .next ρ σ→R (.ok .next) s) (c:∀x v,Fl.Is (.ret x) (.ret v)→k (.ret x) ρ σ→R (.ok (.ret v)) s) :
 FlowOut P R s f:=by
 induction fl with
 |next=>induction f<;>first|exact a h|exact i.elim
 |cont=>induction f<;>first|exact a h|exact i.elim
 |brk=>induction f<;>first|exact b h|exact i.elim
 |ret x=>induction f<;>first|exact c x _ i h|exact i.elim
theorem for_src (Gd:Gd prog w K B) {R:Ops} (snd:Snd prog w B R) (fit:Fit prog w B Γ A F) {t:Expr} {body:List Stmt} {src:Src} {ita:Addr} {k:SPost} (I:List AV→Loc→AH→Prop) (H:At prog w B F ρ σ s) (hi:ItAt s.heap ita src 0) (al:Alien B F σ ita) (h0:I src.items ρ σ)
 (hend:∀ρ σ,I [] ρ σ→src.stands σ∧k .next ρ σ) (turn:∀x rest ρ σ,I (x :: rest) ρ σ→src.stands σ∧asg R Γ t x ρ σ (qBody R body Γ (qLoop (I rest) k))) :
 codeAny (model prog w) A (.forLoop t (.ref ita) body [] F.env) (RLoop prog w B F A Γ.X k) s:=by
 refine for_own (LoopSt prog w B F src ita I) (λn s hI=>?_) src.items.length ⟨0,ρ,σ,rfl,H,hi,al,h0⟩
 obtain ⟨i,ρ,σ,hn,H,hi,al,hv⟩:=hI
 induction hd:src.items.drop i using List.casesOn with
 |nil=>
  rw[hd] at hv
  have hl:src.items.length=i:=Nat.le_antisymm (List.drop_eq_nil_iff.mp hd) (hn▸Nat.le_add_left ..)
  have z:=hend _ _ hv
  exact next_end Gd fit.handled H al (hl▸hi) z.1 λs' H'=>⟨.next,ρ,σ,trivial,H',z.2⟩
 |cons x rest=>
  rw[hd] at hv
  have st:=turn x rest ρ σ hv
  refine xAA (drop_at hd) λhx hr hlt=>?_
  refine next_item Gd H al hi st.1 hx λv s₁ hv' H₁ hi₁=>go_at hi₁ ?_
  have fit':=fit.at H₁
  have er:∀e s',Err prog w B (F.at σ s₁) Γ.X e s'→notedBy (model prog w) A F.env (λe s'=>RLoop prog w B F A Γ.X k (.error e) s') e s':=λe s' z=>err_noted fit (z.back H₁)
  refine wpAny_mono (asg_at Gd snd fit' st.2 hv' H₁.here) (λ_ s₂ h₂=>?_) er
  obtain ⟨ρ₂,σ₂,H₂,h₂⟩:=h₂
  have z₂:=snd.s h₂ fit' H₂
  refine wpAny_mono z₂ (λf s₃ h₃=>?_) er
  obtain ⟨fl,ρ₃,σ₃,fi,H₃,h₃⟩:=h₃
  have al₃:=alien_on fit H₁ al H₃ (itAt_rec hi₁)
  refine flow_e (R:=RLoop prog w B F A Γ.X k) (k:=k) fi h₃ (λz=>⟨n - 1,?_,i + 1,ρ₃,σ₃,?_,H₁.back H₃,itAt_keep hi₁ al₃.2,al₃.1,by refine rE hr ?_;exact z⟩) (λz=>⟨.next,ρ₃,σ₃,trivial,H₁.back H₃,z⟩) λa v j z=>⟨.ret a,ρ₃,σ₃,j,H₁.back H₃,z⟩
  ·lia
  ·lia
theorem lookup_set:∀{ρ:Loc} {x y:Str} {a:AV},((ρ.set x a).lookup y).isSome=(ρ.lookup y).isSome:=by
 intro ρ
 induction ρ with
 |nil=>
  intro _ _ _
  exact rfl
 |cons p0 r ih=>
  obtain ⟨z,o⟩:=p0
  intro x y a
  rw[Loc.set_c]
  induction x == z with
  |true=>simp only[cond_true,List.lookup_cons];induction y == z<;>rfl
  |false=>simp only[cond_false,List.lookup_cons];induction y == z<;>first|rfl|exact ih
theorem stored1_set {x y:Str} {a:AV} (h:stored1 Γ ρ y=true):stored1 Γ (ρ.set x a) y=true:=by
 unfold stored1 at h ⊢
 refine rE lookup_set ?_;exact h
inductive EnumSt (prog:Program) (w:World) (B:Heap) (F:FQ) (xs:List AV) (l e it:Addr) (I:Nat→List AV→Loc→AH→Prop) (n:Nat) (s:Shared):Prop
 |mk (i:Nat) (ρ:Loc) (σ:AH) (old:Value) (hn:n + i=xs.length) (H:At prog w B F ρ σ s) (he:IsEnum s.heap e it (i:Nat) old) (hit:s.heap.IsListIter it l i) (ale:Alien B F σ e) (ali:Alien B F σ it) (hv:I i (xs.drop i) ρ σ):EnumSt prog w B F xs l e it I n s
theorem for_enum (Gd:Gd prog w K B) {R:Ops} (snd:Snd prog w B R) (fit:Fit prog w B Γ A F) {xi xv:Str} {pi pv pt:Pos} {x1} {body:List Stmt} {xs:List AV} {l e it:Addr} {k:SPost} (I:Nat→List AV→Loc→AH→Prop) (H:At prog w B F ρ σ s)
 (he:IsEnum s.heap e it 0 .none) (hit:s.heap.IsListIter it l 0) (hne:e≠it) (ale:Alien B F σ e) (ali:Alien B F σ it) (h0:I 0 xs ρ σ)
 (hend:∀n ρ σ,I n [] ρ σ→rd σ l=some (.list xs)∧k .next ρ σ) (turn:∀n x rest ρ σ,I n (x :: rest) ρ σ→rd σ l=some (.list xs)∧
  chk (stored1 Γ ρ xi && stored1 Γ ρ xv) (R.S Γ body ((ρ.set xi (.int n)).set xv x) σ (qLoop (I (n + 1) rest) k))) :
 codeAny (model prog w) A (.forLoop (.Tuple [.Name xi pi,.Name xv pv] x1 pt) (.ref e) body [] F.env) (RLoop prog w B F A Γ.X k) s:=by
 refine for_own (EnumSt prog w B F xs l e it I) (λn s hI=>?_) xs.length ⟨0,ρ,σ,.none,rfl,H,he,hit,ale,ali,h0⟩
 obtain ⟨i,ρ,σ,old,hn,H,he,hit,ale,ali,hv⟩:=hI
 have rece:∀{h:Heap} {old:Value} {j:Int},IsEnum h e it j old→∃o vs,h.get? e=some o∧o.data=.fields vs∧∀q t,vs[1]?≠some (.str q t):=λx=>⟨_,_,x,rfl,λq t z=>by simp at z⟩
 have reci:∀{h:Heap} {j:Nat},h.IsListIter it l j→∃o vs,h.get? it=some o∧o.data=.fields vs∧∀q t,vs[1]?≠some (.str q t):=λx=>by
  refine xEAA x λo ho _ hd=>?_;exact iEEAA o _ ho hd (λq t z=>by simp at z)
 induction hd:xs.drop i using List.casesOn with
 |nil=>
  rw[hd] at hv
  have hl:xs.length=i:=Nat.le_antisymm (List.drop_eq_nil_iff.mp hd) (hn▸Nat.le_add_left ..)
  obtain ⟨st,q⟩:=hend _ _ _ hv
  refine xEEA (pl_rd Gd H st) λvs nn hL hx=>?_
  exact wpAny_pyNext_enum_end fit.handled he hit (IsL.isList hL) (by simp[←hl,hx.length]) λh' ex=>⟨.next,ρ,σ,trivial,H.but (t:=s.toks) ali (reci hit) ex,q⟩
 |cons x rest=>
  rw[hd] at hv
  obtain ⟨st,hb⟩:=turn i x rest ρ σ hv
  obtain ⟨ok,hb⟩:=chk_iff hb
  rw[Bool.and_eq_true] at ok
  refine xEEA (pl_rd Gd H st) λvs nn hL hx=>?_
  refine xAA (drop_at hd) λhxi hr hlt=>?_
  refine xEA (hx.get hxi) λv ev iv=>?_
  refine wpAny_pyNext_enum_item he hit (IsL.isList hL) (by simpa using ev) hne λh₁ heo hit₁ ht₁ hz₁ hk₁=>?_
  refine wpAny_letOwnedTupleGo_enum heo λh₂ he₂ hs₂=>?_
  have eh:e < s.heap.objs.size:=Heap.lt_size he
  have ht₂:h₂.IsTuple s.heap.objs.size #[.int i s.toks,v]:=⟨_,(hs₂.2 _ (Nat.ne_of_gt eh)).trans ht₁,rfl,_,rfl⟩
  have hit₂:h₂.IsListIter it l (i + 1):=by refine xEA hit₁ λo ho r=>?_;exact ⟨o,(hs₂.2 _ hne.symm).trans ho,r⟩
  have H₂:At prog w B F ρ σ { s with heap:=h₂,toks:=s.toks + 1 }:=H.records (λb=>b=e∨b=it)
   (λb p=>by
    rcases p with rfl|rfl
    ·exact iAAA ale.new ale.base ale.free (rece he)
    ·exact iAAA ali.new ali.base ali.free (reci hit))
   (λb o p q=>(hs₂.2 b λz=>p (.inl z)).trans (hk₁ b o (λz=>p (.inl z)) (λz=>p (.inr z)) q))
  refine wpAny_assign_Tuple fit.handled ht₂ rfl rfl λh₃ ex=>?_
  have k₃:=λb o (q:h₂.get? b=some o)=>ex b o (Nat.ne_of_lt (Heap.lt_size q)) q
  have H₃:At prog w B F ρ σ { s with heap:=h₃,toks:=s.toks + 1 }:=H₂.grow (t:=s.toks + 1) k₃
  have he₃:IsEnum h₃ e it ((i:Int) + 1) v:=k₃ _ _ he₂
  have hit₃:h₃.IsListIter it l (i + 1):=by refine xEA hit₂ λo ho r=>?_;exact ⟨o,k₃ _ _ ho,r⟩
  have fit₃:=fit.at H₃
  have er:∀e s',Err prog w B (F.at σ { s with heap:=h₃,toks:=s.toks + 1 }) Γ.X e s'→notedBy (model prog w) A F.env (λe s'=>RLoop prog w B F A Γ.X k (.error e) s') e s':=λe s' z=>err_noted fit (z.back H₃)
  show wpAny _ A (do holding [v] (assign (.Name xi pi) F.env (.int i s.toks));do holding [] (assign (.Name xv pv) F.env v);pure ()) _ _ _
  rw[arm_assign_Name,arm_assign_Name]
  have z₁:=λQ h=>st_var (Q:=Q) (E:=notedBy (model prog w) A F.env λe s'=>RLoop prog w B F A Γ.X k (.error e) s') fit₃ H₃.here (a:=.int i) (v:=.int i s.toks) ok.1 ⟨_,rfl⟩ h
  refine wpAny_bind (wpAny_holding (wpAny_bind (wpAny_standAt (wpAny_bindName (z₁ _ λs₄ H₄=>?_)))))
  have z₂:=λQ h=>st_var (Q:=Q) (E:=notedBy (model prog w) A F.env λe s'=>RLoop prog w B F A Γ.X k (.error e) s') fit₃ H₄ (stored1_set ok.2) iv h
  refine wpAny_bind (wpAny_holding (wpAny_bind (wpAny_standAt (wpAny_bindName (z₂ _ λs₅ H₅=>wpAny_pure ?_)))))
  have z₃:=snd.s hb fit₃ H₅
  refine wpAny_mono z₃ (λf s₆ h₆=>?_) er
  obtain ⟨fl,ρ₆,σ₆,fi,H₆,h₆⟩:=h₆
  obtain ⟨ale₆,keepe⟩:=alien_on fit H₃ ale H₆ (rece he₃)
  obtain ⟨ali₆,keepi⟩:=alien_on fit H₃ ali H₆ (reci hit₃)
  refine flow_e (R:=RLoop prog w B F A Γ.X k) (k:=k) fi h₆ (λz=>⟨n - 1,?_,i + 1,ρ₆,σ₆,v,?_,H₃.back H₆,?_,?_,ale₆,ali₆,by refine rE hr ?_;exact z⟩) (λz=>⟨.next,ρ₆,σ₆,trivial,H₃.back H₆,z⟩) λa v j z=>⟨.ret a,ρ₆,σ₆,j,H₃.back H₆,z⟩
  ·lia
  ·lia
  ·refine rE (show (((i + 1:Nat)):Int)=(i:Int) + 1 from rfl) ?_;exact keepe _ he₃
  ·refine xEA hit₃ λo ho r=>?_;exact ⟨o,keepi _ ho,r⟩
theorem s_for (Gd:Gd prog w K B) {R:Ops} (snd:Snd prog w B R) (fit:Fit prog w B Γ A F) {t it:Expr} {body:List Stmt} {pos} {k:SPost} (h:forA R Γ t it body ρ σ k) (H:At prog w B F ρ σ s) :
 wpAny (model prog w) A (exec (.For t it body [] pos) F.env) (RSx prog w B F k) (Err prog w B F Γ.X) s:=by
 unfold forA at h
 induction ee:call1 "enumerate" it with
 |none=>
  rw[ee] at h
  obtain ⟨hs,hf⟩:=src_at Gd snd fit h H
  refine wpAny_For (wpAny_mono hs (λx s₁ h₁=>wpAny_mono h₁ (λi s₂ h₂=>?_) λ_ _ z=>z) λ_ _ z=>z) hf
  obtain ⟨src,σ',ita,rfl,hi,st,al,H',I,i0,iend,iturn⟩:=h₂
  refine codeAny_mono (for_src Gd snd fit I H' hi al i0 iend iturn) λr s' hr=>?_
  induction r<;>exact hr
 |some e=>
  rw[ee] at h
  cases call1_e ee with|mk=>
  obtain ⟨ok,h₀⟩:=chk_iff h
  clear h
  obtain ⟨xi,pi,xv,pv,x1,pt,rfl,h⟩:=enumA_e h₀
  rw[Bool.and_eq_true] at ok
  refine wpAny_For (wpAny_Call_NameR (wpAny_Name (ld_bi Gd fit H (x:="enumerate") (v:=.type "enumerate") (eq_of_beq ok.1) (dE rfl) (by decide +kernel) ?_ (dE rfl)))) (λx=>rfl)
  refine rE (star_cons ok.2) ?_
  refine callWith_type1 (snd.E h fit H λc v σ₁ s₁ hc H₁ h₁=>?_)
  refine onRef_e h₁ hc λc h₁=>?_
  obtain ⟨xs,er,hz,I,i0,iend,iturn⟩:=h₁
  refine xEEA (pl_rd Gd H₁ er) λvs n hl hx=>?_
  refine call_enumerate_1 hl λh' he hi hz' kk=>wpAny_pyIter_enum he ?_
  have n0:s₁.heap.get? s₁.heap.objs.size=none:=get_none_size
  have n1:s₁.heap.get? (s₁.heap.objs.size + 1)=none:=Heap.get?_none_of_le (Nat.le_succ _)
  refine codeAny_mono (for_enum Gd snd fit I (H₁.grow (t:=s₁.toks) kk) he hi (Nat.succ_ne_self _) (alien_new H₁ n1) (alien_new H₁ n0) i0 iend iturn) λr s' hr=>?_
  induction r<;>exact hr
end
noncomputable def clo (env:Env):List (Str×NameKind)→List (Str×Addr)→List (Str×Addr)
 |[],acc=>acc
 |(n,k) :: r,acc=>if k == .free then (match env.cells.lookup n with|some c=>clo env r ((n,c) :: acc)|none=>clo env r acc) else clo env r acc
theorem clo_c {env:Env} {n:Str} {k:NameKind} {r:List (Str×NameKind)} {acc:List (Str×Addr)}:clo env ((n,k) :: r) acc=if k == .free then (match env.cells.lookup n with|some c=>clo env r ((n,c) :: acc)|none=>clo env r acc) else clo env r acc:=rfl
set_option tactic.hygienic true in
theorem mem_clo {env:Env}:∀{names:List (Str×NameKind)} {acc:List (Str×Addr)} {x:Str} {c:Addr},(x,c)∈clo env names acc↔(x,c)∈acc∨((x,NameKind.free)∈names∧env.cells.lookup x=some c):=by
 intro names
 induction names with
 |nil=>
  intro acc x c
  show _∈acc↔_;simp
 |cons p0 r ih=>
  obtain ⟨n,k⟩:=p0
  intro acc x c
  rw[clo_c]
  by_cases hk:k=.free
  ·subst hk
   refine rE (if_pos (dE rfl:(NameKind.free == NameKind.free)=true)) ?_
   split
   ·rename_i c' e
    rw[ih]
    constructor
    ·rintro (h|h)
     ·rcases List.mem_cons.mp h with h|h
      ·cases h;exact .inr ⟨.head _,e⟩
      ·exact .inl h
     ·exact .inr ⟨.tail _ h.1,h.2⟩
    ·rintro (h|⟨h,e'⟩)
     ·exact .inl (.tail _ h)
     ·rcases List.mem_cons.mp h with h|h
      ·cases h;rw[e] at e';(have e':=sJ e';subst e');exact .inl (.head _)
      ·exact .inr ⟨h,e'⟩
   ·rename_i e
    rw[ih]
    constructor
    ·rintro (h|h)
     ·exact .inl h
     ·exact .inr ⟨.tail _ h.1,h.2⟩
    ·rintro (h|⟨h,e'⟩)
     ·exact .inl h
     ·rcases List.mem_cons.mp h with h|h
      ·cases h;rw[e] at e';exact nn e'
      ·exact .inr ⟨h,e'⟩
  ·rw[if_neg (by simpa using hk),ih]
   constructor
   ·rintro (h|h)
    ·exact .inl h
    ·exact .inr ⟨.tail _ h.1,h.2⟩
   ·rintro (h|⟨h,e'⟩)
    ·exact .inl h
    ·rcases List.mem_cons.mp h with h|h
     ·cases h;exact absurd rfl hk
     ·exact .inr ⟨h,e'⟩
theorem lookup_mem_some {α β:Type} [BEq α] [LawfulBEq α]:∀{l:List (α×β)} {x:α} {c:β},(x,c)∈l→∃c',l.lookup x=some c':=by
 intro l
 induction l with
 |nil=>intro x c h;cases h
 |cons p r ih=>
  obtain ⟨a,b⟩:=p
  intro x c h
  refine rE List.lookup_cons ?_
  induction q:x == a with
  |true=>exact ⟨_,rfl⟩
  |false=>
   rcases List.mem_cons.mp h with h|h
   ·cases h;rw[beq_self_eq_true] at q;exact nF q.symm
   ·exact ih h
theorem clo_lookup {env:Env} {names:List (Str×NameKind)} {x:Str} {c:Addr}:(clo env names []).lookup x=some c↔(x,NameKind.free)∈names∧env.cells.lookup x=some c:=by
 constructor
 ·intro h
  rcases mem_clo.mp (lk_mem h) with h|h
  ·cases h
  ·exact h
 ·intro h
  obtain ⟨c',e⟩:=lookup_mem_some (mem_clo.mpr (.inr h):(x,c)∈clo env names [])
  rcases mem_clo.mp (lk_mem e) with q|q
  ·cases q
  ·(refine rE e ?_;refine rL h.2 ?_;exact rE q.2 rfl)
theorem clo_apart {env:Env} (ap:env.cells.Pairwise λx y=>x.2≠y.2):∀{names:List (Str×NameKind)} {acc:List (Str×Addr)},(names.map (·.1)).Nodup→(acc.Pairwise λx y=>x.2≠y.2)→(∀p∈acc,env.cells.lookup p.1=some p.2∧p.1∉names.map (·.1))→
 (clo env names acc).Pairwise λx y=>x.2≠y.2:=by
 intro names
 induction names with
 |nil=>
  intro acc _ h _
  exact h
 |cons p0 r ih=>
  obtain ⟨n,k⟩:=p0
  intro acc nd h hacc
  rw[List.map_cons,List.nodup_cons] at nd
  have hr:∀p∈acc,env.cells.lookup p.1=some p.2∧p.1∉r.map (·.1):=λp hp=>⟨(hacc p hp).1,λq=>(hacc p hp).2 (.tail _ q)⟩
  rw[clo_c]
  split
  ·split
   ·rename_i c e
    refine ih nd.2 (List.pairwise_cons.mpr ⟨λp hp q=>?_,h⟩) λp hp=>?_
    ·have z:n=p.1:=name_of_addr ap (lk_mem e) (by refine rE (show c=p.2 from q) ?_;exact lk_mem (hacc p hp).1)
     exact (hacc p hp).2 (by refine rL z ?_;exact .head _)
    ·rcases List.mem_cons.mp hp with rfl|hp
     ·exact ⟨e,nd.1⟩
     ·exact hr p hp
   ·exact ih nd.2 h hr
  ·exact ih nd.2 h hr
theorem closure_eq {scope:Scope} {env:Env} (h:∀x∈scope.names,x.2=.free→(env.cells.lookup x.1).isSome=true):closureFor scope env=pure (clo env scope.names []):=by
 unfold closureFor
 have key:∀(names:List (Str×NameKind)) (acc:List (Str×Addr)),(∀x∈names,x.2=.free→(env.cells.lookup x.1).isSome=true)→
  (forIn names acc λ(x:Str×NameKind) (r:List (Str×Addr))=>(match x with|(name,kind)=>if (kind == NameKind.free)=true then do let c ←cellOf env name;pure (ForInStep.yield ((name,c) :: r)) else pure (ForInStep.yield r):Sem (ForInStep (List (Str×Addr)))))=pure (clo env names acc):=by
  intro names
  induction names with
  |nil=>intro acc _;rfl
  |cons x r ih=>
   intro acc hx
   obtain ⟨n,k⟩:=x
   rw[List.forIn_cons]
   have hr:∀x∈r,x.2=.free→(env.cells.lookup x.1).isSome=true:=λx q=>hx x (.tail _ q)
   rw[clo_c]
   by_cases hk:k=.free
   ·subst hk
    obtain ⟨c,e⟩:=Option.isSome_iff_exists.mp (hx (n,.free) (.head _) rfl)
    have q:cellOf env n=pure c:=by unfold cellOf;dsimp only at e;exact rE e rfl
    dsimp only at e ⊢
    (refine rE (if_pos (dE rfl:(NameKind.free == NameKind.free)=true)) ?_;refine rE (if_pos (dE rfl:(NameKind.free == NameKind.free)=true)) ?_;refine rE q ?_;refine rE e ?_)
    exact ih _ hr
   ·have hb:(k == NameKind.free)=false:=by simpa using hk
    dsimp only
    refine rE hb ?_
    exact ih _ hr
 refine Eq.trans ?_ (key scope.names [] h)
 first
  |exact bind_pure _
  |rfl
section
variable {prog:Program} {w:World} {B:Heap} {K:Frag} {Γ:Cx} {A:Around} {F:FQ} {ρ:Loc} {σ:AH} {s:Shared} {E:Value→Shared→Prop}
noncomputable abbrev cEnv (sc:Scope) (F:FQ) (C:Addr):Env:=compEnvC sc (clo F.env sc.names []) C F.env
noncomputable abbrev FQ.comp (F:FQ) (sc:Scope) (C:Addr) (σ:AH) (s:Shared):FQ:=⟨F.l,cEnv sc F C,(·=C),σ,s⟩
theorem FS.aliens {l:List Env} {env:Env} {h':Heap} {t:Tok} (H:FS prog w B l env ρ σ s) (P:Addr→Prop) (hP:∀b,P b→B.get? b=none∧¬Mut σ b∧b∉frs l∧∀o,s.heap.get? b=some o→¬IsCode o)
 (hL:¬P env.locals) (hC:∀x c,env.cells.lookup x=some c→¬P c) (k:∀b o,¬P b→s.heap.get? b=some o→h'.get? b=some o):FS prog w B l env ρ σ { s with heap:=h',toks:=t }:=by
 have e0:∀b:Addr,({}:Heap).get? b=none:=λb=>by simp[Heap.get?]
 have A0:At prog w B ⟨l,env,none',σ,{ s with heap:={} }⟩ ρ σ s:=⟨H,⟨(λb o e=>by rw[show ({ s with heap:={} }:Shared).heap.get? b=none from e0 b] at e;exact nn e),λb m=>.inl m,λb _=>e0 b,rfl,rfl,rfl⟩⟩
 exact (A0.aliens (t:=t) P (λb p=>⟨e0 b,hP b p⟩) hL hC k).fs
structure OkC (Γ:Cx) (sc:Scope):Prop where
 kind:sc.kind=.function
 kinds:∀p∈sc.names,p.2=.local∨p.2=.free∨p.2=.globalImplicit
 free:∀x,(x,NameKind.free)∈sc.names→Γ.nm.lookup x=some .cell∨Γ.nm.lookup x=some .free
 nodup:(sc.names.map (·.1)).Nodup
theorem okC {sc:Scope} {gens} (h:compOk Γ sc gens=true):OkC Γ sc:=by
 unfold compOk at h
 simp only[Bool.and_eq_true,beq_iff_eq,decide_eq_true_eq] at h
 obtain ⟨⟨⟨h1,h2⟩,h3⟩,h4⟩:=h
 refine ⟨h1,λp hp=>?_,λx hx=>?_,h4⟩
 ·have:=List.all_eq_true.mp h2 p hp
  simp only[Bool.or_eq_true,beq_iff_eq] at this
  rcases this with (q|q)|q
  ·exact .inl q
  ·exact .inr (.inl q)
  ·exact .inr (.inr q)
 ·have:=List.all_eq_true.mp h3 (x,.free) hx
  simpa using this
theorem kindC {env:Env}:∀{names:List (Str×NameKind)} {x:Str} {k:NameKind},
 (names.map λ(n,k)=>if (k == NameKind.free && env.scope.kind == .function && env.kindOf n == some .cell) then (n,NameKind.cell) else (n,k)).lookup x=some k→
  ∃k',names.lookup x=some k'∧k=(if (k' == NameKind.free && env.scope.kind == .function && env.kindOf x == some .cell) then NameKind.cell else k'):=by
 intro names
 induction names with
 |nil=>
  intro x k h
  exact nn h
 |cons p0 r ih=>
  obtain ⟨n,k₀⟩:=p0
  intro x k h
  have sh:(List.lookup x ((if (k₀ == NameKind.free && env.scope.kind == .function && env.kindOf n == some .cell)=true then (n,NameKind.cell) else (n,k₀)) :: (r.map λ(n,k)=>if (k == NameKind.free && env.scope.kind == .function && env.kindOf n == some .cell) then (n,NameKind.cell) else (n,k))))=some k:=h
  rw[List.lookup_cons] at sh ⊢
  induction q:x == n with
  |true=>
   obtain rfl:=eq_of_beq q
   refine iEA k₀ rfl ?_
   by_cases c:(k₀ == NameKind.free && env.scope.kind == .function && env.kindOf x == some .cell)=true
   ·rw[if_pos c] at sh ⊢;simp at sh;exact sh.symm
   ·rw[if_neg c] at sh ⊢;simp at sh;exact sh.symm
  |false=>
   by_cases c:(k₀ == NameKind.free && env.scope.kind == .function && env.kindOf n == some .cell)=true
   ·rw[if_pos c] at sh;simp only[q] at sh;exact ih sh
   ·rw[if_neg c] at sh;simp only[q] at sh;exact ih sh
theorem kindC_to {env:Env}:∀{names:List (Str×NameKind)} {x:Str} {k':NameKind},names.lookup x=some k'→
 (names.map λ(n,k)=>if (k == NameKind.free && env.scope.kind == .function && env.kindOf n == some .cell) then (n,NameKind.cell) else (n,k)).lookup x=some (if (k' == NameKind.free && env.scope.kind == .function && env.kindOf x == some .cell) then NameKind.cell else k'):=by
 intro names
 induction names with
 |nil=>
  intro x k h
  exact nn h
 |cons p0 r ih=>
  obtain ⟨n,k₀⟩:=p0
  intro x k h
  show (List.lookup x ((if (k₀ == NameKind.free && env.scope.kind == .function && env.kindOf n == some .cell)=true then (n,NameKind.cell) else (n,k₀)) :: (r.map λ(n,k)=>if (k == NameKind.free && env.scope.kind == .function && env.kindOf n == some .cell) then (n,NameKind.cell) else (n,k))))=_
  rw[List.lookup_cons] at h
  induction q:x == n with
  |true=>
   obtain rfl:=eq_of_beq q
   rw[q] at h;(have h:=sJ h;subst h)
   by_cases c:(k₀ == NameKind.free && env.scope.kind == .function && env.kindOf x == some .cell)=true
   ·(refine rE (if_pos c) ?_;refine rE (if_pos c) ?_;refine rE List.lookup_cons ?_;exact rE q rfl)
   ·(refine rE (if_neg c) ?_;refine rE (if_neg c) ?_;refine rE List.lookup_cons ?_;exact rE q rfl)
  |false=>
   rw[q] at h
   by_cases c:(k₀ == NameKind.free && env.scope.kind == .function && env.kindOf n == some .cell)=true
   ·(refine rE (if_pos c) ?_;refine rE List.lookup_cons ?_;refine rE q ?_);exact ih h
   ·(refine rE (if_neg c) ?_;refine rE List.lookup_cons ?_;refine rE q ?_);exact ih h
theorem compLoc_get {sc:Scope}:∀{x:Str} {a:AV},(compLoc sc ρ).get x=some a→(x,NameKind.free)∈sc.names∧ρ.get x=some a:=by
 unfold compLoc
 generalize sc.names=names
 induction names with
 |nil=>intro x a h;exact nn h
 |cons p r ih=>
  intro x a h
  obtain ⟨n,k⟩:=p
  simp only[Loc.get,List.map_cons,List.lookup_cons] at h
  induction q:x == n with
  |true=>
   obtain rfl:=eq_of_beq q
   rw[q] at h
   by_cases c:(k == NameKind.free)=true
   ·rw[if_pos c] at h
    obtain rfl:=eq_of_beq c
    exact ⟨.head _,h⟩
   ·rw[if_neg c] at h;exact nn h
  |false=>
   rw[q] at h
   obtain ⟨h1,h2⟩:=ih h
   exact ⟨.tail _ h1,h2⟩
theorem outer_free (fit:Fit prog w B Γ A F) {sc:Scope} (ok:OkC Γ sc) {x:Str} (h:(x,NameKind.free)∈sc.names):F.env.kindOf x=some .cell∨F.env.kindOf x=some .free:=by
 rcases ok.free x h with q|q
 ·exact .inl (fit.cel x q)
 ·exact (fit.fre x q).symm
theorem fitC (fit:Fit prog w B Γ A F) {sc:Scope} (ok:OkC Γ sc) {C:Addr} (H:At prog w B F ρ σ s) (hC:s.heap.get? C≠none) (hB:B.get? C=none):Fit prog w B (ΓC Γ sc) A (F.comp sc C σ s):=by
 have up:∀{x k},sc.names.lookup x=some k→(cEnv sc F C).kindOf x=some (if (k == NameKind.free && F.env.scope.kind == .function && F.env.kindOf x == some .cell) then NameKind.cell else k):=λh=>kindC_to h
 have fk:(F.env.scope.kind == ScopeKind.function)=true:=by refine rE fit.kind ?_;rfl
 refine ⟨λx h=>up h,λx h=>?_,λx h=>?_,λx h=>up h,ok.kind,fit.g,fit.b,fit.frames,fit.handled,fit.room,fit.call,rfl,λx c h _=>?_,.inr λv σ h=>h,hB,λb q=>?_,λx c h=>?_,λP q h=>nomatch h⟩
 ·rcases ok.kinds _ (lk_mem h) with q|q|q<;>exact nC NameKind.ctorIdx q rfl
 ·have z:=up h
  rw[fk] at z
  rcases outer_free fit ok (lk_mem h) with q|q
  ·right;(refine rE z ?_;refine rE q ?_);rfl
  ·left;(refine rE z ?_;refine rE q ?_);rfl
 ·rcases ok.kinds _ (lk_mem h) with q|q|q<;>exact nC NameKind.ctorIdx q rfl
 ·subst q;exact hC
 ·exact fit.newC x c (clo_lookup.mp h).2
theorem fsC (fit:Fit prog w B Γ A F) {sc:Scope} (ok:OkC Γ sc) {C:Addr} (H:At prog w B F ρ σ s) (hn:∃m,s.heap.Ns C m) (nm:¬Mut σ C):FS prog w B F.l (cEnv sc F C) (compLoc sc ρ) σ s:=by
 have fk:(F.env.scope.kind == ScopeKind.function)=true:=by refine rE fit.kind ?_;rfl
 obtain ⟨m,hn⟩:=hn
 refine ⟨H.fs.ws,⟨⟨m,hn,λx a hk e=>?_⟩,λx c e=>?_,λx hk=>?_,clo_apart H.fs.loc.apart ok.nodup .nil λp hp=>by cases hp⟩,nm⟩
 ·obtain ⟨h1,_⟩:=compLoc_get e
  refine xEA (kindC hk) λk' e1 e2=>?_
  exfalso
  have:∀{names:List (Str×NameKind)},(names.map (·.1)).Nodup→(x,NameKind.free)∈names→names.lookup x=some .free:=by
   intro names
   induction names with
   |nil=>intro _ h;cases h
   |cons p r ih=>
    intro nd h
    obtain ⟨n,k⟩:=p
    rw[List.map_cons,List.nodup_cons] at nd
    refine rE List.lookup_cons ?_
    rcases List.mem_cons.mp h with h'|h'
    ·cases h';simp
    ·have:(x == n)=false:=by
      rw[beq_eq_false_iff_ne];intro q
      exact nd.1 (List.mem_map.mpr ⟨_,h',q⟩)
     refine rE this ?_;exact ih nd.2 h'
  rw[this ok.nodup h1] at e1
  (have e1:=sJ e1;subst e1)
  rcases outer_free fit ok h1 with q|q
  ·rw[q,fk] at e2;cases e2
  ·rw[q,fk] at e2;cases e2
 ·obtain ⟨h1,h2⟩:=clo_lookup.mp e
  refine xEA (H.fs.loc.cell x c h2) λv hv k=>?_
  exact iEA v hv (λa _ ea=>k a (outer_free fit ok h1) (compLoc_get ea).2)
 ·have fr:(x,NameKind.free)∈sc.names:=by
   rcases hk with hk|hk
   ·refine xEA (kindC hk) λk' e1 e2=>?_
    rcases ok.kinds _ (lk_mem e1) with q|q|q
    ·rw[show k'=.local from q] at e2;cases e2
    ·refine rL (show k'=.free from q) ?_;exact lk_mem e1
    ·rw[show k'=.globalImplicit from q] at e2;cases e2
   ·refine xEA (kindC hk) λk' e1 e2=>?_
    rcases ok.kinds _ (lk_mem e1) with q|q|q
    ·rw[show k'=.local from q] at e2;cases e2
    ·refine rL (show k'=.free from q) ?_;exact lk_mem e1
    ·rw[show k'=.globalImplicit from q] at e2;cases e2
  obtain ⟨c,ec⟩:=Option.isSome_iff_exists.mp (H.fs.loc.has x (outer_free fit ok fr))
  refine rE (show (cEnv sc F C).cells.lookup x=some c from clo_lookup.mpr ⟨fr,ec⟩) ?_;rfl
theorem outC (fit:Fit prog w B Γ A F) {sc:Scope} {C:Addr} {ρ' σ' s'} (H:At prog w B F ρ σ s) (hn:∃m,s.heap.Ns C m) (new:F.s₀.heap.get? C=none) (hF:C∉frs F.l) (H':At prog w B (F.comp sc C σ s) ρ' σ' s'):At prog w B F ρ σ' s':=by
 have hL:¬F.env.locals=C:=λq=>fit.old _ fit.mineL (q▸new)
 refine ⟨⟨H'.fs.ws,H.fs.loc.ev H'.ev H.fs.ws.rep H.fs.sepL hL λx c e q=>?_,λm=>?_⟩,?_⟩
 ·(refine xEA (H.fs.loc.cell x c e) λ_=>?_;(rintro zz;refine xEA zz λo ho hd _=>?_))
  refine xEEEEAA hn λm o' es ep ho' hd' _=>?_
  rw[show c=C from q,ho'] at ho;(have ho:=sJ ho;subst ho);rw[hd'] at hd;exact nC Data.ctorIdx hd rfl
 ·rcases H'.ev.fr _ m with q|q
  ·exact H.fs.sepL q
  ·exact ns_some H.fs q
 ·refine ⟨λb o e m n=>?_,λb m=>?_,λb e=>H.ev.th b (H'.ev.th b e),?_⟩
  ·refine xEA (H.ev.kp b o e m n) λo₁ e₁ q₁=>?_
   have nm:¬Mut σ b:=λm'=>(H.ev.fr b m').elim m λq=>by rw[q] at e;exact nn e
   obtain ⟨o₂,e₂,q₂⟩:=H'.ev.kp b o₁ e₁ nm λq=>by rw[show b=C from q,new] at e;exact nn e
   refine iEA o₂ e₂ ?_
   rcases q₁ with rfl|⟨f,sl,rfl⟩
   ·exact q₂
   ·rcases q₂ with rfl|⟨_,sl',rfl⟩
    ·exact .inr ⟨f,sl,rfl⟩
    ·exact .inr ⟨f,sl',rfl⟩
  ·rcases H'.ev.fr b m with q|q
   ·exact H.ev.fr b q
   ·exact .inr (H.ev.th b q)
  ·exact iAA (H'.ev.same.1.trans H.ev.same.1) (H'.ev.same.2.1.trans H.ev.same.2.1) (H'.ev.same.2.2.trans H.ev.same.2.2)
end
section
variable {prog:Program} {w:World} {B:Heap} {K:Frag} {Γ:Cx} {A:Around} {F:FQ} {ρ ρi:Loc} {σ:AH} {s:Shared} {E:Value→Shared→Prop} {sc:Scope} {C D:Addr} {acc:List AV}
structure CompSt (prog:Program) (w:World) (B:Heap) (F:FQ) (sc:Scope) (C D:Addr) (ρ:Loc) (acc:List AV) (ρi:Loc) (σ:AH) (s:Shared):Prop where
 out:At prog w B F ρ σ s
 inn:FS prog w B F.l (cEnv sc F C) ρi σ s
 cn:F.s₀.heap.get? C=none
 cb:B.get? C=none
 cf:C∉frs F.l
 dn:F.s₀.heap.get? D=none
 db:B.get? D=none
 df:¬Mut σ D
 dF:D∉frs F.l
 d2:2 < D
 lst:∃vs n,IsL s.heap D vs.toArray n∧AllIs acc vs
theorem CompSt.here (X:CompSt prog w B F sc C D ρ acc ρi σ s):At prog w B (F.comp sc C σ s) ρi σ s:=⟨X.inn,.refl _ _ _ _⟩
theorem CompSt.ns (X:CompSt prog w B F sc C D ρ acc ρi σ s):∃m,s.heap.Ns C m:=by refine xEA X.inn.loc.ns λm h _=>?_;exact ⟨m,h⟩
theorem CompSt.there (X:CompSt prog w B F sc C D ρ acc ρi σ s):s.heap.get? C≠none:=ns_some X.inn
theorem CompSt.dC (X:CompSt prog w B F sc C D ρ acc ρi σ s):D≠C:=by
 rintro rfl
 refine xEEEEAA X.ns λm o es ep ho hd _=>?_
 refine xEEA X.lst λvs n hl _=>?_
 rw[show s.heap.get? D=_ from hl] at ho;(have ho:=sJ ho;subst ho);exact nC Data.ctorIdx hd rfl
theorem CompSt.go (fit:Fit prog w B Γ A F) {ρ' σ' s'} (X:CompSt prog w B F sc C D ρ acc ρi σ s) (H:At prog w B (F.comp sc C σ s) ρ' σ' s'):CompSt prog w B F sc C D ρ acc ρ' σ' s':=by
 refine xEEA X.lst λvs n hl hi=>?_
 refine ⟨outC fit X.out X.ns X.cn X.cf H,H.fs,X.cn,X.cb,X.cf,X.dn,X.db,λm=>?_,X.dF,X.d2,vs,n,?_,hi⟩
 ·rcases H.ev.fr D m with q|q
  ·exact X.df q
  ·have z:s.heap.get? D=some (listObj vs n):=hl
   rw[show s.heap.get? D=none from q] at z;exact nn z
 ·refine xEA (H.ev.kp D _ hl X.df X.dC) λo e q=>?_
  rcases q with rfl|⟨q,_⟩
  ·exact e
  ·exact absurd q X.dF
theorem CompSt.but {h':Heap} {t:Tok} {it:Addr} (fit:Fit prog w B Γ A F) (X:CompSt prog w B F sc C D ρ acc ρi σ s) (al:Alien B F σ it) (r:∃o vs,s.heap.get? it=some o∧o.data=.fields vs∧∀q t,vs[1]?≠some (.str q t)) (k:Heap.ExtBut it s.heap h') :
 CompSt prog w B F sc C D ρ acc ρi σ { s with heap:=h',toks:=t }:=by
 refine xEEA X.lst λvs n hl hi=>?_
 refine xEEAA r λo fs e d ns=>?_
 refine ⟨X.out.but al ⟨o,fs,e,d,ns⟩ k,X.inn.aliens (·=it) (λb p=>?_) (λq=>?_) (λx c ec q=>?_) (λb o p q=>k b o p q),X.cn,X.cb,X.cf,X.dn,X.db,X.df,X.dF,X.d2,vs,n,k D _ (λq=>?_) hl,hi⟩
 ·subst p;exact iAA al.base al.free (rec_ok X.out.fs.ws e d ns)
 ·refine xEEEEAA X.ns λm o' es ep ho hd _=>?_
  rw[show C=it from q,e] at ho;(have ho:=sJ ho;subst ho);rw[d] at hd;exact nC Data.ctorIdx hd rfl
 ·(refine xEA (X.inn.loc.cell x c ec) λv=>?_;(rintro zz;refine xEA zz λo' ho hd _=>?_))
  rw[show c=it from q,e] at ho;(have ho:=sJ ho;subst ho);rw[d] at hd;exact nC Data.ctorIdx hd rfl
 ·have z:s.heap.get? D=some (listObj vs n):=hl
  rw[q,e] at z;(have z:=sJ z;subst z);exact nC Data.ctorIdx d rfl
theorem CompSt.append (fit:Fit prog w B Γ A F) {a:AV} {v:Value} {Q:Value→Shared→Prop} (X:CompSt prog w B F sc C D ρ acc ρi σ s) (ha:a.Is v) (hz:acc.length≤100000) (h:∀s',CompSt prog w B F sc C D ρ (acc ++ [a]) ρi σ s'→(∀b,b≠D→s'.heap.get? b=s.heap.get? b)→Q .none s') :
 wpAny (model prog w) A (call (.builtin "list.append") [.ref D,v]) Q E s:=by
 refine xEEA X.lst λvs n hl hi=>?_
 have l:=hi.length
 refine call_meets PySem.F.slot_list_append ⟨_,hl,rfl⟩ PySem.F.entry_list_append (PySem.F.args_list_append_2 _ _) (list_append D vs.toArray n v (by (refine rE List.size_toArray ?_;refine rE sizeLine_eq ?_);lia)) ⟨hl,h _ ?_ λb q=>(Heap.SameBut.update s.heap D _).2 b q⟩
 have sb:Heap.SameBut D s.heap (s.heap.update D (Obj.mapSeq λx=>x.push v)):=Heap.SameBut.update ..
 have hl':IsL (s.heap.update D (Obj.mapSeq λx=>x.push v)) D (vs.toArray.push v) _:=IsL.update hl λx=>x.push v
 have hl2:=hl'
 rw[List.push_toArray] at hl2
 have nc:∀o,s.heap.get? D=some o→¬IsCode o:=λo e zz=>xEEEA zz λ_ _ _ d _=>by rw[show s.heap.get? D=_ from hl] at e;(have e:=sJ e;subst e);exact nC Data.ctorIdx d rfl
 refine ⟨X.out.aliens (t:=s.toks) (·=D) (λb p=>by subst p;exact ⟨X.dn,X.db,X.df,X.dF,nc⟩) (λq=>?_) (λx c ec q=>?_) (λb o p q=>(sb.2 b p).trans q),
  X.inn.aliens (t:=s.toks) (·=D) (λb p=>by subst p;exact ⟨X.db,X.df,X.dF,nc⟩) (λq=>X.dC q.symm) (λx c ec q=>?_) (λb o p q=>(sb.2 b p).trans q),X.cn,X.cb,X.cf,X.dn,X.db,X.df,X.dF,X.d2,vs ++ [v],_,hl2,hi.snoc ha⟩
 ·exact fit.old _ fit.mineL (by refine rE (show F.env.locals=D from q) ?_;exact X.dn)
 ·(refine xEA (X.out.fs.loc.cell x c ec) λ_=>?_;(rintro zz;refine xEA zz λo' ho hd _=>?_))
  rw[show c=D from q,show s.heap.get? D=_ from hl] at ho;(have ho:=sJ ho;subst ho);exact nC Data.ctorIdx hd rfl
 ·(refine xEA (X.inn.loc.cell x c ec) λ_=>?_;(rintro zz;refine xEA zz λo' ho hd _=>?_))
  rw[show c=D from q,show s.heap.get? D=_ from hl] at ho;(have ho:=sJ ho;subst ho);exact nC Data.ctorIdx hd rfl
theorem no_err {F:FQ} {X:Post} {P:Value→Shared→Prop} (h:∀v σ,¬X v σ):∀e s,Err prog w B F X e s→P e s:=λe s z=>by
 obtain ⟨v,σ,_,_,_,x⟩:=z;exact absurd x (h v σ)
noncomputable abbrev testsOf (env:Env) (ts:List Expr) (b:Bool):Sem Bool:=forIn ts b λc (b:Bool)=>(if b=true then do let ok ←isTrue c env (eval c env);pure (ForInStep.yield ok) else pure (ForInStep.yield b):Sem (ForInStep Bool))
theorem tests_no {env:Env} (l:List Expr):testsOf env l false=pure false:=by
 induction l with
 |nil=>rfl
 |cons x r ih=>
  unfold testsOf
  rw[List.forIn_cons,if_neg Bool.false_ne_true]
  exact ih
theorem tests_at {R:Ops} (snd:Snd prog w B R) (fit:Fit prog w B Γ A F) {ts:List Expr}:∀{σ:AH} {s:Shared} {Q:BPost},tests R Γ ρ ts σ Q→At prog w B F ρ σ s→
 wpAny (model prog w) A (testsOf F.env ts true) (RTx prog w B F ρ Q) (Err prog w B F Γ.X) s:=by
 induction ts with
 |nil=>intro σ s Q h H;exact wpAny_pure ⟨σ,H,h⟩
 |cons t ts ih=>
  intro σ s Q h H
  unfold testsOf
  rw[List.forIn_cons,if_pos rfl]
  refine wpAny_bind (wpAny_bind (snd.T h fit H λb σ₁ s₁ H₁ h₁=>wpAny_pure ?_))
  induction b with
  |true=>exact ih (Q:=Q) h₁ H₁
  |false=>
   show wpAny _ _ (testsOf F.env ts false) _ _ _
   refine rE (tests_no _) ?_
   exact wpAny_pure ⟨σ₁,H₁,h₁⟩
noncomputable abbrev IsRec (h:Heap) (b:Addr):Prop:=∃o vs,h.get? b=some o∧o.data=.fields vs∧∀q t,vs[1]?≠some (.str q t)
noncomputable def Kept (B:Heap) (F:FQ) (P:Addr→Prop) (h₀:Heap) (σ:AH) (s:Shared):Prop:=∀b,P b→IsRec h₀ b∧s.heap.get? b=h₀.get? b∧Alien B F σ b
theorem Kept.rec {P:Addr→Prop} {h₀:Heap} (k:Kept B F P h₀ σ s) {b:Addr} (p:P b):IsRec s.heap b:=by
 (refine xAA (k b p) ?_;(rintro zz;refine xEEA zz λo vs e r q _=>?_))
 exact iEEA o vs (q.trans e) r
theorem kept_on {ρ' σ' s'} (X:CompSt prog w B F sc C D ρ acc ρi σ s) (H':At prog w B (F.comp sc C σ s) ρ' σ' s') {b:Addr} (al:Alien B F σ b) (r:IsRec s.heap b):Alien B F σ' b∧s'.heap.get? b=s.heap.get? b:=by
 refine xEEAA r λo fs e d ns=>?_
 refine ⟨⟨al.new,al.base,λm=>?_⟩,?_⟩
 ·rcases H'.ev.fr b m with q|q
  ·exact al.free q
  ·rw[show s.heap.get? b=none from q] at e;exact nn e
 ·obtain ⟨o₂,e₂,q⟩:=H'.ev.kp b o e al.free λow=>by
   obtain ⟨m,oc,es,ep,ho,hd',_⟩:=X.ns
   rw[←show b=C from ow,e] at ho;(have ho:=sJ ho;subst ho);rw[d] at hd';exact nC Data.ctorIdx hd' rfl
  rcases q with rfl|⟨q,_⟩
  ·(refine rE e₂ ?_;exact rE e rfl)
  ·refine xAEA (X.out.fs.ws.frames.mem q) λ_ o₃ e₃ d₃=>?_
   rw[e] at e₃;(have e₃:=sJ e₃;subst e₃)
   exact absurd d (d₃ fs)
theorem Kept.on {P:Addr→Prop} {h₀:Heap} {ρ' σ' s'} (k:Kept B F P h₀ σ s) (X:CompSt prog w B F sc C D ρ acc ρi σ s) (H':At prog w B (F.comp sc C σ s) ρ' σ' s'):Kept B F P h₀ σ' s':=λb p=>by
 obtain ⟨al,q⟩:=kept_on X H' (k b p).2.2 (k.rec p)
 exact iAA ((k b p).1) (q.trans (k b p).2.1) al
theorem itAt_eq {h h':Heap} {it:Addr} {src:Src} {i:Nat} (x:ItAt h it src i) (e:h'.get? it=h.get? it):ItAt h' it src i:=itAt_keep x λo q=>e.trans q
inductive RkI (prog:Program) (w:World) (B:Heap) (F:FQ) (sc:Scope) (C D:Addr) (ρ:Loc) (P:Addr→Prop) (h₀:Heap) (k:CPost) (s':Shared):Prop
 |mk (acc:List AV) (ρi:Loc) (σ:AH) (X:CompSt prog w B F sc C D ρ acc ρi σ s') (kp:Kept B F P h₀ σ s') (q:k acc ρi σ):RkI prog w B F sc C D ρ P h₀ k s'
noncomputable def Rk (prog:Program) (w:World) (B:Heap) (F:FQ) (sc:Scope) (C D:Addr) (ρ:Loc) (P:Addr→Prop) (h₀:Heap) (k:CPost):Result→Shared→Prop:=λr s'=>match r with
 |.ok _=>RkI prog w B F sc C D ρ P h₀ k s'
 |.error _=>False
theorem itAt_again {env:Env} {it:Addr} {src:Src} {i:Nat} {Q:Value→Shared→Prop} (hi:ItAt s.heap it src i) (h:Q (.ref it) s):wpAny (model prog w) A (pyIter (.ref it)) Q E s:=by
 induction src with
 |lst a xs=>exact wpAny_pyIter_listiter hi h
 |tpl a xs=>exact wpAny_pyIter_tupleiter hi h
 |nums n=>exact wpAny_pyIter_rangeiter hi h
 |keys a ep kvs=>exact wpAny_pyIter_keyiter hi h
theorem comp_start {elt:Expr} {gens:List Comprehension} {pos:Pos} {j:Nat} {g:Comprehension} {ita:Addr} {ac:Value} {env:Env} {src:Src} {i:Nat} {R:Result→Shared→Prop} (hg:gens[j]?=some g) (ha:g.is_async=0) (hi:ItAt s.heap ita src i)
 (h:codeAny (model prog w) A (.compLoop (.ListComp elt gens sc pos) j (.ref ita) ac env) R s):codeAny (model prog w) A (.compStart (.ListComp elt gens sc pos) j (.ref ita) ac env) R s:=by
 refine codeAny_of_tree ?_
 show wpAny _ _ ((compStart (.ListComp elt gens sc pos) j (.ref ita) ac env).onRaise (λx=>do noteFrame x env;standAt theWindowsPlace)) _ _ s
 refine wpAny_notedAt ?_
 unfold compStart
 have e1:((clausesOf (.ListComp elt gens sc pos))[j]?).elim false (·.is_async != 0)=false:=by
  show (gens[j]?).elim false (·.is_async != 0)=false
  refine rE hg ?_;show (g.is_async != 0)=false;refine rE ha ?_;rfl
 refine rE e1 ?_
 refine rE (if_neg Bool.false_ne_true) ?_
 have e2:(clausesOf (.ListComp elt gens sc pos))[j]?=some g:=hg
 refine rE e2 ?_
 refine wpAny_bind (wpAny_askSetting (wpAny_ite ?_))
 split
 ·first
   |exact wpAny_bind (wpAny_pure (wpAny_pure (And.intro rfl h)))
   |exact wpAny_pure (And.intro rfl h)
 ·refine wpAny_bind (wpAny_rule (wpAny_bind (wpAny_standAt (wpAny_bind (itAt_again (env:=env) hi ?_)))))
  exact wpAny_pure (And.intro rfl h)
noncomputable abbrev bodyOf (elt:Expr) (gens:List Comprehension) (sc:Scope) (pos:Pos) (j:Nat) (it ac:Value) (env:Env):Sem PySem.Fin:=match gens[j + 1]? with
 |some g'=>do
  let x ←eval g'.iter env
  standAt g'.iter.pos
  if (g'.is_async != 0)=true then do
   let x ←foldedIterable g'.iter x
   let i ←holding [x] (if (g'.is_async != 0)=true then asyncIter x else pyIter x)
   let _ ←runOwn (Code.compStart (elt.ListComp gens sc pos) (j + 1) i ac env) env
   again (Code.compLoop (elt.ListComp gens sc pos) j it ac env)
   else do
    let x ←foldedSetIterable g'.iter env x
    let i ←holding [x] (if (g'.is_async != 0)=true then asyncIter x else pyIter x)
    let _ ←runOwn (Code.compStart (elt.ListComp gens sc pos) (j + 1) i ac env) env
    again (Code.compLoop (elt.ListComp gens sc pos) j it ac env)
 |none=>(do let v ←eval elt env;let _ ←call (Value.builtin "list.append") [ac,v];pure ():Sem Unit) >>= λ_=>again (Code.compLoop (elt.ListComp gens sc pos) j it ac env)
inductive CLoopSt (prog:Program) (w:World) (B:Heap) (F:FQ) (sc:Scope) (C D:Addr) (ρ:Loc) (P:Addr→Prop) (h₀:Heap) (src:Src) (ita:Addr) (I:CInv) (n:Nat) (s:Shared):Prop
 |mk (i:Nat) (acc:List AV) (ρi:Loc) (σ:AH) (hn:n + i=src.items.length) (X:CompSt prog w B F sc C D ρ acc ρi σ s) (kp:Kept B F P h₀ σ s) (hi:ItAt s.heap ita src i) (al:Alien B F σ ita) (hv:I (src.items.drop i) acc ρi σ):CLoopSt prog w B F sc C D ρ P h₀ src ita I n s
theorem comp_turns (Gd:Gd prog w K B) {R:Ops} (snd:Snd prog w B R) (fit:Fit prog w B Γ A F) (ok:OkC Γ sc) {elt:Expr} {gens gs:List Comprehension} {pos:Pos} {j:Nat} {g:Comprehension} (hg:gens[j]?=some g) (ha:g.is_async=0)
 {src:Src} {ita:Addr} {k:CPost} (P:Addr→Prop) (h₀:Heap) (I:CInv) (X:CompSt prog w B F sc C D ρ acc ρi σ s) (kp:Kept B F P h₀ σ s) (np:¬P ita) (hi:ItAt s.heap ita src 0) (al:Alien B F σ ita) (h0:I src.items acc ρi σ)
 (hend:∀acc ρ σ,I [] acc ρ σ→src.stands σ∧k acc ρ σ) (turn:∀x rest acc ρ σ,I (x :: rest) acc ρ σ→src.stands σ∧asg R (ΓC Γ sc) g.target x ρ σ (qTests R g.ifs (ΓC Γ sc) (compG R (ΓC Γ sc) elt gs) acc (I rest)))
 (body:∀{acc:List AV} {ρ₃:Loc} {σ₃:AH} {s₃:Shared} {rest:List AV} {h₁:Heap} {Q:PySem.Fin→Shared→Prop} {E:Value→Shared→Prop},CompSt prog w B F sc C D ρ acc ρ₃ σ₃ s₃→Kept B F (λb=>P b∨b=ita) h₁ σ₃ s₃→compG R (ΓC Γ sc) elt gs ρ₃ σ₃ acc (I rest)→
  (∀acc' ρ' σ' s',CompSt prog w B F sc C D ρ acc' ρ' σ' s'→Kept B F (λb=>P b∨b=ita) h₁ σ' s'→I rest acc' ρ' σ'→Q (.again (.compLoop (.ListComp elt gens sc pos) j (.ref ita) (.ref D) (cEnv sc F C))) s')→
  wpAny (model prog w) A (bodyOf elt gens sc pos j (.ref ita) (.ref D) (cEnv sc F C)) Q E s₃) :
 codeAny (model prog w) A (.compLoop (.ListComp elt gens sc pos) j (.ref ita) (.ref D) (cEnv sc F C)) (Rk prog w B F sc C D ρ P h₀ k) s:=by
 refine codeAny_loop' rfl (CLoopSt prog w B F sc C D ρ P h₀ src ita I) (λn s hI=>?_) src.items.length ⟨0,acc,ρi,σ,rfl,X,kp,hi,al,h0⟩
 obtain ⟨i,acc,ρi,σ,hn,X,kp,hi,al,hv⟩:=hI
 show wpAny _ _ ((compTurn (.ListComp elt gens sc pos) j (.ref ita) (.ref D) (cEnv sc F C)).onRaise (λx=>do noteFrame x (cEnv sc F C);theTreesLotGoes x)) _ _ s
 refine wpAny_noted ?_
 unfold compTurn
 dsimp only
 refine rE hg ?_
 dsimp only
 refine rE ha ?_
 rw[bne_self_eq_false,if_neg Bool.false_ne_true]
 refine wpAny_bind (wpAny_standAt (wpAny_bind ?_))
 have kpb:∀{h':Heap} {t:Tok},Heap.ExtBut ita s.heap h'→Kept B F P h₀ σ { s with heap:=h',toks:=t }:=λ{h' t} ex b p=>by
  refine xAA (kp b p) λr q a=>?_
  refine xEEA (kp.rec p) λo vs e _=>?_
  exact iAA r ((ex b o (λz=>np (z▸p)) e).trans (e.symm.trans q)) a
 induction hd:src.items.drop i using List.casesOn with
 |nil=>
  rw[hd] at hv
  have hl:src.items.length=i:=Nat.le_antisymm (List.drop_eq_nil_iff.mp hd) (hn▸Nat.le_add_left ..)
  obtain ⟨st,q⟩:=hend _ _ _ hv
  exact next_endR Gd fit.handled X.out (hl▸hi) st λh' ex=>wpAny_pure ⟨acc,ρi,σ,X.but (t:=s.toks) fit al (itAt_rec hi) ex,kpb (t:=s.toks) ex,q⟩
 |cons x rest=>
  rw[hd] at hv
  obtain ⟨st,hb⟩:=turn x rest acc ρi σ hv
  refine xAA (drop_at hd) λhx hr hlt=>?_
  refine next_itemR Gd X.out hi st hx λv h' t iv ex hi'=>?_
  have X₁:=X.but (t:=t) fit al (itAt_rec hi) ex
  have kp₁:Kept B F (λb=>P b∨b=ita) h' σ { s with heap:=h',toks:=t }:=λb p=>by
   rcases p with p|rfl
   ·refine xEEA ((kpb (t:=t) ex).rec p) λo vs e r=>?_
    exact iAA ⟨o,vs,e,r⟩ rfl ((kp b p).2.2)
   ·exact iAA (itAt_rec hi') rfl al
  have fit₁:=fitC fit ok X₁.out X₁.there X₁.cb
  refine wpAny_bind (go_at hi' (wpAny_bind ?_))
  refine wpAny_mono (asg_at Gd snd fit₁ hb iv X₁.here) (λ_ s₂ h₂=>?_) (no_err λv σ h=>h)
  obtain ⟨ρ₂,σ₂,H₂,h₂⟩:=h₂
  refine wpAny_bind ?_
  have z:=tests_at snd fit₁ h₂ H₂
  refine wpAny_mono z (λb s₃ h₃=>?_) (no_err λv σ h=>h)
  obtain ⟨σ₃,H₃,h₃⟩:=h₃
  have X₃:=X₁.go fit H₃
  have kp₃:=kp₁.on X₁ H₃
  have again:∀{acc' ρ' σ' s'},CompSt prog w B F sc C D ρ acc' ρ' σ' s'→Kept B F (λb=>P b∨b=ita) h' σ' s'→I rest acc' ρ' σ'→∃m,m < n∧CLoopSt prog w B F sc C D ρ P h₀ src ita I m s':=λ{acc' ρ' σ' s'} a b d=>by
   refine xAA (b ita (.inr rfl)) λ_ q al'=>?_
   refine ⟨n - 1,by lia,i + 1,_,_,_,by lia,a,λc p=>?_,itAt_eq hi' q,al',by refine rE hr ?_;exact d⟩
   refine xAA (b c (.inl p)) λ_ q' al''=>?_
   exact iAA ((kp c p).1) (q'.trans (kpb (t:=t) ex c p).2.1) al''
  induction b with
  |false=>
   refine rE (if_neg Bool.false_ne_true) ?_
   exact wpAny_pure (.inl ⟨rfl,again X₃ kp₃ h₃⟩)
  |true=>
   refine rE (if_pos rfl) ?_
   refine body (rest:=rest) X₃ kp₃ h₃ λacc' ρ' σ' s' a b c=>?_
   exact Or.inl ⟨rfl,again a b c⟩
theorem comp_loops (Gd:Gd prog w K B) {R:Ops} (snd:Snd prog w B R) (fit:Fit prog w B Γ A F) (ok:OkC Γ sc) {elt:Expr} {gens:List Comprehension} {pos:Pos}:∀(gs:List Comprehension) (j:Nat) (g:Comprehension),gens[j]?=some g→gens.drop (j + 1)=gs→g.is_async=0→
 ∀{src:Src} {ita:Addr} {ρi:Loc} {acc:List AV} {σ:AH} {s:Shared} {k:CPost} (P:Addr→Prop) (h₀:Heap) (I:CInv),CompSt prog w B F sc C D ρ acc ρi σ s→Kept B F P h₀ σ s→¬P ita→ItAt s.heap ita src 0→Alien B F σ ita→I src.items acc ρi σ→
  (∀acc ρ σ,I [] acc ρ σ→src.stands σ∧k acc ρ σ)→(∀x rest acc ρ σ,I (x :: rest) acc ρ σ→src.stands σ∧asg R (ΓC Γ sc) g.target x ρ σ (qTests R g.ifs (ΓC Γ sc) (compG R (ΓC Γ sc) elt gs) acc (I rest)))→
  codeAny (model prog w) A (.compLoop (.ListComp elt gens sc pos) j (.ref ita) (.ref D) (cEnv sc F C)) (Rk prog w B F sc C D ρ P h₀ k) s:=by
 intro gs
 induction gs with
 |nil=>
  intro j g hg hd ha src ita ρi acc σ s k P h₀ I X kp np hi al h0 hend turn
  have hg2:gens[j + 1]?=none:=List.getElem?_eq_none (List.drop_eq_nil_iff.mp hd)
  refine comp_turns Gd snd fit ok hg ha P h₀ I X kp np hi al h0 hend turn λ{acc ρ₃ σ₃ s₃ rest h₁ Q E} X₃ kp₃ h₃ fin=>?_
  have fit₃:=fitC fit ok X₃.out X₃.there X₃.cb
  unfold bodyOf
  refine rE hg2 ?_
  refine wpAny_bind (wpAny_bind ?_)
  have z:=snd.e h₃ fit₃ X₃.here
  refine wpAny_mono z (λu s₄ h₄=>?_) (no_err λv σ h=>h)
  obtain ⟨a,σ₄,ha',H₄,hz,h₄⟩:=h₄
  have X₄:=X₃.go fit H₄
  have kp₄:=kp₃.on X₃ H₄
  refine wpAny_bind (X₄.append fit ha' hz λs₅ X₅ q=>wpAny_pure (wpAny_pure (fin _ _ _ _ X₅ (λb p=>?_) h₄)))
  refine xAA (kp₄ b p) λr e al'=>?_
  refine xEEAA (kp₄.rec p) λo vs e' d _=>?_
  refine iAA r ((q b λz=>?_).trans e) al'
  refine xEEA X₄.lst λvs' n hl _=>?_
  have hl':s₄.heap.get? D=some (listObj vs' n):=hl
  rw[z,hl'] at e';(have e':=sJ e';subst e');exact nC Data.ctorIdx d rfl
 |cons g' gs' ih=>
  intro j g hg hd ha src ita ρi acc σ s k P h₀ I X kp np hi al h0 hend turn
  have hg2:gens[j + 1]?=some g':=by
   have:=congrArg (λl=>l[0]?) hd
   simpa using this
  have hd2:gens.drop (j + 1 + 1)=gs':=by
   (refine rL List.drop_drop ?_;refine rE hd ?_);rfl
  refine comp_turns Gd snd fit ok hg ha P h₀ I X kp np hi al h0 hend turn λ{acc ρ₃ σ₃ s₃ rest h₁ Q E} X₃ kp₃ h₃ fin=>?_
  have fit₃:=fitC fit ok X₃.out X₃.there X₃.cb
  obtain ⟨ha2,h₃⟩:=chk_iff h₃
  have ha2:=eq_of_beq ha2
  unfold bodyOf
  refine rE hg2 ?_
  dsimp only
  refine rE ha2 ?_
  simp only[bne_self_eq_false,Bool.false_eq_true,if_false]
  obtain ⟨hs,hf⟩:=src_at Gd snd fit₃ h₃ X₃.here
  refine wpAny_bind (wpAny_mono hs (λx s₄ h₄=>wpAny_bind (wpAny_standAt (wpAny_bind (wpAny_of_eq (hf x) ?_)))) (no_err λv σ h=>h))
  refine wpAny_bind (wpAny_holding (wpAny_mono h₄ (λi s₅ h₅=>?_) (no_err λv σ h=>h)))
  obtain ⟨src',σ',ita',rfl,hi',st',al',H',I',i0,iend,iturn⟩:=h₅
  have X₅:=X₃.go fit H'
  have kp₅:=kp₃.on X₃ H'
  have al₅:Alien B F σ' ita':=⟨X₃.out.ev.th _ al'.new,al'.base,al'.free⟩
  have np₅:¬(P ita'∨ita'=ita):=λp=>by
   refine xEEA (kp₃.rec p) λo vs e _=>?_
   rw[show s₃.heap.get? ita'=none from al'.new] at e;exact nn e
  refine wpAny_bind (wpAny_runOwn (codeAny_mono (comp_start hg2 ha2 hi' (ih (j + 1) g' hg2 hd2 ha2 (λb=>P b∨b=ita) h₁ I' X₅ kp₅ np₅ hi' al₅ i0 iend iturn)) λr s₆ h₆=>?_))
  induction r with
  |error e=>exact h₆.elim
  |ok f=>
   obtain ⟨acc',ρ',σ'',X₆,kp₆,q⟩:=h₆
   exact wpAny_pure (fin _ _ _ _ X₆ kp₆ q)
theorem frs_some (W:WS prog w B F.l σ s) {b:Addr} (e:s.heap.get? b=none):b∉frs F.l:=λm=>by
 refine xAEA (W.frames.mem m) λ_ o e' _=>?_
 rw[e] at e';exact nn e'
theorem At.adopt {o:AO} {a:Addr} (H:At prog w B F ρ σ s) (hn:NotInst o) (ho:ORep prog w s.heap a o) (new:F.s₀.heap.get? a=none) (hB:B.get? a=none) (h2:2 < a) (nm:¬Mut σ a) (hF:a∉frs F.l) (hL:a≠F.env.locals) (soft:∀ob,s.heap.get? a=some ob→Soft ob) :
 At prog w B F ρ (up σ a o) s:=by
 have R:=H.fs.ws.rep.put hn ho (λx C fs e=>nm (.inr ⟨x,C,fs,e⟩)) ⟨hB,h2⟩ (λb o _ e=>e) soft
 refine ⟨⟨⟨H.fs.ws.stays,H.fs.ws.frames,R,λb hb m=>?_,H.fs.ws.big⟩,H.fs.loc,λm=>?_⟩,⟨H.ev.kp,λb m=>?_,H.ev.th,H.ev.same⟩⟩
 ·rcases mut_up hn m with rfl|m
  ·exact hF hb
  ·exact H.fs.ws.sep b hb m
 ·rcases mut_up hn m with q|m
  ·exact hL q.symm
  ·exact H.fs.sepL m
 ·rcases mut_up hn m with rfl|m
  ·exact .inr new
  ·exact H.ev.fr b m
theorem CompSt.adopt (fit:Fit prog w B Γ A F) (X:CompSt prog w B F sc C D ρ acc ρi σ s):At prog w B F ρ (up σ D (.list acc)) s∧¬Mut σ D∧σ D=none∧¬Mut (up σ D (.list acc)) C:=by
 refine xEEA X.lst λvs n hl hi=>?_
 have nL:D≠F.env.locals:=λq=>fit.old _ fit.mineL (by refine rL q ?_;exact X.dn)
 refine iAAA (X.out.adopt (λ_ _ _ q=>by exact nC AO.ctorIdx q rfl) ⟨vs,n,hl,hi⟩ X.dn X.db X.d2 X.df X.dF nL λob e=>?_) X.df ?_ (λm=>?_)
 ·have z:s.heap.get? D=some (listObj vs n):=hl
  rw[z] at e;(have e:=sJ e;subst e)
  exact ⟨(λ_ q=>by exact nC Data.ctorIdx q rfl),(λ_ _ _ q=>by exact nC Data.ctorIdx q rfl),λ_ q=>by exact nC Data.ctorIdx q rfl⟩
 ·induction q:σ D with
  |none=>rfl
  |some o=>exact absurd (.inl ⟨o,q⟩) X.df
 ·rcases mut_up (λ_ _ _ q=>by exact nC AO.ctorIdx q rfl) m with q|m
  ·exact X.dC q.symm
  ·exact X.inn.sepL m
theorem turnC {σ':AH} {s':Shared} {h':Heap} {ρ':Loc} (fit:Fit prog w B Γ A F) (H:At prog w B F ρ' σ' s') (cn:F.s₀.heap.get? C=none) (cb:B.get? C=none) (cf:C∉frs F.l) (nm:¬Mut σ' C) (hn:∃m,s'.heap.Ns C m) (sb:Heap.SameBut C s'.heap h'):At prog w B F ρ' σ' { s' with heap:=h' }:=by
 refine xEEEEAA hn λm o es ep ho hd _=>?_
 refine H.aliens (t:=s'.toks) (·=C) (λb p=>?_) (λq=>?_) (λx c ec q=>?_) (λb o p q=>(sb.2 b p).trans q)
 ·subst p
  exact iAAAA cn cb nm cf (λo' e zz=>xEEEA zz λ_ _ _ d _=>by rw[ho] at e;(have e:=sJ e;subst e);rw[hd] at d;exact nC Data.ctorIdx d rfl)
 ·exact fit.old _ fit.mineL (by refine rE (show F.env.locals=C from q) ?_;exact cn)
 ·(refine xEA (H.fs.loc.cell x c ec) λ_=>?_;(rintro zz;refine xEA zz λo' ho' hd' _=>?_))
  rw[show c=C from q,ho] at ho';(have ho':=sJ ho';subst ho');rw[hd] at hd';exact nC Data.ctorIdx hd' rfl
theorem CompSt.free (X:CompSt prog w B F sc C D ρ acc ρi σ s) (src:Src) (st:src.stands σ):CompSt prog w B F sc C D ρ acc ρi (src.free σ) s:=by
 induction src with
 |keys a ep kvs=>
  have st:σ a=some (.lock ep kvs):=st
  refine xEA (X.out.fs.ws.rep.obj a _ st) λkv hm hx=>?_
  have ho:ORep prog w s.heap a (.sdict kvs):=⟨kv,hm.dictOf,hx⟩
  have hn:NotInst (.sdict kvs):=λ_ _ _ z=>by exact nC AO.ctorIdx z rfl
  exact ⟨X.out.swap st hn ho,⟨⟨X.inn.ws.stays,X.inn.ws.frames,X.inn.ws.rep.swap st hn ho,λb hb m=>X.inn.ws.sep b hb (mut_swap st hn m),X.inn.ws.big⟩,X.inn.loc,λm=>X.inn.sepL (mut_swap st hn m)⟩,X.cn,X.cb,X.cf,X.dn,X.db,λm=>X.df (mut_swap st hn m),X.dF,X.d2,X.lst⟩
 |_=>exact X
theorem comp_at (Gd:Gd prog w K B) {R:Ops} (snd:Snd prog w B R) (fit:Fit prog w B Γ A F) {elt:Expr} {gens:List Comprehension} {pos:Pos} {k:LPost} (hok:compOk Γ sc gens=true) (h:compA R Γ elt gens sc ρ σ k) (H:At prog w B F ρ σ s)
 {use:Option (Value→Sem Unit)} {Q:Value→Shared→Prop}
 (hQ:∀{C D acc ρi σ' s'},CompSt prog w B F sc C D ρ acc ρi σ' s'→k acc σ'→compPost (model prog w) A (Err prog w B F Γ.X) use Q (.ref D) C (.ok .next) s') :
 wpAny (model prog w) A (comprehension (.ListComp elt gens sc pos) sc F.env (firstIterPos gens pos) (newList []) (firstAsync gens) (firstIter gens F.env) use) Q (Err prog w B F Γ.X) s:=by
 have ok:=okC hok
 induction gens using List.casesOn with
 |nil=>exact h.elim
 |cons g gs=>
  obtain ⟨ga,h⟩:=chk_iff h
  have ga:=eq_of_beq ga
  obtain ⟨tgt,iter,ifs,as⟩:=g
  dsimp only at ga
  subst ga
  obtain ⟨hs,hf⟩:=src_at Gd snd fit h H
  have hclos:closureFor sc F.env=pure (clo F.env sc.names []):=closure_eq λx hx q=>by
   obtain ⟨n,k⟩:=x
   dsimp only at q;subst q
   exact H.fs.loc.has n (outer_free fit ok hx)
  have hnames:∀x∈sc.names,x.2=.local→sc.names.lookup x.1=some .local:=by
   have:∀{names:List (Str×NameKind)},(names.map (·.1)).Nodup→∀x∈names,names.lookup x.1=some x.2:=by
    intro names
    induction names with
    |nil=>intro _ x h;cases h
    |cons p r ih=>
     intro nd x hx
     obtain ⟨n,k⟩:=p
     rw[List.map_cons,List.nodup_cons] at nd
     rw[List.lookup_cons]
     rcases List.mem_cons.mp hx with hx'|hx'
     ·subst hx';simp
     ·have:(x.1 == n)=false:=by
       rw[beq_eq_false_iff_ne];intro q
       exact nd.1 (List.mem_map.mpr ⟨_,hx',q⟩)
      rw[this];exact ih nd.2 x hx'
   intro x hx q
   (refine rE (this ok.nodup x hx) ?_;exact rE q rfl)
  have hcell:∀x∈sc.names,x.2≠.cell:=λx hx q=>by
   rcases ok.kinds x hx with z|z|z<;>rw[z] at q<;>exact nC NameKind.ctorIdx q rfl
  show wpAny _ _ (comprehension (.ListComp elt (⟨tgt,iter,ifs,0⟩ :: gs) sc pos) sc F.env (firstIterPos (⟨tgt,iter,ifs,0⟩ :: gs) pos) (newList []) false (eval iter F.env) use) _ _ _
  refine wpAny_comprehension_free (g:=⟨tgt,iter,ifs,0⟩) (gs:=gs) rfl hf hclos ok.kind hnames ?_
  refine wpAny_mono hs (λx s₁ h₁=>wpAny_mono h₁ (λit s₂ h₂=>?_) λ_ _ z=>z) λ_ _ z=>z
  obtain ⟨src,σ',ita,rfl,hi,st,al,H₂,I,i0,iend,iturn⟩:=h₂
  refine wpAny_newList ?_ (by simp[sizeLine])
  refine wpAny_newFunctionEnv hcell (by intro y hy;cases hy) (λh' hns hsb=>?_) ok.kind
  have dn:s₂.heap.get? s₂.heap.objs.size=none:=get_none_size
  have cnn:(s₂.heap.push { cls:=.type "list",data:=.seq ([]:List Value).toArray }).get? (s₂.heap.push { cls:=.type "list",data:=.seq ([]:List Value).toArray }).objs.size=none:=get_none_size
  have k₃:∀b o,s₂.heap.get? b=some o→(s₂.heap.push { cls:=.type "list",data:=.seq ([]:List Value).toArray }).get? b=some o:=λb o e=>Heap.get?_push_of_some _ e
  have k₄:∀b o,(s₂.heap.push { cls:=.type "list",data:=.seq ([]:List Value).toArray }).get? b=some o→h'.get? b=some o:=λb o e=>hsb.extBut b o (Nat.ne_of_lt (Heap.lt_size e)) (Heap.get?_push_of_some _ e)
  have H₄:At prog w B F ρ σ' { s₂ with heap:=h',toks:=s₂.toks + 0 }:=H₂.grow λb o e=>k₄ b o (k₃ b o e)
  have cn₂:s₂.heap.get? (s₂.heap.push { cls:=.type "list",data:=.seq ([]:List Value).toArray }).objs.size=none:=th_of k₃ _ cnn
  have nmC:¬Mut σ' (s₂.heap.push { cls:=.type "list",data:=.seq ([]:List Value).toArray }).objs.size:=not_mut_new H₂.fs.ws.rep cn₂
  have X:CompSt prog w B F sc (s₂.heap.push { cls:=.type "list",data:=.seq ([]:List Value).toArray }).objs.size s₂.heap.objs.size ρ [] (compLoc sc ρ) σ' { s₂ with heap:=h',toks:=s₂.toks + 0 }:=
   ⟨H₄,fsC fit ok H₄ ⟨_,hns⟩ nmC,H₂.ev.th _ cn₂,base_none H₂.fs.ws.stays cn₂,frs_some H₂.fs.ws cn₂,H₂.ev.th _ dn,base_none H₂.fs.ws.stays dn,not_mut_new H₂.fs.ws.rep dn,frs_some H₂.fs.ws dn,H₂.fs.ws.big2,
    [],0,k₄ _ _ (Heap.get?_push_size _ rfl),.nil⟩
  have hi₄:ItAt h' ita src 0:=itAt_keep hi λo e=>k₄ _ _ (k₃ _ _ e)
  refine codeAny_mono (comp_start (env:=cEnv sc F _) (g:=⟨tgt,iter,ifs,0⟩) rfl rfl hi₄ (comp_loops Gd snd fit ok gs 0 ⟨tgt,iter,ifs,0⟩ rfl rfl rfl (k:=λacc _ σ=>src.stands σ∧k acc (src.free σ)) (λ_=>False) h' I X (λb p=>p.elim) id hi₄ al i0 (λacc ρ σ q=>⟨(iend acc ρ σ q).1,iend acc ρ σ q⟩) iturn)) λr s' hr=>?_
  induction r with
  |error e=>exact hr.elim
  |ok f=>
   obtain ⟨acc,ρi,σ'',X',_,q⟩:=hr
   have z:=hQ (X'.free src q.1) q.2
   induction use with
   |none=>exact z
   |some u=>exact z
theorem e_comp (Gd:Gd prog w K B) {R:Ops} (snd:Snd prog w B R) {elt:Expr} {gens:List Comprehension} {pos} {Q:Post} (h:stepE R Γ (.ListComp elt gens sc pos) ρ σ Q) (fit:Fit prog w B Γ A F) (H:At prog w B F ρ σ s) :
 wpAny (model prog w) A (eval (.ListComp elt gens sc pos) F.env) (REx prog w B F ρ Q) (Err prog w B F Γ.X) s:=by
 obtain ⟨ok,h⟩:=chk_iff h
 rw[arm_eval_ListComp]
 refine comp_at Gd snd fit ok h H (use:=none) λ{C D acc ρi σ' s'} X q=>?_
 refine xAAA (X.adopt fit) λH' nm nn nC=>?_
 exact ⟨_,X.ns.choose_spec,λh' sb=>⟨.ref D,_,rfl,turnC fit H' X.cn X.cb X.cf nC X.ns sb,q D _ ⟨nn,H'.fs.ws.soNone X.db⟩ rfl⟩⟩
theorem comp_used (Gd:Gd prog w K B) {R:Ops} (snd:Snd prog w B R) {elt:Expr} {gens:List Comprehension} {pos tp:Pos} {x:Str} {Q:Post} (h:stepE R Γ (.ListComp elt gens sc pos) ρ σ Q) (hs:∀a σ,Q a σ→stored1 Γ ρ x=true) (fit:Fit prog w B Γ A F) (H:At prog w B F ρ σ s) :
 wpAny (model prog w) A (evalThenUse (.ListComp elt gens sc pos) F.env (assign (.Name x tp) F.env)) (λ_ s'=>RVx prog w B F ρ x Q s') (Err prog w B F Γ.X) s:=by
 obtain ⟨ok,h⟩:=chk_iff h
 show wpAny _ _ (do let _ ←comprehension (.ListComp elt gens sc pos) sc F.env (firstIterPos gens pos) (newList []) (firstAsync gens) (firstIter gens F.env) (some (assign (.Name x tp) F.env));pure ()) _ _ _
 refine wpAny_bind ?_
 refine comp_at Gd snd fit ok h H (use:=some (assign (.Name x tp) F.env)) (Q:=λ_ s'=>wpAny (model prog w) A (pure ()) (λ_ s'=>RVx prog w B F ρ x Q s') (Err prog w B F Γ.X) s') λ{C D acc ρi σ' s'} X q=>?_
 refine xAAA (X.adopt fit) λH' nm nn nC=>?_
 have q:=q D _ ⟨nn,H'.fs.ws.soNone X.db⟩ rfl
 show wpAny _ _ (assign (.Name x tp) F.env (.ref D)) _ _ _
 rw[arm_assign_Name]
 have z:=λQ h=>st_var (Q:=Q) (E:=Err prog w B F Γ.X) (fit.at H') H'.here (a:=.ref D) (v:=.ref D) (hs _ _ q) rfl h
 refine wpAny_bind (wpAny_standAt (wpAny_bindName (z _ λs₂ H₂=>?_)))
 refine xEEEEAA X.ns λm o es ep ho hd r=>?_
 refine xEA (H₂.ev.kp C o ho nC λow=>fit.old C ow X.cn) λo₂ e₂ q₂=>?_
 have eo:o₂=o:=by
  rcases q₂ with q₂|⟨q₂,_⟩
  ·exact q₂
  ·exact absurd q₂ X.cf
 subst eo
 have ns₂:s₂.heap.Ns C m:=⟨_,es,ep,e₂,hd,r⟩
 exact iEA m ns₂ (λh' sb=>wpAny_pure ⟨_,_,turnC fit (H'.back H₂) X.cn X.cb X.cf nC ⟨m,ns₂⟩ sb,q⟩)
end
section
variable {prog:Program} {w:World} {B:Heap} {K:Frag} {Γ:Cx} {A:Around} {F:FQ} {ρ ρi:Loc} {σ:AH} {s:Shared} {E:Value→Shared→Prop}
theorem Loc.set_comm:∀{ρ:Loc} {x y:Str} {a b:AV},x≠y→(ρ.set x a).set y b=(ρ.set y b).set x a:=by
 intro ρ
 induction ρ with
 |nil=>
  intro _ _ _ _ _
  exact rfl
 |cons p0 r ih=>
  obtain ⟨z,o⟩:=p0
  intro x y a b h
  induction q:x == z with
  |true=>
   have e:=eq_of_beq q
   have q2:(y == z)=false:=by rw[beq_eq_false_iff_ne];rintro rfl;exact h e
   simp[Loc.set_c,q,q2]
  |false=>
   induction q2:y == z with
   |true=>simp[Loc.set_c,q,q2]
   |false=>simp[Loc.set_c,q,q2,ih h]
noncomputable def pick (env:Env) (line:Nat):Expr→Option Str
 |.Name id pos=>if env.kindOf id == some .local && pos.line == line then some id else none
 |_=>none
theorem sw_at {ts es:List Expr} {k1 k2:Nat} {p q:Pos} {env:Env} (ok:swapOk es=true) :
 swappedStores [.Tuple ts k1 p] (.Tuple es k2 q) env=pure none∨∃names,swappedStores [.Tuple ts k1 p] (.Tuple es k2 q) env=pure (some names)∧(ts.length=2∨ts.length=3)∧
  names=ts.filterMap (pick env ((ts.head?.map (·.pos.line)).getD 0))∧names.length=ts.length∧names.eraseDups.length=names.length:=by
 unfold swappedStores
 dsimp only
 split
 ·exact .inl rfl
 ·rename_i h1
  split
  ·exact .inl rfl
  ·split
   ·exact .inl rfl
   ·rename_i h3
    split
    ·exact .inl rfl
    ·rename_i h4
     split
     ·rename_i h5
      unfold swapOk at ok
      rw[h5,Bool.not_true,Bool.or_false] at ok
      exact absurd ok h4
     ·refine .inr ⟨_,rfl,?_,rfl,?_,?_⟩
      ·simp only[Bool.or_eq_true,Bool.not_eq_true',bne_iff_ne,not_or,Bool.not_eq_false,beq_iff_eq] at h1
       exact h1.1.1
      ·rw[Bool.or_eq_true,not_or] at h3
       exact Decidable.not_not.mp λq=>h3.1 (bne_iff_ne.mpr q)
      ·rw[Bool.or_eq_true,not_or] at h3
       exact Decidable.not_not.mp λq=>h3.2 (bne_iff_ne.mpr q)
theorem pick_name {env:Env} {line:Nat} {t:Expr} {n:Str} (h:pick env line t=some n):∃p,t=.Name n p:=by
 induction t using Expr.casesOn with
 |Name id pos=>
  have h:(if env.kindOf id == some .local && pos.line == line then some id else none)=some n:=h
  split at h
  ·(have h:=sJ h;subst h);exact ⟨_,rfl⟩
  ·exact nn h
 |_=>exact nn h
theorem pick_all {f:Expr→Option Str}:∀{ts:List Expr},(ts.filterMap f).length=ts.length→∀t∈ts,∃n,f t=some n:=by
 intro ts
 induction ts with
 |nil=>
  intro _ t h
  cases h
 |cons a r ih=>
  intro h t ht
  rw[List.filterMap_cons] at h
  induction e:f a with
  |none=>
   rw[e] at h
   have:=List.length_filterMap_le f r
   simp only[List.length_cons] at h
   lia
  |some n=>
   rw[e] at h
   rcases List.mem_cons.mp ht with rfl|ht
   ·exact ⟨n,e⟩
   ·exact ih (by simpa using h) t ht
theorem names_back (fit:Fit prog w B Γ A F) {R:Ops} {ts:List Expr} {line:Nat} {names:List Str} (h23:ts.length=2∨ts.length=3) (hn:names=ts.filterMap (pick F.env line)) (hl:names.length=ts.length) (hd:names.eraseDups.length=names.length)
 {as:List AV} {vs:List Value} {k:Loc→AH→Prop} (h:asgs R Γ ts as ρ σ k) (hi:AllIs as vs) (H:At prog w B F ρ σ s) :
 wpAny (model prog w) A (assignInOrder (names.reverse.map λn=>bindName F.env n) vs.reverse) (RAx prog w B F k) E s:=by
 subst hn
 have all:=pick_all hl
 have one:∀{n:Str} {a:AV} {v:Value} {ρ:Loc} {s:Shared} {Q:Unit→Shared→Prop},stored1 Γ ρ n=true→a.Is v→At prog w B F ρ σ s→(∀s',At prog w B F (ρ.set n a) σ s'→Q () s')→wpAny (model prog w) A (bindName F.env n v) Q E s:=λst ha H k=>wpAny_bindName (st_var fit H st ha k)
 rcases ts with _|⟨t1,_|⟨t2,_|⟨t3,_|⟨t4,ts⟩⟩⟩⟩
 ·exact absurd h23 (dE rfl)
 ·exact absurd h23 (dE rfl)
 ·obtain ⟨n1,e1⟩:=all t1 (by simp)
  obtain ⟨n2,e2⟩:=all t2 (by simp)
  obtain ⟨p1,rfl⟩:=pick_name e1
  obtain ⟨p2,rfl⟩:=pick_name e2
  have en:[Expr.Name n1 p1,.Name n2 p2].filterMap (pick F.env line)=[n1,n2]:=by simp[List.filterMap_cons,e1,e2]
  rw[en] at hd ⊢
  have ne:n1≠n2:=by rintro rfl;simp[List.eraseDups_cons] at hd
  cases hi with
  |nil=>exact h.elim
  |cons h1 hi=>cases hi with
   |nil=>exact (chk_iff h).2.elim
   |cons h2 hi=>cases hi with
    |cons=>exact (chk_iff (chk_iff h).2).2.elim
    |nil=>
     obtain ⟨s1,h⟩:=chk_iff h
     obtain ⟨s2,h⟩:=chk_iff h
     have st2:stored1 Γ ρ n2=true:=by unfold stored1 at s2 ⊢;rwa [lookup_set] at s2
     show wpAny _ _ (do holding [_] (bindName F.env n2 _);do holding [] (bindName F.env n1 _);pure ()) _ _ _
     refine wpAny_bind (wpAny_holding (one st2 h2 H λs' H'=>?_))
     refine wpAny_bind (wpAny_holding (one (stored1_set s1) h1 H' λs'' H''=>wpAny_pure ⟨_,_,H'',?_⟩))
     refine rL (Loc.set_comm ne) ?_;exact h
 ·obtain ⟨n1,e1⟩:=all t1 (by simp)
  obtain ⟨n2,e2⟩:=all t2 (by simp)
  obtain ⟨n3,e3⟩:=all t3 (by simp)
  obtain ⟨p1,rfl⟩:=pick_name e1
  obtain ⟨p2,rfl⟩:=pick_name e2
  obtain ⟨p3,rfl⟩:=pick_name e3
  have en:[Expr.Name n1 p1,.Name n2 p2,.Name n3 p3].filterMap (pick F.env line)=[n1,n2,n3]:=by simp[List.filterMap_cons,e1,e2,e3]
  rw[en] at hd ⊢
  have ne12:n1≠n2:=by
   rintro rfl
   by_cases q:n3=n1
   ·subst q;simp[List.eraseDups_cons] at hd
   ·simp[List.eraseDups_cons,q] at hd
  have ne13:n1≠n3:=by
   rintro rfl
   simp[List.eraseDups_cons,ne12.symm] at hd
  have ne23:n2≠n3:=by
   rintro rfl
   simp[List.eraseDups_cons,ne12.symm] at hd
  cases hi with
  |nil=>exact h.elim
  |cons h1 hi=>cases hi with
   |nil=>exact (chk_iff h).2.elim
   |cons h2 hi=>cases hi with
    |nil=>exact (chk_iff (chk_iff h).2).2.elim
    |cons h3 hi=>cases hi with
     |cons=>exact (chk_iff (chk_iff (chk_iff h).2).2).2.elim
     |nil=>
      obtain ⟨s1,h⟩:=chk_iff h
      obtain ⟨s2,h⟩:=chk_iff h
      obtain ⟨s3,h⟩:=chk_iff h
      have st3:stored1 Γ ρ n3=true:=by unfold stored1 at s3 ⊢;rwa [lookup_set,lookup_set] at s3
      have st2:stored1 Γ ρ n2=true:=by unfold stored1 at s2 ⊢;rwa [lookup_set] at s2
      show wpAny _ _ (do holding [_,_] (bindName F.env n3 _);do holding [_] (bindName F.env n2 _);do holding [] (bindName F.env n1 _);pure ()) _ _ _
      refine wpAny_bind (wpAny_holding (one st3 h3 H λs' H'=>?_))
      refine wpAny_bind (wpAny_holding (one (stored1_set st2) h2 H' λs'' H''=>?_))
      refine wpAny_bind (wpAny_holding (one (stored1_set (stored1_set s1)) h1 H'' λs₃ H₃=>wpAny_pure ⟨_,_,H₃,?_⟩))
      (refine rE (Loc.set_comm ne23.symm) ?_;refine rE (Loc.set_comm ne13.symm) ?_;refine rE (Loc.set_comm ne12.symm) ?_);exact h
 ·exact absurd h23 λq=>by simp only[List.length_cons] at q;lia
noncomputable def RaiseSnd (prog:Program) (w:World) (B:Heap):Prop:=∀{R:Ops} {Γ:Cx} {A:Around} {F:FQ} {ρ:Loc} {σ:AH} {s:Shared} {e:Expr} {rp cp pos:Pos} {Q:Flow→Shared→Prop},Snd prog w B R→Γ.nm.lookup (Str.ofString "Raised")=some .globalImplicit→plainArgs [e]=true→3≤Γ.d→
 R.E Γ e ρ σ (qRaise Γ)→Fit prog w B Γ A F→At prog w B F ρ σ s→wpAny (model prog w) A (exec (.Raise (some (.Call (.Name "Raised" rp) [e] [] cp)) none pos) F.env) Q (Err prog w B F Γ.X) s
theorem sw_false {v t:Expr} {line:Nat} {env:Env} (h:∀elt gens sc p x tp,v=.ListComp elt gens sc p→t=.Name x tp→False) (hd:notSD v=true):swapsWith v (some t) line env=pure false:=by
 induction v using Expr.casesOn<;>first|rfl|(cases hd;done)|skip
 induction t using Expr.casesOn<;>first|rfl|exact (h _ _ _ _ _ _ rfl rfl).elim
theorem sw_bool {elt:Expr} {gens:List Comprehension} {sc:Scope} {p tp:Pos} {x:Str} {line:Nat} {env:Env}:∃b,swapsWith (.ListComp elt gens sc p) (some (.Name x tp)) line env=pure b:=⟨_,rfl⟩
theorem s_tup (Gd:Gd prog w K B) {R:Ops} (snd:Snd prog w B R) (fit:Fit prog w B Γ A F) {ts es:List Expr} {k1 k2:Nat} {p q pos:Pos} {k:Loc→AH→Prop} (hns:noStars ts=true) (hsw:swapOk es=true) (hlen:es.length≤20)
 (h:evs R Γ ρ es σ (qAsgT R ts Γ ρ k)) (hl:ts.length=es.length) (H:At prog w B F ρ σ s) :
 wpAny (model prog w) A (exec (.Assign [.Tuple ts k1 p] (.Tuple es k2 q) pos) F.env) (λf s'=>f=.next∧RAx prog w B F k () s') (Err prog w B F Γ.X) s:=by
 rw[exec_Assign_arm]
 refine wpAny_bind (wpAny_standAt ?_)
 refine rE (show swapsWithSole [.Tuple ts k1 p] (.Tuple es k2 q) pos.line F.env=pure false from rfl) ?_
 refine wpAny_bind (wpAny_pure ?_)
 refine rE (if_neg (dE rfl)) ?_
 refine wpAny_bind (wpAny_Tuple_spliced (wpAny_mono (evs_at snd fit h H) (λvs s₁ h₁=>?_) λ_ _ z=>z))
 obtain ⟨as,σ₁,hi,hl₁,H₁,h₁⟩:=h₁
 refine ⟨by (refine rE hl₁ ?_;refine rE sizeLine_eq ?_);lia,?_⟩
 have H₂:=H₁.pushF (ob:={ cls:=.type "tuple",data:=.seq vs.toArray }) s₁.toks
 have ht:({ s₁ with heap:=s₁.heap.push { cls:=.type "tuple",data:=.seq vs.toArray } }:Shared).heap.IsTuple s₁.heap.objs.size vs.toArray:=⟨_,Heap.get?_push_size _ rfl,rfl,_,rfl⟩
 rcases sw_at (ts:=ts) (k1:=k1) (k2:=k2) (p:=p) (q:=q) (env:=F.env) hsw with e|⟨names,e,h23,hn,hnl,hd⟩
 ·refine rE e ?_
  refine wpAny_bind (wpAny_pure ?_)
  show wpAny _ _ (do assign (.Tuple ts k1 p) F.env (.ref s₁.heap.objs.size);pure Flow.next:Sem Flow) _ _ _
  obtain ⟨e1,e2⟩:=each_shape (env:=F.env) hns
  refine wpAny_bind (wpAny_assign_Tuple fit.handled ht (by (refine rE e2 ?_;refine rE hl ?_;refine rE List.size_toArray ?_;exact rE hl₁ rfl)) e1 λh' ex=>?_)
  have k:=λb o (q:(s₁.heap.push { cls:=.type "tuple",data:=.seq vs.toArray }).get? b=some o)=>ex b o (Nat.ne_of_lt (Heap.lt_size q)) q
  have z:=asgs_at Gd snd fit h₁ (vs:=vs) hi (H₂.grow (t:=s₁.toks) k)
  refine wpAny_mono (by simpa using z) (λ_ s₃ h₃=>wpAny_pure ⟨rfl,?_⟩) λ_ _ z=>z
  exact h₃
 ·refine rE e ?_
  refine wpAny_bind (wpAny_pure ?_)
  show wpAny _ _ (do rule "assign.swapped-stores";let items ←unpackItems (.ref s₁.heap.objs.size) names.length none;assignInOrder (names.reverse.map λn=>bindName F.env n) items.reverse;pure Flow.next:Sem Flow) _ _ _
  have ln:names.length=vs.toArray.size:=by (refine rE hnl ?_;refine rE hl ?_;refine rE List.size_toArray ?_;exact rE hl₁ rfl)
  refine rE ln ?_
  refine wpAny_bind (wpAny_rule (wpAny_bind (wpAny_unpackItems_tuple fit.handled ht λh' ex=>?_)))
  have k:=λb o (q:(s₁.heap.push { cls:=.type "tuple",data:=.seq vs.toArray }).get? b=some o)=>ex b o (Nat.ne_of_lt (Heap.lt_size q)) q
  have z:=names_back (E:=Err prog w B F Γ.X) fit h23 hn hnl hd h₁ hi (H₂.grow (t:=s₁.toks) k)
  refine wpAny_bind (wpAny_mono (by simpa using z) (λ_ s₃ h₃=>wpAny_pure ⟨rfl,?_⟩) λ_ _ z=>z)
  exact h₃
inductive StK:Stmt→Prop
 |expr {e p}:StK (.Expr e p)
 |ret {e p}:StK (.Return (some e) p)
 |ife {t b o p}:StK (.If t b o p)
 |asg {t v p}:StK (.Assign [t] v p)
 |aug {o n p op v p'}:StK (.AugAssign (.Attribute o n p) op v p')
 |loop {t it b p}:StK (.For t it b [] p)
 |rai {r p e p' p''}:StK (.Raise (some (.Call (.Name r p) [e] [] p')) none p'')
theorem st_kinds {R:Ops} {st:Stmt} {k:SPost} (h:stepSt R Γ st ρ σ k):StK st:=by
 induction st using Stmt.casesOn with
 |Expr=>exact .expr
 |If=>exact .ife
 |Return v p=>induction v with
  |none=>exact False.elim h
  |some=>exact .ret
 |Assign ts v p=>
  rcases ts with _|⟨t,_|⟨t',ts⟩⟩
  ·exact False.elim h
  ·exact .asg
  ·exact False.elim h
 |AugAssign t op v p=>induction t using Expr.casesOn with
  |Attribute=>exact .aug
  |_=>exact False.elim h
 |For t it b e p=>induction e using List.casesOn with
  |nil=>exact .loop
  |cons=>exact False.elim h
 |Raise e c p=>
  induction e with
  |none=>exact False.elim h
  |some e=>induction c with
   |some=>exact False.elim h
   |none=>induction e using Expr.casesOn with
    |Call f as ks q=>induction f using Expr.casesOn with
     |Name=>
      rcases as with _|⟨a,_|⟨a',as⟩⟩
      ·exact False.elim h
      ·induction ks using List.casesOn with
       |nil=>exact .rai
       |cons=>exact False.elim h
      ·exact False.elim h
     |_=>exact False.elim h
    |_=>exact False.elim h
 |_=>exact False.elim h
theorem two_opt {a b:Option (List Expr)} {P:List Expr→List Expr→Prop} {Q:Prop} (h:match a,b with|some x,some y=>P x y|_,_=>Q) (no:∀x y,a=some x→b=some y→False):Q:=by
 induction a with
 |none=>exact h
 |some x=>induction b with
  |none=>exact h
  |some y=>exact (no x y rfl rfl).elim
theorem sole_each {R:Ops} {t:Expr} {a:AV} {k:Loc→AH→Prop} {env:Env} (h:asg R Γ t a ρ σ k):(assignEach [t] env).map (·.2)=[assign t env]:=by induction t using Expr.casesOn<;>first|rfl|exact False.elim h
theorem stores_no {t v:Expr} {env:Env} (hl:notL t=true) (no:∀ts es,isTupleE t=some ts→isTupleE v=some es→False):swappedStores [t] v env=pure none:=by
 induction t using Expr.casesOn with
 |List=>cases hl
 |Tuple ts c p=>
  induction v using Expr.casesOn with
  |Tuple es k q=>exact (no _ _ rfl rfl).elim
  |_=>rfl
 |_=>rfl
theorem RSx.next {k:SPost} {f:Flow} {s':Shared}:(f=.next∧RAx prog w B F (qNext k) () s')→RSx prog w B F k f s':=λ⟨e,ρ',σ',H',q⟩=>⟨.next,ρ',σ',by subst e;trivial,H',q⟩
theorem s_asgP (Gd:Gd prog w K B) {R:Ops} (snd:Snd prog w B R) (fit:Fit prog w B Γ A F) {t v:Expr} {pos:Pos} {k:SPost} (h:R.E Γ v ρ σ (qAsg R t Γ ρ (qNext k))) (H:At prog w B F ρ σ s)
 (hs:swapsWith v (some t) pos.line F.env=pure false) (hw:swappedStores [t] v F.env=pure none):wpAny (model prog w) A (exec (.Assign [t] v pos) F.env) (RSx prog w B F k) (Err prog w B F Γ.X) s:=by
 refine wpAny_Assign_stores (snd.E h fit H λa u σ₁ s₁ ha H₁ h₁=>?_) hs hw
 refine rE (sole_each h₁) ?_
 exact wpAny_mono (asg_at Gd snd fit h₁ ha H₁) (λ_ s₂ h₂=>RSx.next ⟨rfl,h₂⟩) λ_ _ z=>z
theorem s_asg (Gd:Gd prog w K B) {R:Ops} (snd:Snd prog w B R) (fit:Fit prog w B Γ A F) {t v:Expr} {pos:Pos} {k:SPost} (no:∀ts es,isTupleE t=some ts→isTupleE v=some es→False) (h:chk (notSD v && notL t) (R.E Γ v ρ σ (qAsg R t Γ ρ (qNext k)))) (H:At prog w B F ρ σ s) :
 wpAny (model prog w) A (exec (.Assign [t] v pos) F.env) (RSx prog w B F k) (Err prog w B F Γ.X) s:=by
 obtain ⟨ok,h⟩:=chk_iff h
 rw[Bool.and_eq_true] at ok
 obtain ⟨ok,okL⟩:=ok
 have hw:=stores_no (env:=F.env) okL no
 by_cases hc:∃elt gens sc p x tp,v=.ListComp elt gens sc p∧t=.Name x tp
 ·obtain ⟨elt,gens,sc,p,x,tp,rfl,rfl⟩:=hc
  obtain ⟨b,hb⟩:=sw_bool (elt:=elt) (gens:=gens) (sc:=sc) (p:=p) (tp:=tp) (x:=x) (line:=pos.line) (env:=F.env)
  induction b with
  |false=>exact s_asgP Gd snd fit h H hb hw
  |true=>
   refine rE (exec_Assign_Name_used _ _ _ _ hb) ?_
   refine wpAny_bind (wpAny_standAt (wpAny_bind (wpAny_mono (snd.u h (λa σ q=>(chk_iff q).1) fit H) (λ_ s₁ h₁=>?_) λ_ _ z=>z)))
   obtain ⟨a,σ₁,H₁,h₁⟩:=h₁
   exact wpAny_pure (RSx.next ⟨rfl,_,_,H₁,(chk_iff h₁).2⟩)
 ·exact s_asgP Gd snd fit h H (sw_false (λelt gens sc p x tp e1 e2=>hc ⟨elt,gens,sc,p,x,tp,e1,e2⟩) ok) hw
theorem s_aug (Gd:Gd prog w K B) {R:Ops} (snd:Snd prog w B R) (fit:Fit prog w B Γ A F) {o v:Expr} {n:Str} {op:Operator} {p p':Pos} {k:SPost} (h:stepSt R Γ (.AugAssign (.Attribute o n p) op v p') ρ σ k) (H:At prog w B F ρ σ s) :
 wpAny (model prog w) A (exec (.AugAssign (.Attribute o n p) op v p') F.env) (RSx prog w B F k) (Err prog w B F Γ.X) s:=by
 obtain ⟨ok,hh⟩:=chk_iff h
 rw[Bool.and_eq_true] at ok
 cases eq_of_beq ok.2
 refine wpAny_AugAssign_AttributeAny (snd.E hh fit H λa ov σ₁ s₁ ha H₁ h₁=>?_)
 induction a with
 |ref a=>
  subst ha
  obtain ⟨C,d,fs,e,ok',y,ey,h₁⟩:=h₁
  refine get_attr Gd H₁ e ok' ey λu t hu=>?_
  refine snd.E h₁ fit (H₁.tok t) λb x σ₂ s₂ hb H₂ h₂=>?_
  refine onInt_e h₂ hu λi t1 h₂=>onInt_e h₂ hb λj t2 h₂=>?_
  refine PyProof.Rows.iadd_int ?_
  obtain ⟨C',d',fs',e',ok'',hz,h₂⟩:=h₂
  exact set_attr Gd (x:=.int _) (H₂.tok _) e' ok'' ⟨_,rfl⟩ hz λs₃ H₃=>⟨.next,ρ,_,trivial,H₃,h₂⟩
 |_=>exact False.elim h₁
set_option tactic.hygienic true in
theorem s_stmt (Gd:Gd prog w K B) (hR:RaiseSnd prog w B) {R:Ops} (snd:Snd prog w B R) (fit:Fit prog w B Γ A F) {st:Stmt} {k:SPost} (h:stepSt R Γ st ρ σ k) (H:At prog w B F ρ σ s) :
 wpAny (model prog w) A (exec st F.env) (RSx prog w B F k) (Err prog w B F Γ.X) s:=by
 cases st_kinds h with
 |expr=>
  rename_i e pos
  obtain ⟨ok,h⟩:=chk_iff h
  refine wpAny_Expr_any (snd.E h fit H λa v σ₁ s₁ _ H₁ h₁=>?_) (by unfold interactive;refine rE fit.kind ?_;rfl) (by induction e using Expr.casesOn<;>first|rfl|cases ok)
  exact ⟨.next,ρ,σ₁,trivial,H₁,h₁⟩
 |ret=>
  refine wpAny_Return_some (snd.E h fit H λa v σ₁ s₁ ha H₁ h₁=>?_)
  exact ⟨.ret a,ρ,σ₁,ha,H₁,h₁⟩
 |ife=>
  refine wpAny_If (snd.T h fit H λc σ₁ s₁ H₁ h₁=>?_)
  induction c
  ·exact snd.s h₁ fit H₁
  ·exact snd.s h₁ fit H₁
 |asg=>
  rename_i t v pos
  induction e1:isTupleE t with
  |none=>exact s_asg Gd snd fit (λts es z _=>nn (e1.symm.trans z)) (two_opt (a:=isTupleE t) (b:=isTupleE v) h λts es z _=>nn (e1.symm.trans z)) H
  |some ts=>
   induction e2:isTupleE v with
   |none=>exact s_asg Gd snd fit (λts es _ z=>nn (e2.symm.trans z)) (two_opt (a:=isTupleE t) (b:=isTupleE v) h λts es _ z=>nn (e2.symm.trans z)) H
   |some es=>
    (refine xEE (isTupleE_e e1) λk1 p1=>?_;rintro rfl)
    (refine xEE (isTupleE_e e2) λk2 p2=>?_;rintro rfl)
    cases e1;cases e2
    obtain ⟨ok,h⟩:=chk_iff h
    simp only[Bool.and_eq_true] at ok
    exact wpAny_mono (s_tup Gd snd fit ok.1.1.2 ok.1.2 (Nat.le_of_ble_eq_true ok.2) h (Nat.eq_of_beq_eq_true ok.1.1.1) H) (λf s' z=>RSx.next z) λ_ _ z=>z
 |aug=>exact s_aug Gd snd fit h H
 |loop=>exact s_for Gd snd fit h H
 |rai=>
  obtain ⟨ok,hh⟩:=chk_iff h
  simp only[Bool.and_eq_true,beq_iff_eq] at ok
  obtain ⟨⟨rfl,o2⟩,o3⟩:=ok
  exact hR snd o2 o3 hh.1 hh.2 fit H
theorem s_list (Gd:Gd prog w K B) (hR:RaiseSnd prog w B) {R:Ops} (snd:Snd prog w B R) (fit:Fit prog w B Γ A F) {b:List Stmt} {k:SPost} (h:stepS R Γ b ρ σ k) (H:At prog w B F ρ σ s) :
 wpAny (model prog w) A (execs b F.env) (RSx prog w B F k) (Err prog w B F Γ.X) s:=by
 induction b using List.casesOn with
 |nil=>exact wpAny_execs_nil ⟨.next,ρ,σ,trivial,H,h⟩
 |cons st rest=>
  have h':stepSt R Γ st ρ σ (seqK R rest Γ k):=h
  refine wpAny_execs_cons (wpAny_mono (s_stmt Gd hR snd fit h' H) (λf s₁ h₁=>?_) λ_ _ z=>z)
  obtain ⟨fl,ρ₁,σ₁,fi,H₁,h₁⟩:=h₁
  induction fl with
  |next=>induction f<;>first|exact snd.s h₁ fit H₁|exact fi.elim
  |brk=>induction f<;>first|exact ⟨.brk,ρ₁,σ₁,fi,H₁,h₁⟩|exact fi.elim
  |cont=>induction f<;>first|exact ⟨.cont,ρ₁,σ₁,fi,H₁,h₁⟩|exact fi.elim
  |ret a=>induction f<;>first|exact ⟨.ret a,ρ₁,σ₁,fi,H₁,h₁⟩|exact fi.elim
theorem snd_all (Gd:Gd prog w K B) (hD:DictSnd prog w B) (hL:∀R,Snd prog w B R→LawSnd prog w B R) (hR:RaiseSnd prog w B):∀n,Snd prog w B (awp n):=by
 intro n
 induction n with
 |zero=>
  exact ⟨λh _ _=>h.elim,λh _ _=>h.elim,λh _ _=>h.elim,λh _ _ _=>h.elim⟩
 |succ n ih=>
  refine ⟨λ{Γ A F e ρ σ Q s} h fit H=>?_,λh fit H=>s_test Gd ih h fit H,λh fit H=>s_list Gd hR ih fit h H,λh hs fit H=>comp_used Gd ih h hs fit H⟩
  induction e using Expr.casesOn with
  |Constant c k pos=>exact e_const (R:=awp n) h H
  |Name id pos=>exact e_name Gd (R:=awp n) h fit H
  |Attribute v n pos=>exact e_attr Gd ih h fit H
  |Call f args kws pos=>exact e_call Gd hD (hL _ ih) ih h fit H
  |Compare l ops rs pos=>exact e_compare Gd ih h fit H
  |BoolOp op vs pos=>rw[arm_eval_BoolOp];exact e_bool ih fit h H
  |BinOp l op r pos=>exact e_binop Gd ih h fit H
  |UnaryOp op x pos=>exact e_unop ih h fit H
  |IfExp t b o pos=>exact e_ifexp ih h fit H
  |Subscript v s pos=>exact e_sub Gd ih h fit H
  |List es pos=>exact e_list ih h fit H
  |Tuple es k pos=>exact e_tuple ih h fit H
  |Dict ks vs pos=>exact e_dict ih h fit H
  |ListComp elt gens sc pos=>exact e_comp Gd ih h fit H
  |_=>exact h.elim
noncomputable def locOf (sc:Scope) (names:List Str) (as:List AV):Loc:=sc.names.map λp=>(p.1,(names.zip as).lookup p.1)
inductive FnObj (K:Frag) (f:Addr) (n:Nat) (names:List Str) (dflt:List AV) (body:List Stmt) (sc:Scope) (tab:Option (Addr×Str)):Prop
 |mk (name qual:Str) (params:Arguments) (dV kV doc pm cdv ct oc:Value) (an od:Option Addr) (osl:Array (Option Value)) (dvs:List Value) (h:K.lookup f=some ⟨oc,od,.func (fnOf name qual params body sc dV kV doc pm an cdv ct),osl⟩) (hc:codeIn K cdv qual=true)
  (i:AllIs dflt dvs) (b:∀args:List Value,args.length=n→∀S,peek K S (bindArgs (fnOf name qual params body sc dV kV doc pm an cdv ct) ⟨args,[]⟩)=some (names.zip (args ++ dvs)))
  (t:∀P q,tab=some (P,q)→∃c,cdv=.ref c∧codeHdIn K c P=true∧(qual ++ ".<locals>.") ++ "<lambda>"=q):FnObj K f n names dflt body sc tab
noncomputable def fnOk (n m:Nat) (names:List Str) (sc:Scope):Bool:=sc.kind == .function && (!sc.isCoroutine && (!sc.isGenerator && ((sc.names.all λp=>p.2 != .free) && (decide names.Nodup && ((names.all λx=>sc.names.lookup x == some .local || sc.names.lookup x == some .cell) && Nat.beq names.length (n + m))))))
structure FnAt (K:Frag) (f:Addr) (n:Nat) (names:List Str) (dflt:List AV) (body:List Stmt) (sc:Scope) (tab:Option (Addr×Str)):Prop where
 fn:FnObj K f n names dflt body sc tab
 ok:fnOk n dflt.length names sc=true
section
variable {K:Frag} {f:Addr} {n:Nat} {names:List Str} {dflt:List AV} {body:List Stmt} {sc:Scope} {tab:Option (Addr×Str)}
theorem FnAt.all (h:FnAt K f n names dflt body sc tab):sc.kind=.function∧sc.isCoroutine=false∧sc.isGenerator=false∧(sc.names.all λp=>p.2 != .free)=true∧names.Nodup∧(names.all λx=>sc.names.lookup x == some .local || sc.names.lookup x == some .cell)=true∧names.length=n + dflt.length:=by
 have o:=h.ok
 unfold fnOk at o
 rw[Bool.and_eq_true,Bool.and_eq_true,Bool.and_eq_true,Bool.and_eq_true,Bool.and_eq_true,Bool.and_eq_true] at o
 exact ⟨eq_of_beq o.1,Bool.not_eq_true' _▸o.2.1,Bool.not_eq_true' _▸o.2.2.1,o.2.2.2.1,of_decide_eq_true o.2.2.2.2.1,o.2.2.2.2.2.1,Nat.eq_of_beq_eq_true o.2.2.2.2.2.2⟩
end
theorem arg0 {P:List Value→Prop} (h:P []) (a:List Value) (q:a.length=0):P a:=List.length_eq_zero_iff.mp q▸h
theorem arg1 {P:List Value→Prop} {n:Nat} (h:∀x (a:List Value),a.length=n→P (x :: a)):∀a:List Value,a.length=n + 1→P a
 |x :: a,e=>h x a (Nat.succ.inj e)
section
variable {P:List Value→Prop}
theorem ag1 (h:∀a,P [a]):∀l:List Value,l.length=1→P l:=arg1 λa=>arg0 (h a)
theorem ag2 (h:∀a b,P [a,b]):∀l:List Value,l.length=2→P l:=arg1 λa=>arg1 λb=>arg0 (h a b)
theorem ag3 (h:∀a b c,P [a,b,c]):∀l:List Value,l.length=3→P l:=arg1 λa=>arg1 λb=>arg1 λc=>arg0 (h a b c)
theorem ag4 (h:∀a b c d,P [a,b,c,d]):∀l:List Value,l.length=4→P l:=arg1 λa=>arg1 λb=>arg1 λc=>arg1 λd=>arg0 (h a b c d)
theorem ag5 (h:∀a b c d e,P [a,b,c,d,e]):∀l:List Value,l.length=5→P l:=arg1 λa=>arg1 λb=>arg1 λc=>arg1 λd=>arg1 λe=>arg0 (h a b c d e)
theorem ag6 (h:∀a b c d e f,P [a,b,c,d,e,f]):∀l:List Value,l.length=6→P l:=arg1 λa=>arg1 λb=>arg1 λc=>arg1 λd=>arg1 λe=>arg1 λf=>arg0 (h a b c d e f)
theorem ag7 (h:∀a b c d e f g,P [a,b,c,d,e,f,g]):∀l:List Value,l.length=7→P l:=arg1 λa=>arg1 λb=>arg1 λc=>arg1 λd=>arg1 λe=>arg1 λf=>arg1 λg=>arg0 (h a b c d e f g)
end
theorem zip_lookup {names:List Str}:∀{as:List AV} {vs:List Value},AllIs as vs→∀{x:Str} {a:AV},(names.zip as).lookup x=some a→∃v,(names.zip vs).lookup x=some v∧a.Is v:=by
 induction names with
 |nil=>intro as vs _ x a e;exact nn e
 |cons n r ih=>
  intro as vs h x a e
  cases h with
  |nil=>exact nn e
  |cons h1 h2=>
   simp only[List.zip_cons_cons,List.lookup_cons] at e ⊢
   induction q:x == n with
   |true=>rw[q] at e;(have e:=sJ e;subst e);exact iEA _ rfl h1
   |false=>rw[q] at e;exact ih h2 e
theorem bindL_at {kindOf:Str→Option NameKind} {x:Str} (hk:kindOf x=some .local):∀{binds:List (Str×Value)} {m:Str→Option Value},(binds.map (·.1)).Nodup→∀{v},binds.lookup x=some v→bindL kindOf binds m x=some v:=by
 intro binds
 induction binds with
 |nil=>intro m _ v e;exact nn e
 |cons p r ih0=>
  obtain ⟨n,u⟩:=p
  intro m nd v e
  rw[List.map_cons,List.nodup_cons] at nd
  rw[List.lookup_cons] at e
  unfold bindL
  induction q:x == n with
  |true=>
   obtain rfl:=eq_of_beq q
   rw[q] at e;(have e:=sJ e;subst e)
   refine rE (if_pos hk) ?_
   have:∀{r:List (Str×Value)} {m:Str→Option Value},x∉r.map (·.1)→m x=some u→bindL kindOf r m x=some u:=by
    intro r
    induction r with
    |nil=>intro m _ h;exact h
    |cons p r ih=>
     intro m hx h
     obtain ⟨n,z⟩:=p
     simp only[List.map_cons,List.mem_cons,not_or] at hx
     unfold bindL
     refine ih hx.2 ?_
     split
     ·show (if x=n then some z else m x)=some u
      refine rE (if_neg hx.1) ?_;exact h
     ·exact h
   exact this nd.1 (if_pos rfl)
  |false=>rw[q] at e;exact ih0 nd.2 e
theorem bindC_at {kindOf:Str→Option NameKind} {x:Str} (hk:kindOf x=some .cell):∀{binds:List (Str×Value)} {m:Str→Option Value},(binds.map (·.1)).Nodup→∀{v},binds.lookup x=some v→bindC kindOf binds m x=some v
:=by
  intro binds
  induction binds with
  |nil=>intro m _ v e;exact nn e
  |cons p r ih0=>
   obtain ⟨n,u⟩:=p
   intro m nd v e
   rw[List.map_cons,List.nodup_cons] at nd
   rw[List.lookup_cons] at e
   unfold bindC
   induction q:x == n with
   |true=>
    obtain rfl:=eq_of_beq q
    rw[q] at e;(have e:=sJ e;subst e)
    refine rE (if_neg (by rw[hk];exact dE rfl)) ?_
    have:∀{r:List (Str×Value)} {m:Str→Option Value},x∉r.map (·.1)→m x=some u→bindC kindOf r m x=some u:=by
     intro r
     induction r with
     |nil=>intro m _ h;exact h
     |cons p r ih=>
      intro m hx h
      obtain ⟨n,z⟩:=p
      simp only[List.map_cons,List.mem_cons,not_or] at hx
      unfold bindC
      refine ih hx.2 ?_
      split
      ·exact h
      ·show (if x=n then some z else m x)=some u
       refine rE (if_neg hx.1) ?_;exact h
    exact this nd.1 (if_pos rfl)
   |false=>rw[q] at e;exact ih0 nd.2 e
theorem locOf_get {sc:Scope} {names:List Str} {as:List AV} {x:Str} {a:AV} (h:(locOf sc names as).get x=some a):(names.zip as).lookup x=some a:=by
 unfold locOf at h
 revert h
 generalize sc.names=l
 induction l with
 |nil=>intro h;exact nn h
 |cons p r ih=>
  intro h
  obtain ⟨n,k⟩:=p
  simp only[Loc.get,List.map_cons,List.lookup_cons] at h
  induction q:x == n with
  |true=>obtain rfl:=eq_of_beq q;rw[q] at h;exact h
  |false=>rw[q] at h;exact ih h
theorem kinds_cells {sc:Scope} {names:List Str} {vs:List Value} {n:Nat} (hb:(names.all λx=>sc.names.lookup x == some .local || sc.names.lookup x == some .cell)=true) :
 ∀x∈names.zip vs,sc.names.lookup x.1=some .local∨(sc.names.lookup x.1=some .cell∧((cellsFrom n sc.names []).lookup x.1).isSome=true):=λx hx=>by
 have h:=List.all_eq_true.mp hb x.1 (List.of_mem_zip hx).1
 simp only[Bool.or_eq_true,beq_iff_eq] at h
 exact h.imp id λe=>⟨e,cellsFrom_some _ _ _ (.inl e)⟩
theorem zip_keys:∀{names:List Str} {vs:List Value},names.length=vs.length→(names.zip vs).map (·.1)=names:=by
 intro names
 induction names with
 |nil=>intro vs _;rfl
 |cons n r ih=>
  intro vs h
  induction vs using List.casesOn with
  |nil=>cases h
  |cons v vs=>exact congrArg (n :: ·) (ih (Nat.succ.inj h))
theorem free_none {sc:Scope} (h:(sc.names.all λp=>p.2 != .free)=true) (x:Str):sc.names.lookup x≠some .free:=λe=>by
 have:=List.all_eq_true.mp h _ (lk_mem e)
 exact absurd (show (NameKind.free != NameKind.free)=true from this) (dE rfl)
theorem enterFn (Gd:Gd prog w K B) {d:Nat} {f:Addr} {as dflt:List AV} {names:List Str} {body:List Stmt} {sc:Scope} {X:Post} {own':Addr→Prop} {l:List Env} {args:List Value} {Rt:Result→Shared→Prop} {tab:Option (Addr×Str)} (fn:FnAt K f as.length names dflt body sc tab)
 (room:Room A (d + 1)) (hfr:A.frames=some l) (hhd:A.handled=none) (W:WS prog w B l σ s) (hi:AllIs as args) (hown:∀b,own' b→s.heap.get? b≠none)
 (h:∀F s₁,F.l=F.env :: l→F.σ₀=σ→F.s₀=s₁→(∀b,own' b→F.own b)→(∀b o,s.heap.get? b=some o→s₁.heap.get? b=some o)→(∀b∈frs (F.env :: l),b∈frs l∨s.heap.get? b=none)→
  (∀{σ' s'},Ev F.l F.own σ s₁ σ' s'→Ev l own' σ s σ' s')→(∀{σ' s'},WS prog w B F.l σ' s'→WS prog w B l σ' s')→F.env.frame=some F.env.locals→
  Fit prog w B ⟨sc.names,d,CallOK prog w B,X,tab⟩ (A.deeper F.env) F→At prog w B F (locOf sc names (as ++ dflt)) σ s₁→
  wpAny (model prog w) (A.deeper F.env) (execs body F.env) (λfl s'=>Rt (.ok (.ret (match fl with|.ret v=>v|_=>.none))) s')
   (λe s'=>wpAny (model prog w) (A.deeper F.env) (leaving F.env e) (λ_ s''=>Rt (.error e) s'') (λe' s''=>Rt (.error e') s'') s') s₁) :
 codeAny (model prog w) A (.call (.ref f) ⟨args,[]⟩) Rt s:=by
 obtain ⟨name,qual,params,dV,kV,doc,pm,cdv,ct,oc,an,od,osl,dvs,hl,hcd,hdv,hb,htab⟩:=fn.fn
 obtain ⟨fKind,fCo,fGen,fFree,fNodup,fBound,fLen⟩:=fn.all
 have XK:K.In s.heap:=Gd.X.keeps W.stays
 have hroom:A.depth < recursionLimit:=by have:=room.1;show A.depth < 1000;lia
 refine codeAny_call_function hroom (XK _ _ hl) rfl fCo fGen rfl (codeRec_of XK hcd) ?_
 refine kp_binds XK (λS=>hb args hi.length.symm S) _ _ _ _ ?_
 refine wpAny_newFunctionEnv_cells fKind (kinds_cells fBound) ?_
 intro env henv s₁ ic
 have hk:∀x,env.kindOf x=sc.names.lookup x:=λx=>by refine rE henv ?_;rfl
 have hL:env.frame=some env.locals:=by refine rE henv ?_;rfl
 have Lnew:s.heap.get? env.locals=none:=Heap.get?_none_of_le ic.toInCall.fresh
 refine xEE ic.toInCall.same λh₁ tk₁ hs₁=>?_
 have stays₁:B.StaysIn s₁.heap:=λb o e=>ic.toInCall.keep b o (W.stays b o e)
 have Bnone:∀b,s.heap.get? b=none→B.get? b=none:=λb e=>base_none W.stays e
 refine ⟨?_,codeAny_func ?_⟩
 ·refine xEA Gd.lim λmc a b=>?_
  exact ⟨mc,a.keeps stays₁,b⟩
 have nd:((names.zip (args ++ dvs)).map (·.1)).Nodup:=by
  refine rE (zip_keys (by rw[fLen,List.length_append,hi.length,hdv.length])) ?_;exact fNodup
 have lookupV:∀x a,(locOf sc names (as ++ dflt)).get x=some a→∃v,(names.zip (args ++ dvs)).lookup x=some v∧a.Is v:=λx a e=>zip_lookup (hi.append hdv) (locOf_get e)
 have cellNew:∀x c,env.cells.lookup x=some c→s.heap.get? c=none:=λx c e=>Heap.get?_none_of_le (Nat.le_trans ic.toInCall.fresh (Nat.le_of_lt (ic.above x c (lk_mem e))))
 let F:FQ:=⟨env :: l,env,λb=>(s.heap.get? b=none∧s₁.heap.get? b≠none)∨own' b,σ,s₁⟩
 have ns₁:s₁.heap.get? env.locals≠none:=by
  refine xEEEA ic.toInCall.ns λo _ _ e _=>?_
  refine rE e ?_;exact Option.some_ne_none _
 have W₁:WS prog w B (env :: l) σ s₁:=by
  refine ⟨stays₁,⟨?_,?_,funFrames_of W.frames λb o _ e hd=>⟨o,ic.toInCall.keep b o e,hd⟩⟩,W.rep.keeps λb ob e _=>ic.toInCall.keep b ob e,λb hb m=>?_,W.big⟩
  ·refine rE henv ?_;show sc.kind≠_;refine rE fKind ?_;exact dE rfl
  ·refine xEEEAA ic.toInCall.ns λo es ep e hd _=>?_
   exact ⟨_,o,hL,Bnone _ Lnew,e,λvs z=>by rw[hd] at z;exact nC Data.ctorIdx z rfl⟩
  ·simp only[frs,List.filterMap_cons,hL,List.mem_cons] at hb
   rcases hb with rfl|hb
   ·exact not_mut_new W.rep Lnew m
   ·exact W.sep b hb m
 have H:At prog w B F (locOf sc names (as ++ dflt)) σ s₁:=by
  refine ⟨⟨W₁,⟨⟨_,ic.toInCall.ns,λx a hx e=>?_⟩,λx c hc=>⟨_,ic.cell x c hc,λa hx e=>?_⟩,λx hx=>?_,ic.apart⟩,λm=>not_mut_new W.rep Lnew m⟩,Ev.refl ..⟩
  ·refine xEA (lookupV x a e) λv hv ha=>?_
   exact iEA v (bindL_at hx nd hv) ha
  ·refine xEA (lookupV x a e) λv hv ha=>?_
   refine iEA v (bindC_at (hx.resolve_right ?_) nd hv) ha
   refine rE (hk _) ?_;exact free_none fFree x
  ·rw[hk] at hx
   have hx:=hx.resolve_right (free_none fFree x)
   show (env.cells.lookup x).isSome=true
   refine rE henv ?_;exact cellsFrom_some _ _ _ (.inl hx)
 have frE:frs (env :: l)=env.locals :: frs l:=by simp only[frs,List.filterMap_cons,hL]
 have keepNew:∀b,s₁.heap.get? b=none→s.heap.get? b=none:=λb z=>by
  induction q:s.heap.get? b with
  |none=>rfl
  |some o=>rw[ic.toInCall.keep b o q] at z;exact nS z
 refine h F s₁ rfl rfl rfl (λb z=>.inr z) ic.toInCall.keep (λb hb=>?_) (λ{σ' s'} E=>?_) (λ{σ' s'} W'=>?_) hL ?_ H
 ·have hb:b∈frs (env :: l):=hb
  rw[frE] at hb
  exact (List.mem_cons.mp hb).elim (λz=>.inr (z▸Lnew)) .inl
 ·refine ⟨λb o e m n=>?_,λb m=>(E.fr b m).imp id (keepNew b),λb e=>keepNew b (E.th b e),?_⟩
  ·refine xEA (E.kp b o (ic.toInCall.keep b o e) m (λz=>z.elim (λz=>by rw[z.1] at e;exact nn e) n)) λo' e' q=>?_
   refine iEA o' e' (q.imp id λ⟨hb,sl,z⟩=>⟨?_,sl,z⟩)
   have hb:b∈frs (env :: l):=hb
   rw[frE] at hb
   exact (List.mem_cons.mp hb).resolve_left λz=>by rw[z,Lnew] at e;exact nn e
  ·have:=E.same
   rw[hs₁] at this
   exact this
 ·have sub:∀b∈frs l,b∈frs (env :: l):=λb hb=>by refine rE frE ?_;exact List.mem_cons_of_mem _ hb
  exact ⟨W'.stays,W'.frames.2.2,W'.rep,λb hb=>W'.sep b (sub b hb),W'.big⟩
 ·refine ⟨λx e=>(hk x).trans e,λx e=>(hk x).trans e,λx e=>.inl ((hk x).trans e),λx e=>(hk x).trans e,?_,?_,?_,?_,?_,?_,λ_ _ _ _ _ _ z=>z,.inl ⟨Lnew,ns₁⟩,λx c _ hc=>.inl ⟨cellNew x c hc,?_⟩,.inl ⟨l,_,rfl,hL⟩,Bnone _ Lnew,λb z=>?_,λx c hc=>Bnone _ (cellNew x c hc),λP q z=>?_⟩
  ·show env.scope.kind=_;refine rE henv ?_;exact fKind
  ·show env.globals=_;refine rE henv ?_;rfl
  ·show env.builtins=_;refine rE henv ?_;rfl
  ·show A.frames.map _=_;refine rE hfr ?_;rfl
  ·exact hhd
  ·have:=room.1;have:=room.2
   exact ⟨by show A.depth + 1 + 6 * d≤980;lia,by show A.units + 3 + 40 * d≤9600;lia⟩
  ·refine xEA (ic.cell x c hc) λo e _=>?_
   refine rE e ?_;exact Option.some_ne_none _
  ·exact z.elim (·.2) λy e=>hown b y (keepNew b e)
  ·refine xEAA (htab P q z) λc e1 e2 e3=>?_
   refine iEAA c ?_ (codeHd_of_K Gd.X e2) ?_
   ·show env.code=_;refine rE henv ?_;exact e1
   ·show env.qual ++ _=_;refine rE henv ?_;exact e3
noncomputable def endK (Q:Post):SPost:=λfl _ σ'=>match fl with
 |.ret a=>Q a σ'
 |.next=>Q .none σ'
 |_=>False
noncomputable def ΓF (prog:Program) (w:World) (B:Heap) (sc:Scope) (d:Nat) (X:Post) (tab:Option (Addr×Str)):Cx:=⟨sc.names,d,CallOK prog w B,X,tab⟩
theorem callFn (Gd:Gd prog w K B) (snd:∀n,Snd prog w B (awp n)) {n d:Nat} {f:Addr} {as dflt:List AV} {names:List Str} {body:List Stmt} {sc:Scope} {Q X:Post} {tab:Option (Addr×Str)} (fn:FnAt K f as.length names dflt body sc tab)
 (h:(awp n).S (ΓF prog w B sc d X tab) body (locOf sc names (as ++ dflt)) σ (endK Q)) :
 CallOK prog w B (d + 1) f as σ Q X:=by
 refine .of ?_
 intro A l s args room hfr hhd W hi
 refine enterFn Gd (own':=none') (X:=X) fn room hfr hhd W hi (λ_ f=>f.elim) λF s₁ e1 e2 e3 _ kp fn' evBack wsBack hL fit H=>?_
 refine wpAny_mono ((snd n).s h fit H) (λfl s' z=>?_) λe s' z=>?_
 ·obtain ⟨f',ρ',σ',fi,H',q⟩:=z
  have W':=wsBack H'.fs.ws
  have E':=evBack (e2▸e3▸H'.ev)
  induction f' with
  |next=>induction fl<;>first|exact ⟨.none,σ',rfl,W',E',q⟩|exact fi.elim
  |ret a=>induction fl<;>first|exact ⟨a,σ',fi,W',E',q⟩|exact fi.elim
  |_=>exact q.elim
 ·obtain ⟨v,σ',fl,W',ev,x⟩:=z
  rw[e1] at fl W' ev
  refine leave_at (A:=A.deeper F.env) (r:=l) ?_ hL ⟨fl,W',ev⟩ λs'' E''=>?_
  ·show A.frames.map _=_;refine rE hfr ?_;rfl
  ·refine ⟨v,σ',?_,wsBack (e1.symm▸E''.ws),evBack (e1.symm▸e2▸e3▸E''.ev),x⟩
   have z:=E''.fly.mono (m:=s.heap) λb e=>by
    induction q:s.heap.get? b with
    |none=>rfl
    |some o=>rw[e3,kp b o q] at e;exact nS e
   obtain ⟨ea,d',oe,vs,kvs,u,y1,y2,y3,y4,y5,y6,y7,y8,y9,y10,y11,y12,y13,y14⟩:=z
   refine ⟨ea,d',oe,vs,kvs,u,y1,y2,y3,y4,y5,y6,y7,y8,y9,y10,y11,y12,λhb=>y13 ?_,y14⟩
   simp only[frs,List.filterMap_cons,hL];exact List.mem_cons_of_mem _ hb
end
noncomputable def fst (k:Nat):Stmt:=(PySem.Challenge.pw_nu0289_01.main.body[k]?).getD (.Pass ⟨0,0,0,0⟩)
set_option backward.match.sparseCases false in
noncomputable def mst (k i:Nat):Stmt:=match fst k with
 |.ClassDef _ _ _ b _ _ _ _ _ _ _=>(b[i]?).getD (.Pass ⟨0,0,0,0⟩)
 |s=>s
set_option backward.match.sparseCases false in
noncomputable def fbody:Stmt→List Stmt
 |.FunctionDef _ _ b _ _ _ _ _ _ _=>b
 |_=>[]
set_option backward.match.sparseCases false in
noncomputable def fscope:Stmt→Scope
 |.FunctionDef _ _ _ _ _ _ s _ _ _=>s
 |_=>default
set_option backward.match.sparseCases false in
noncomputable def fparams:Stmt→List Str
 |.FunctionDef _ p _ _ _ _ _ _ _ _=>p.args.map (·.arg)
 |_=>[]
noncomputable abbrev FnK (K:Frag) (f:Addr) (n:Nat) (dflt:List AV) (st:Stmt) (tab:Option (Addr×Str):=none):Prop:=FnAt K f n (fparams st) dflt (fbody st) (fscope st) tab
noncomputable def fo (K:Frag) (f:Addr):Obj:=(K.lookup f).getD default
noncomputable def fd (K:Frag) (f:Addr):FuncData:=match (fo K f).data with
 |.func d=>d
 |_=>default
noncomputable def fdS (K:Frag) (f:Addr) (st:Stmt):FuncData:=let d:=fd K f
 fnOf d.name d.qualname d.params (fbody st) (fscope st) d.defaults d.kwdefaults d.doc d.pyModule d.annotations d.code d.closureTuple
noncomputable def foT (K:Frag) (f P:Addr) (q:Str):Bool:=match (fd K f).code with
 |.ref c=>codeHdIn K c P && ((fd K f).qualname ++ ".<locals>.") ++ "<lambda>" == q
 |_=>false
theorem foT_e {K:Frag} {f P:Addr} {q:Str} (z:foT K f P q=true):∃c,(fd K f).code=.ref c∧(codeHdIn K c P && ((fd K f).qualname ++ ".<locals>.") ++ "<lambda>" == q)=true:=by
 unfold foT at z
 induction e:(fd K f).code using Value.casesOn with
 |ref c=>rw[e] at z;exact ⟨c,rfl,z⟩
 |_=>rw[e] at z;exact nF z
noncomputable def dfV (a:AV) (v:Value):Bool:=match a with
 |.none=>match v with|.none=>true|_=>false
 |.int i=>match v with|.int j _=>i == j|_=>false
 |.str i=>match v with|.str j _=>i == j|_=>false
 |.ref i=>match v with|.ref j=>Nat.beq i j|_=>false
 |_=>false
theorem dfV_is {a:AV} {v:Value} (h:dfV a v=true):a.Is v:=by
 induction a using AV.casesOn with
 |none=>induction v using Value.casesOn with
  |none=>rfl
  |_=>exact nF h
 |int i=>induction v using Value.casesOn with
  |int j t=>exact eq_of_beq (show (i == j)=true from h)▸⟨t,rfl⟩
  |_=>exact nF h
 |str i=>induction v using Value.casesOn with
  |str j t=>exact eq_of_beq (show (i == j)=true from h)▸⟨t,rfl⟩
  |_=>exact nF h
 |ref i=>induction v using Value.casesOn with
  |ref j=>exact Nat.eq_of_beq_eq_true (show Nat.beq i j=true from h)▸rfl
  |_=>exact nF h
 |bool=>exact nF h
noncomputable def dfB:List AV→List Value→Bool
 |[],[]=>true
 |a :: as,v :: vs=>dfV a v && dfB as vs
 |_,_=>false
theorem dfB_is:∀{as:List AV} {vs:List Value},dfB as vs=true→AllIs as vs:=by
 intro as
 induction as with
 |nil=>intro vs h;induction vs using List.casesOn with
  |nil=>exact .nil
  |cons=>exact nF h
 |cons a as ih=>intro vs h;induction vs using List.casesOn with
  |nil=>exact nF h
  |cons=>exact .cons (dfV_is (Bool.and_eq_true_iff.mp h).1) (ih (Bool.and_eq_true_iff.mp h).2)
noncomputable def dfv (K:Frag) (f:Addr) (m:Nat):List Value:=match (fd K f).defaults with
 |.ref a=>match (fo K a).data with
  |.seq xs _=>xs.toList.drop (xs.toList.length - m)
  |_=>[]
 |_=>[]
section
variable {K:Frag} {f P:Addr} {q:Str} {n:Nat} {st:Stmt} {dflt:List AV} (h:K.lookup f=some ⟨(fo K f).cls,(fo K f).dict,.func (fdS K f st),(fo K f).slots⟩)
include h
theorem fnE (b:∀args:List Value,args.length=n→∀S,peek K S (bindArgs (fdS K f st) ⟨args,[]⟩)=some ((fparams st).zip (args ++ dfv K f dflt.length))) (ok:(codeIn K (fd K f).code (fd K f).qualname && (fnOk n dflt.length (fparams st) (fscope st) && dfB dflt (dfv K f dflt.length)))=true):FnK K f n dflt st:=
 have z:=Bool.and_eq_true_iff.mp ok
 have y:=Bool.and_eq_true_iff.mp z.2
 ⟨⟨_,_,_,_,_,_,_,_,_,_,_,_,_,_,h,z.1,dfB_is y.2,b,λ_ _ z=>nn z⟩,y.1⟩
variable (b:∀args:List Value,args.length=n→∀S,peek K S (bindArgs (fdS K f st) ⟨args,[]⟩)=some ((fparams st).zip (args ++ [])))
include b
theorem fnD (ok:(codeIn K (fd K f).code (fd K f).qualname && fnOk n 0 (fparams st) (fscope st))=true):FnK K f n [] st:=
 have z:=Bool.and_eq_true_iff.mp ok
 ⟨⟨_,_,_,_,_,_,_,_,_,_,_,_,_,_,h,z.1,.nil,b,λ_ _ z=>nn z⟩,z.2⟩
set_option tactic.hygienic true in
theorem fnT (ok:(codeIn K (fd K f).code (fd K f).qualname && (fnOk n 0 (fparams st) (fscope st) && foT K f P q))=true):FnK K f n [] st (some (P,q)):=
 have z:=Bool.and_eq_true_iff.mp ok
 have y:=Bool.and_eq_true_iff.mp z.2
 ⟨⟨_,_,_,_,_,_,_,_,_,_,_,_,_,_,h,z.1,.nil,b,λP' q' e=>by
  cases e
  refine xEA (foT_e y.2) λc hc hd=>?_
  exact iEAA c hc ((Bool.and_eq_true_iff.mp hd).1) (eq_of_beq (Bool.and_eq_true_iff.mp hd).2)⟩,y.1⟩
end
noncomputable def fnsL (K:Frag):List Prop:=[FnK K 267 1 [] (fst 15),
 FnK K 274 2 [] (fst 16),
 FnK K 308 1 [] (fst 21),
 FnK K 346 2 [] (fst 27),
 FnK K 361 1 [.int 6] (fst 29),
 FnK K 368 2 [] (fst 31),
 FnK K 375 1 [] (fst 32),
 FnK K 380 1 [] (fst 33),
 FnK K 385 2 [] (fst 34),
 FnK K 392 2 [] (fst 35),
 FnK K 420 3 [] (fst 40),
 FnK K 427 3 [] (fst 41),
 FnK K 434 3 [] (fst 42),
 FnK K 441 3 [] (fst 43),
 FnK K 448 4 [] (fst 44),
 FnK K 455 1 [] (fst 45),
 FnK K 462 2 [] (fst 46),
 FnK K 469 2 [] (fst 47),
 FnK K 476 3 [] (fst 48),
 FnK K 483 4 [] (fst 49),
 FnK K 490 1 [] (fst 50),
 FnK K 497 3 [] (fst 51),
 FnK K 504 3 [] (fst 52),
 FnK K 511 3 [] (fst 53),
 FnK K 518 2 [] (fst 54),
 FnK K 525 4 [] (fst 55),
 FnK K 532 4 [] (fst 56),
 FnK K 539 3 [] (fst 57),
 FnK K 546 3 [] (fst 58),
 FnK K 553 3 [] (fst 59),
 FnK K 560 3 [] (fst 60),
 FnK K 37 3 [] (mst 5 0),
 FnK K 59 4 [] (mst 6 0),
 FnK K 178 4 [] (mst 11 0),
 FnK K 218 5 [.none,.none] (mst 13 0),
 FnK K 218 7 [] (mst 13 0),
 FnK K 245 7 [] (mst 14 0),
 FnK K 253 4 [] (mst 14 1),
 FnK K 574 1 [] (mst 61 0),
 FnK K 581 4 [] (mst 61 1),
 FnK K 602 1 [] (mst 62 0),
 FnK K 609 4 [] (mst 62 1),
 FnK K 684 2 [.none,.none,.int 20000] (mst 71 0),
 FnK K 705 1 [] (mst 71 3),
 FnK K 726 2 [] (mst 71 6),
 FnK K 731 2 [] (mst 71 7),
 FnK K 738 2 [] (mst 71 8),
 FnK K 746 3 [.none,.none,.none] (mst 71 9),
 FnK K 746 4 [.none,.none] (mst 71 9),
 FnK K 746 6 [] (mst 71 9),
 FnK K 753 2 [] (mst 71 10),
 FnK K 788 2 [] (mst 71 15),
 FnK K 851 3 [] (mst 71 24),
 FnK K 858 3 [] (mst 71 25),
 FnK K 933 2 [] (fst 73),
 FnK K 938 2 [] (fst 74),
 FnK K 945 3 [] (fst 75),
 FnK K 952 2 [] (fst 76),
 FnK K 966 0 [] (fst 78),
 FnK K 973 3 [] (fst 79),
 FnK K 978 4 [] (fst 80),
 FnK K 985 3 [] (fst 81) (some (980,"_law_mixing_right.<locals>.<lambda>")),
 FnK K 992 4 [] (fst 82) (some (987,"_law_entry_right.<locals>.<lambda>")),
 FnK K 999 4 [] (fst 83)]
noncomputable def Fns (K:Frag):Prop:=∀i,(fnsL K).getD i True
theorem fnc {p:Prop} {l:List Prop} (h:p) (t:∀q∈l,q):∀q∈p :: l,q:=List.forall_mem_cons.2 ⟨h,t⟩
theorem fns_of {l:List Prop} (h:∀p∈l,p) (i:Nat):l.getD i True:=by
 induction l generalizing i with
 |nil=>exact trivial
 |cons p l ih=>induction i using Nat.casesOn with
  |zero=>exact h p (.head _)
  |succ i=>exact ih (λq hq=>h q (.tail _ hq)) i
section
variable {prog:Program} {w:World} {B:Heap} {K:Frag} {σ:AH} {d:Nat} {f:Addr} {as:List AV} {Q X:Post}
noncomputable def kIni (K:Frag):Bool:=itab.all λp=>makesIn K p.1 && (findIn K (.ref p.1) "__init__" == some (some (.ref p.2))) && (typeIn K (.ref p.2) == some (.type "function"))
theorem CallOK.mono {Q' X':Post} (h:CallOK prog w B d f as σ Q X) (hq:∀a τ,Q a τ→Q' a τ) (hx:∀a τ,X a τ→X' a τ):CallOK prog w B d f as σ Q' X':=.of λA l s args r fr hh W hi=>
 codeAny_mono (h.ok A l s args r fr hh W hi) λz s' hz=>by
  rcases z with e|(v|_|_|_)
  ·obtain ⟨v,τ,fl,W',ev,x⟩:=hz
   exact ⟨v,τ,fl,W',ev,hx _ _ x⟩
  ·exact (hz:False).elim
  ·exact (hz:False).elim
  ·exact (hz:False).elim
  ·obtain ⟨a,τ,ha,W',ev,q⟩:=hz
   exact ⟨a,τ,ha,W',ev,hq _ _ q⟩
theorem CallOK.more {d':Nat} (h:CallOK prog w B d f as σ Q X) (hd:d≤d'):CallOK prog w B d' f as σ Q X:=.of λA l s args r fr hh W hi=>
 h.ok A l s args ⟨by have:=r.1;lia,by have:=r.2;lia⟩ fr hh W hi
theorem mut_inst {σ:AH} {C x dx:Addr} {fs:List (Str×AV)} {b:Addr} (m:Mut (up σ x (.inst C dx fs)) b):b=x∨b=dx∨Mut σ b:=by
 rcases m with ⟨o,e⟩|⟨y,D,fs',e⟩
 ·by_cases q:b=x
  ·exact .inl q
  ·rw[up_ne q] at e;exact .inr (.inr (.inl ⟨o,e⟩))
 ·by_cases q:y=x
  ·subst q;rw[up_self] at e;cases e;exact .inr (.inl rfl)
  ·rw[up_ne q] at e;exact .inr (.inr (.inr ⟨y,D,fs',e⟩))
theorem callCls (Gd:Gd prog w K B) (hK:kIni K=true) {C:Addr} (hC:(C,f)∈itab)
 (h:∀x dx,Fresh σ x→Fresh σ dx→x≠dx→CallOK prog w B d f (.ref x :: as) (up σ x (.inst C dx [])) (λv τ=>v=.none∧Q (.ref x) τ) X) :
 CallOK prog w B (d + 1) C as σ Q X:=by
 refine .of ?_
 intro A l s args room hfr hhd W hi
 have XK:K.In s.heap:=Gd.X.keeps W.stays
 have k:=List.all_eq_true.mp hK _ hC
 simp only[Bool.and_eq_true,beq_iff_eq] at k
 obtain ⟨⟨k1,k2⟩,k3⟩:=k
 have R':=W.rep.pushInst (C:=C) W.stays W.big2
 obtain ⟨hh,g,dr,t,os⟩:=s
 have kp:∀b o,hh.get? b=some o→((hh.push emptyDict).push (instObj C hh.objs.size)).get? b=some o:=λb o e=>Heap.get?_push_of_some _ (Heap.get?_push_of_some _ e)
 have n0:hh.get? hh.objs.size=none:=get_none_size
 have n1:hh.get? (hh.objs.size + 1)=none:=Heap.get?_none_of_le (Nat.le_succ _)
 have nm0:=not_mut_new W.rep n0
 have nm1:=not_mut_new W.rep n1
 have W':WS prog w B l (up σ (hh.objs.size + 1) (.inst C hh.objs.size [])) ⟨(hh.push emptyDict).push (instObj C hh.objs.size),g,dr,t,os⟩:=by
  refine ⟨λb o e=>kp b o (W.stays b o e),funFrames_of W.frames λb o _ e hd=>⟨o,kp b o e,hd⟩,R',λb hb m=>?_,W.big⟩
  refine xAEA (W.frames.mem hb) λ_ o e _=>?_
  rcases mut_inst m with rfl|rfl|m
  ·rw[n1] at e;exact nn e
  ·rw[n0] at e;exact nn e
  ·exact W.sep b hb m
 have EV:Ev l none' σ ⟨hh,g,dr,t,os⟩ (up σ (hh.objs.size + 1) (.inst C hh.objs.size [])) ⟨(hh.push emptyDict).push (instObj C hh.objs.size),g,dr,t,os⟩:=by
  refine ⟨λb o e _ _=>⟨o,kp b o e,.inl rfl⟩,λb m=>?_,th_of kp,rfl,rfl,rfl⟩
  rcases mut_inst m with rfl|rfl|m
  ·exact .inr n1
  ·exact .inr n0
  ·exact .inl m
 refine make_core (makes_of XK k1) (looks_findIn XK k2) (λself=>bind_fn XK self k3) (.inl rfl) ?_
 have room':Room (A.under (.builtin "type.__call__" ⟨.ref C :: args,[]⟩)) d:=by
  refine ⟨?_,?_⟩
  ·have:=room.1
   show A.depth + (Code.builtin "type.__call__" ⟨.ref C :: args,[]⟩).weight + 6 * d≤980
   have q:(Code.builtin "type.__call__" ⟨.ref C :: args,[]⟩).weight=1:=by kernel_rfl
   lia
  ·have:=room.2
   show A.units + (Code.builtin "type.__call__" ⟨.ref C :: args,[]⟩).cUnits + 40 * d≤9600
   have q:(Code.builtin "type.__call__" ⟨.ref C :: args,[]⟩).cUnits=1:=by kernel_rfl
   lia
 refine codeAny_mono ((h _ _ (freshAt W n1) (freshAt W n0) (Nat.succ_ne_self _)).ok (A.under (.builtin "type.__call__" ⟨.ref C :: args,[]⟩)) l ⟨(hh.push emptyDict).push (instObj C hh.objs.size),g,dr,t,os⟩ (.ref (hh.objs.size + 1) :: args) room' ?_ hhd W' (.cons (show AV.Is (.ref _) _ from rfl) hi)) λz s' hz=>?_
 ·exact hfr
 ·rcases z with e|(v|_|_|_)
  ·obtain ⟨v,τ,fl,W'',ev,x⟩:=hz
   exact ⟨v,τ,fl.mono EV.th,W'',EV.trans ev,x⟩
  ·exact (hz:False).elim
  ·exact (hz:False).elim
  ·exact (hz:False).elim
  ·obtain ⟨a,τ,ha,W'',ev,q,q'⟩:=hz
   subst q
   exact ⟨ha,.ref (hh.objs.size + 1),τ,rfl,W'',EV.trans ev,q'⟩
end
section
open Builtin Builtin.ObjectAttr
section
variable {prog:Program} {w:World} {B:Heap} {K:Frag} {A:Around} {σ:AH} {s:Shared} {E:Value→Shared→Prop}
noncomputable def excMro:List Value:=[.ref 654,.ref 634,.type "ValueError",.type "Exception",.type "BaseException",.type "object"]
noncomputable def kExc (K:Frag):Bool:=hasDictIn K 654 && (findIn K (.ref 654) "__setattr__" == some (some (.builtin "object.__setattr__"))) && (takerIn K 654 "thing" == some none) && (takerIn K 654 "reason" == some none) && (clsIn K 654).any (λcd=>cd.mro == excMro)
theorem exc_dict {d:Addr} {n:Str} {v:Value} {t:Tok} {kvs:List (Str×Value)} {Q:Fin→Shared→Prop} (D:s.heap.DictOf (strKind prog w) d kvs) (hz:kvs.length≤100)
 (h:∀h' tk,h'.DictOf (strKind prog w) d (PySem.stored kvs n v)→Heap.SameBut d s.heap h'→Q (.done (.ret .none)) { s with heap:=h',toks:=tk }) :
 wpAny (model prog w) A (storeInDict d (.str n t) n v) Q E s:=by
 have key:∀t:Tok,(s.heap.update d (Obj.putName n (PyData.keyHash w.params n) (.str n t) v)).DictOf (strKind prog w) d (PySem.stored kvs n v):=λt=>dictOf_putName D
 have sb:∀t:Tok,Heap.SameBut d s.heap (s.heap.update d (Obj.putName n (PyData.keyHash w.params n) (.str n t) v)):=λt=>Heap.SameBut.update ..
 unfold storeInDict newKeyGuard
 refine wpAny_bind (wpAny_pure (wpAny_bind ?_))
 unfold nsSet
 refine xEEEAAAAA D λo es ep ho hcx hdd hk hp hn=>?_
 have pl:=hp.length
 refine wpAny_bind (wpAny_bind (wpAny_askSetting (wpAny_pure (wpAny_bind (wpAny_mkText (wpAny_bind (wpAny_loadPart ho ?_)))))))
 refine rE hdd ?_
 dsimp only
 have c:(!es.any (·.key.isStr n) && es.any (·.refKey))=false:=by rw[←Array.any_toList (p:=DictEntry.refKey),keysOf_noRef hk,Bool.and_false]
 rw[aRefKeyMayBeTheName_at,c]
 refine wpAny_updatePart ho ?_
 refine xEEEAAAAA (key s.toks) λo' es' ep' ho' hcx' hdd' hk' hp' hn'=>?_
 refine wpAny_bind (wpAny_lookBehind ho' (by
  refine rE hdd' ?_
  refine pastItsLine_dict ?_
  have q:=hp'.length
  have q2:(PySem.stored kvs n v).length≤kvs.length + 1:=by unfold PySem.stored;split<;>simp
  rw[Array.length_toList] at q
  refine rE sizeLine_eq ?_;lia) ?_)
 exact wpAny_pure (h _ _ (key _) (sb _))
theorem exc_set {x:Addr} {ox:Obj} {vs:Array Value} {n:Str} {v:Value} {kvs:List (Str×Value)} {Q:Unit→Shared→Prop} (X:K.In s.heap) (kE:kExc K=true) (hn:n = "thing"∨n = "reason")
 (hx:s.heap.get? x=some ox) (hc:ox.cls=.ref 654) (hd:ox.data=.fields vs) (hk:(ox.dict=none∧kvs=[])∨∃d,ox.dict=some d∧d≠x∧s.heap.DictOf (strKind prog w) d kvs) (hz:kvs.length≤100)
 (h:∀h' tk d,h'.get? x=some { ox with dict:=some d }→h'.DictOf (strKind prog w) d (PySem.stored kvs n v)→d≠x→(ox.dict=some d∨s.heap.get? d=none)→(∀b o,b≠x→b≠d→s.heap.get? b=some o→h'.get? b=some o)→Q () { s with heap:=h',toks:=tk }) :
 wpAny (model prog w) A (setAttr (.ref x) n v) Q E s:=by
 have SF:=PySem.F.store_object
 have SV:=PySem.F.store_ValueError
 unfold kExc at kE
 simp only[Bool.and_eq_true,beq_iff_eq] at kE
 obtain ⟨⟨⟨⟨k1,k2⟩,k3⟩,k4⟩,k5⟩:=kE
 refine xEA (any_some k5) λcd hcd hmro=>?_
 have hmro:=eq_of_beq hmro
 have hdict:cd.hasDict=true:=by
  refine xEA (any_some k1) λcd' e1 e2=>?_
  rw[hcd] at e1;(have e1:=sJ e1;subst e1);exact e2
 have taker:takerIn K 654 n=some none:=by rcases hn with rfl|rfl<;>assumption
 obtain ⟨od,I⟩:∃od,InstAt s.heap x ox 654 od:=by
  rcases hk with ⟨e,_⟩|⟨d,e,_,D⟩
  ·exact ⟨none,hx,hc,by unfold notCls;exact rE hd rfl,by rw[e];trivial⟩
  ·refine xEEEA D λo es ep ho _=>?_
   exact ⟨some o,hx,hc,by unfold notCls;exact rE hd rfl,by rw[e];exact ho⟩
 refine set_plain X I k2 ?_
 have sub:Looks (model prog w) s.heap (isInstance (.ref x) (.type "object")) true:=I.type.andThen (looks_mroIn X (by unfold mroIn;rw[hcd,Option.bind_some,hmro];decide +kernel))
 refine codeAny_call_builtin SF.slot.plain SF.entry (@check_slot (model prog w) _ _ { s with toks:=s.toks + 1 } "object.__setattr__" "object" "__setattr__" (.ref x) [.str n s.toks,v] [] _ SF.kind SF.split sub (SF.args (.ref x) (.str n s.toks) v) ?_)
 refine xEA (Option.bind_eq_some_iff.mp taker) λattr ha hr=>?_
 have hm:Looks (model prog w) s.heap (mroOf (.ref 654)) cd.mro:=(looks_clsIn X hcd).andThen .now
 have L3:Looks (model prog w) s.heap (storeTaker? attr) none:=by
  induction attr with
  |none=>exact .now
  |some a=>
   refine xEA (Option.map_eq_some_iff.mp hr) λb hb hb2=>?_
   refine (looks_takesIn X hb).andThen ?_
   induction b
   ·exact .now
   ·cases hb2
 rw[osa_eq,refuse_eq]
 refine wpAny_bind (wpAny_bind (Looks.here (s:={ s with toks:=s.toks + 1 }) I.type (wpAny_bind (Looks.here (s:={ s with toks:=s.toks + 1 }) hm ?_))))
 rw[hmro,excMro,refuseLoop_ref,refuseLoop_ref,SV.passes]
 refine wpAny_pure (wpAny_bind (Looks.here (s:={ s with toks:=s.toks + 1 }) I.type (wpAny_bind (Looks.here (s:={ s with toks:=s.toks + 1 }) (looks_findIn X ha) (wpAny_bind (Looks.here (s:={ s with toks:=s.toks + 1 }) L3 ?_))))))
 show wpAny _ _ (storeInOwnDict (.ref x) (.ref 654) (.str n s.toks) n v attr.isSome) _ _ _
 unfold storeInOwnDict
 refine wpAny_bind (wpAny_pure (wpAny_bind ?_))
 unfold ownDictForStores instanceDict
 refine wpAny_bind (wpAny_loadPart hx ?_)
 refine rE hc ?_
 dsimp only
 refine wpAny_bind (Looks.here (s:={ s with toks:=s.toks + 1 }) (looks_clsIn X hcd) ?_)
 refine rE hdict ?_
 rcases hk with ⟨e,rfl⟩|⟨d,e,hne,D⟩
 ·(refine rE e ?_;refine rE (if_neg (dE rfl)) ?_)
  dsimp only
  (refine rE (if_neg (by simp[typeHasDict])) ?_;refine rE hd ?_)
  dsimp only
  obtain ⟨hp,g,dr,tk,os⟩:=s
  have hxs:x≠hp.objs.size:=Nat.ne_of_lt (Heap.lt_size hx)
  have hx₁:(hp.push emptyDict).get? x=some ox:=Heap.get?_push_of_some _ hx
  refine wpAny_bind (wpAny_alloc' (wpAny_bind (wpAny_update' hx₁ (wpAny_pure ?_))))
  have hf:ox.isFreed=false:=Obj.isFreed_of_fields hd
  have hx₂:((hp.push emptyDict).update x λo=>{ o with dict:=some hp.objs.size }).get? x=some { ox with dict:=some hp.objs.size }:=by
   refine Heap.get?_update_self _ hx₁ ?_
   obtain ⟨c,dd,dt,sl⟩:=ox
   subst hd
   rfl
  have hD:((hp.push emptyDict).update x λo=>{ o with dict:=some hp.objs.size }).DictOf (strKind prog w) hp.objs.size []:=
   dictOf_keeps (Heap.DictOf.new hp) λob eo=>(Heap.get?_update_ne _ _ _ _ hxs.symm).trans eo
  refine exc_dict hD (by simp) λh' tk' D' sb=>?_
  refine h h' tk' hp.objs.size ((sb.2 x hxs).trans hx₂) D' hxs.symm (.inr get_none_size) λb o b1 b2 eb=>?_
  exact (sb.2 b b2).trans ((Heap.get?_update_ne _ _ _ _ b1).trans (Heap.get?_push_of_some _ eb))
 ·(refine rE e ?_;refine rE (if_neg (dE rfl)) ?_)
  dsimp only
  refine wpAny_pure ?_
  refine exc_dict (s:={ s with toks:=s.toks + 1 }) D hz λh' tk' D' sb=>?_
  refine h h' tk' d ((sb.2 x hne.symm).trans (hx.trans ?_)) D' hne (.inl e) λb o _ b2 eb=>(sb.2 b b2).trans eb
  obtain ⟨c,dd,dt,sl⟩:=ox
  subst e
  rfl
end
end
section
variable {prog:Program} {w:World} {A:Around} {R:Result→Shared→Prop} {E:Value→Shared→Prop} {h:Heap} {g:Array GenState} {d:Drawn} {t:Nat} {os:OsState}
variable {nm q:Str} {C N:Addr} {bs bm:List Value} {hdct:Bool} {sn:List Str} {sub:List Value} {ab:Bool} {col:Option Bool} {dd:Option Addr} {k0 k1 k2 k3 k5:Option Value} {Bn newId inN:String} {bmN:List Value} {K:Frag}
structure XMro (C:Addr) (bm:List Value) (Bn:String):Prop where
 b:(Value.ref C :: bm).contains (.type Bn)=true
 a:(Value.ref C :: bm).contains (.type "AttributeError")=false
 n:(Value.ref C :: bm).contains (.type "NameError")=false
theorem xn_new (Fn:ExcBaseFacts Bn newId inN bmN) (M:XMro C bm Bn) {rest:List Value} (hC:h.get? C=some (excClassObj nm q C N bs bm hdct sn sub ab col dd k0 k1 k2 k3 k5 newId))
 (hq:R (.ok (.ret (.ref (h.objs.size + 1)))) ⟨(h.push { cls:=.type "tuple",data:=.seq rest.toArray }).push
  { cls:=.ref C,data:=.fields #[.ref h.objs.size,.none,.none,.none,.bool false,.none] },g,d,t,os⟩) (hrest:rest.length≤sizeLine) :
 codeAny (model prog w) A (.builtin newId ⟨.ref C :: rest,[]⟩) R ⟨h,g,d,t,os⟩:=by
 have hends:=Fn.ends
 have hcB:=M.b
 have hcA:=M.a
 have hcN:=M.n
 refine codeAny_builtinAt Fn.entry ?_
 unfold Builtin.«BaseException.__new__»
 refine PySem.wpAt_bind ?_
 show PySem.wpAt _ _ _ (stack >>= _) _ _ _
 refine PySem.wpAt_bind (PySem.wpAt_stack λp below=>PySem.wpAt_of_wpAny ?_)
 wp_walk
 refine PySem.wpAt_of_wpAny ?_
 refine rE Fn.owner ?_
 repeat (first|with_reducible refine wpAny_madeHere_exc Fn.canon hC ?_|with_reducible refine wpAny_loadPart_at hC ?_|(with_reducible refine wpAny_isSubtype_exc hC ?_;first|rewrite [hcB]|rewrite [hcA]|refine rE hcN ?_)|wp_step)
 show R _ _
 refine rE (Heap.size_push _ _) ?_
 exact hq
theorem xn_check (Fn:ExcBaseFacts Bn newId inN bmN) (M:XMro C bm Bn) {P:Model} {rest:List Value} {Q:Unit→Shared→Prop} (hC:h.get? C=some (excClassObj nm q C N bs bm hdct sn sub ab col dd k0 k1 k2 k3 k5 newId))
 (hq:Q () ⟨h,g,d,t,os⟩):wpAny P A (checkBuiltinCall newId ⟨.ref C :: rest,[]⟩) Q E ⟨h,g,d,t,os⟩:=by
 have hcont:=M.b
 have hstar:=Fn.noStar
 unfold checkBuiltinCall
 (refine rE Fn.newKind ?_;refine rE Fn.newSplit ?_;refine rE Fn.newRow ?_)
 dsimp only
 repeat (first|refine wpAny_loadPart_at hC ?_|(refine wpAny_isSubtype_exc hC ?_;refine rE hcont ?_)|refine wpAny_staticBase_exc hC ?_|refine wpAny_madeBy_exc hC ?_|simp only[bne_self_eq_false,Bool.false_eq_true,if_false]|wp_step)
 exact hq
theorem xn_type (Fn:ExcBaseFacts Bn newId inN bmN) (M:XMro C bm Bn) {rest:List Value} {fI:Addr} {Q:Fin→Shared→Prop} (X:K.In h)
 (hC:h.get? C=some (excClassObj nm q C N bs bm hdct sn sub ab col dd k0 k1 k2 k3 k5 newId)) (hi:findIn K (.ref C) "__init__"=some (some (.ref fI))) (hf:typeIn K (.ref fI)=some (.type "function"))
 (hq:∀h' e,Heap.MadeExcOf h h' e (.ref C) rest→
  wpAny (model prog w) A (call (.ref fI) (.ref e :: rest)) (λr s'=>r=.none∧Q (.done (.ret (.ref e))) s') E ⟨h',g,d,t,os⟩) (hrest:rest.length≤sizeLine) :
 wpAny (model prog w) A (Builtin.«type.__call__» ⟨.ref C :: rest,[]⟩) Q E ⟨h,g,d,t,os⟩:=by
 repeat (first|with_reducible refine wpAny_loadPart_at hC ?_|with_reducible refine wpAny_madeBy_exc hC ?_|wp_step)
 refine codeAny_call_builtin_code (Code.quiet_builtin _ Fn.quiet) (xn_check Fn M hC ?_)
 refine xn_new Fn M hC ?_ hrest
 show wpAny _ _ _ _ _ _
 have kp:∀b o,h.get? b=some o→((h.push { cls:=.type "tuple",data:=.seq rest.toArray }).push { cls:=.ref C,data:=.fields #[.ref h.objs.size,.none,.none,.none,.bool false,.none] }).get? b=some o:=
  λb o e=>Heap.get?_push_of_some _ (Heap.get?_push_of_some _ e)
 have hC₁:=kp _ _ hC
 have hget:((h.push { cls:=.type "tuple",data:=.seq rest.toArray }).push
  { cls:=.ref C,data:=.fields #[.ref h.objs.size,.none,.none,.none,.bool false,.none] }).get? (h.objs.size + 1)=some
  { cls:=.ref C,data:=.fields #[.ref h.objs.size,.none,.none,.none,.bool false,.none] }:=by heap_get
 have hcC:(Value.ref C :: bm).contains (.ref C)=true:=by simp
 have X₁:K.In ((h.push { cls:=.type "tuple",data:=.seq rest.toArray }).push { cls:=.ref C,data:=.fields #[.ref h.objs.size,.none,.none,.none,.bool false,.none] }):=X.keeps kp
 unfold isInstance
 repeat (first|with_reducible refine wpAny_loadPart_at hget ?_|(with_reducible refine wpAny_isSubtype_exc hC₁ ?_;refine rE hcC ?_)|wp_step)
 show wpAny _ _ (typeLookup (.ref C) _) _ _ _
 refine Looks.at (looks_findIn X₁ hi) ?_
 refine wpAny_holding (wpAny_bind (Looks.at (bind_fn X₁ _ hf) (wpAny_bind (wpAny_mono (hq _ (h.objs.size + 1) ⟨kp,Heap.get?_none_of_le (Nat.le_succ _),h.objs.size,hget,Heap.get?_none_of_le (Nat.le_refl _),?_⟩) (λr s' hr=>?_) λ_ _ x=>x))))
 ·exact Heap.get?_push_of_some _ (Heap.get?_push_at rfl rfl)
 ·obtain ⟨rfl,hQ⟩:=hr
  wp_walk
  exact hQ
theorem xn_call (Fn:ExcBaseFacts Bn newId inN bmN) (M:XMro C bm Bn) {rest:List Value} {fI:Addr} {Q:Value→Shared→Prop} (X:K.In h)
 (hC:h.get? C=some (excClassObj nm q C N bs bm hdct sn sub ab col dd k0 k1 k2 k3 k5 newId)) (hi:findIn K (.ref C) "__init__"=some (some (.ref fI))) (hf:typeIn K (.ref fI)=some (.type "function"))
 (hq:∀h' e,Heap.MadeExcOf h h' e (.ref C) rest→
  wpAny (model prog w) (A.under (.builtin "type.__call__" ⟨.ref C :: rest,[]⟩)) (call (.ref fI) (.ref e :: rest)) (λr s'=>r=.none∧Q (.ref e) s') E ⟨h',g,d,t,os⟩) (hrest:rest.length≤sizeLine) :
 wpAny (model prog w) A (call (.ref C) rest) Q E ⟨h,g,d,t,os⟩:=by
 have f1:=tc_lookup
 have f2:=tc_bind (.ref C)
 have hT:(⟨h,g,d,t,os⟩:Shared).TypeIs (.ref C) "type":=⟨_,hC,rfl⟩
 refine wpAny_call (codeAny_of_tree ?_)
 show wpAny _ _ (callAny (.ref C) _) _ _ _
 repeat (any_goals (first|assumption|with_reducible refine wpAny_loadPart_at hC ?_|wp_step))
 refine ⟨rfl,?_⟩
 refine codeAny_call_builtin_at (Code.quiet_builtin _ (by decide +kernel)) entry_typeCall (wpAny_check_type_call_sub hC (xn_type Fn M X hC hi hf (λh' e hm=>?_) hrest))
 exact hq h' e hm
end
section
variable {M:Model} {A:Around} {E:Value→Shared→Prop} {env:Env}
variable {nm q:Str} {C N:Addr} {bs bm:List Value} {hdct:Bool} {sn:List Str} {sub:List Value} {ab:Bool} {col:Option Bool} {dd:Option Addr} {k0 k1 k2 k3 k5:Option Value} {newId:String}
noncomputable abbrev excObj (C t:Addr) (d:Option Addr):Obj:={ cls:=.ref C,dict:=d,data:=.fields #[.ref t,.none,.none,.none,.bool false,.none] }
theorem xr_stmt {s:Shared} {x:Sem Value} {Q:Flow→Shared→Prop} (hcB:(Value.ref C :: bm).contains (.type "BaseException")=true) (hh:A.handled=none)
 (h:wpAny M A x (λv s₁=>∃e t d,v=.ref e∧s₁.heap.get? C=some (excClassObj nm q C N bs bm hdct sn sub ab col dd k0 k1 k2 k3 k5 newId)∧
  s₁.heap.get? e=some (excObj C t d)∧E (.ref e) s₁) E s) :
 wpAny M A (raiseStmt env (some x) none) Q E s:=by
 unfold raiseStmt
 refine wpAny_bind (wpAny_mono h (λv s₁ h₁=>?_) λ_ _ x=>x)
 (refine xEEEAAA h₁ λe t d=>?_;rintro rfl hC he hE)
 obtain ⟨hp,g,dr,tk,os⟩:=s₁
 unfold excObj at he
 repeat (first|with_reducible refine wpAny_loadPart_at he ?_|with_reducible refine wpAny_loadPart_at hC ?_|(with_reducible refine wpAny_isSubtype_exc hC ?_;refine rE hcB ?_)|wp_step)
 exact wpAny_raiseNew_none hh hE
end
section
variable {prog:Program} {w:World} {A:Around} {E:Value→Shared→Prop} {h:Heap} {g:Array GenState} {d:Drawn} {tk:Nat} {os:OsState}
variable {nm q:Str} {C N:Addr} {bs bm:List Value} {hdct:Bool} {sn:List Str} {sub:List Value} {ab:Bool} {col:Option Bool} {dd:Option Addr} {k0 k1 k2 k3 k5:Option Value} {Bn newId nid inN:String} {bmN:List Value}
theorem xi_check (Fn:ExcBaseFacts Bn nid inN bmN) (M:XMro C bm Bn) {P:Model} {e:Addr} {oe:Obj} {rest:List Value} {Q:Unit→Shared→Prop}
 (hC:h.get? C=some (excClassObj nm q C N bs bm hdct sn sub ab col dd k0 k1 k2 k3 k5 newId)) (he:h.get? e=some oe) (hcls:oe.cls=.ref C) (hq:Q () ⟨h,g,d,tk,os⟩) :
 wpAny P A (checkBuiltinCall inN ⟨.ref e :: rest,[]⟩) Q E ⟨h,g,d,tk,os⟩:=by
 have hcB:=M.b
 have hshort:=Fn.noStar
 unfold checkBuiltinCall
 (refine rE Fn.initKind ?_;refine rE Fn.initSplit ?_;refine rE Fn.initRow ?_)
 dsimp only
 repeat (first|(with_reducible refine wpAny_loadPart_at he ?_;refine rE hcls ?_)|with_reducible refine wpAny_loadPart_at hC ?_|(with_reducible refine wpAny_isSubtype_exc hC ?_;refine rE hcB ?_)|wp_step)
 refine wpAny_onRaise ?_
 rw[show ∀(a b:String) (n:Nat),Bind.check ⟨.positional,"*",Bn,.self,[⟨"args",.varPos,false⟩]⟩ a b n (List.map (λx=>x.fst) ({ pos:=Value.ref e :: rest }:Args).kw)=pure () from
  λa b n=>check_star_args _ _ _ _ _ _]
 exact wpAny_pure hq
theorem xi_init (Fn:ExcBaseFacts Bn nid inN bmN) (M:XMro C bm Bn) {e t:Addr} {rest:List Value} {Q:Value→Shared→Prop}
 (hC:h.get? C=some (excClassObj nm q C N bs bm hdct sn sub ab col dd k0 k1 k2 k3 k5 newId)) (he:h.get? e=some (excObj C t none))
 (hq:∀h',h'.get? e=some (excObj C h.objs.size none)→(∀b o,b≠e→h.get? b=some o→h'.get? b=some o)→Q .none ⟨h',g,d,tk,os⟩) (hrest:rest.length≤sizeLine) :
 wpAny (model prog w) A (call (.builtin inN) (.ref e :: rest)) Q E ⟨h,g,d,tk,os⟩:=by
 refine wpAny_call (codeAny_call_builtin Fn.init.plain Fn.initEntry (xi_check Fn M hC he rfl ?_))
 unfold excObj at he
 wp_walk
 refine hq _ ?_ λb o hb e=>?_
 ·refine rE (Heap.get?_update_self _ (Heap.get?_push_of_some _ he) rfl) ?_
  rfl
 ·refine rE (Heap.get?_update_other _ _ (Ne.symm hb)) ?_
  exact Heap.get?_push_of_some _ e
end
section
variable {prog:Program} {w:World} {B:Heap} {K:Frag} {Γ:Cx} {A:Around} {F:FQ} {ρ:Loc} {σ:AH} {s:Shared} {E:Value→Shared→Prop}
structure Free (B:Heap) (F:FQ) (σ:AH) (s:Shared) (b:Addr):Prop where
 own:F.own b∨F.s₀.heap.get? b=none
 new:B.get? b=none
 nm:¬Mut σ b
 fr:b∉frs F.l
 nc:∀o,s.heap.get? b=some o→¬IsCode o
 nl:b≠F.env.locals
 ncell:∀x c,F.env.cells.lookup x=some c→b≠c
theorem At.turnP {P:Addr→Prop} {h':Heap} {t:Tok} (H:At prog w B F ρ σ s) (hP:∀b,P b→Free B F σ s b)
 (k:∀b o,¬P b→s.heap.get? b=some o→h'.get? b=some o) (k2:∀b,P b→s.heap.get? b≠none→h'.get? b≠none):At prog w B F ρ σ { s with heap:=h',toks:=t }:=by
 refine ⟨⟨⟨λb o e=>k b o (λp=>?_) (H.fs.ws.stays b o e),funFrames_of H.fs.ws.frames λb o hb e d=>⟨o,k b o (λp=>(hP b p).fr hb) e,d⟩,H.fs.ws.rep.keeps λb o e z=>k b o (λp=>z.elim (hP b p).nm ((hP b p).nc o e)) e,H.fs.ws.sep,H.fs.ws.big⟩,
  ⟨?_,λx c e=>?_,H.fs.loc.has,H.fs.loc.apart⟩,H.fs.sepL⟩,⟨λb o e m n=>?_,H.ev.fr,λb e=>?_,H.ev.same⟩⟩
 ·rw[(hP b p).new] at e;exact nn e
 ·(refine xEA H.fs.loc.ns λm=>?_;(rintro zz;refine xEEEA zz λo es ep ho r kk=>?_))
  exact iEA m ⟨o,es,ep,k _ _ (λp=>(hP _ p).nl rfl) ho,r⟩ kk
 ·(refine xEA (H.fs.loc.cell x c e) λv=>?_;(rintro zz;refine xEA zz λo ho hd kk=>?_))
  exact iEA v ⟨o,k c o (λp=>(hP c p).ncell x c e rfl) ho,hd⟩ kk
 ·refine xEA (H.ev.kp b o e m n) λo' e' q=>?_
  exact iEA o' (k b o' (λp=>(hP b p).own.elim n λz=>by rw[z] at e;exact nn e) e') q
 ·refine H.ev.th b ?_
  induction q:s.heap.get? b with
  |none=>rfl
  |some o=>
   by_cases p:P b
   ·exact absurd e (k2 b p (by refine rE q ?_;exact Option.some_ne_none _))
   ·have e:h'.get? b=none:=e
    rw[k b o p q] at e;exact nS e
theorem method_ty {T:String} {name:Str} {v:Value} {pl:Sem Bool} {Q:Value×List Value→Shared→Prop} (X:K.In s.heap) (ht:typeOf (.type T)=pure (.type "type")) (hs:Manifest.isStub T=false)
 (e:findCls K (.type T) (.type "type") name=some (.val v)) (hh:handedIn v=true) (h:Q (v,[]) { s with toks:=s.toks + 1 }):wpAny (model prog w) A (getMethod (.type T) name pl) Q E s:=by
 have L0:Looks (model prog w) s.heap (typeOf (.type T)) (.type "type"):=Looks.of_pure ht
 have hg:findIn K (.type "type") "__getattribute__"=some (some (.builtin "type.__getattribute__")):=type_tga
 unfold getMethod specialOf
 refine wpAny_bind (wpAny_bind (L0.here ((looks_findIn X hg).here ?_)))
 dsimp only
 refine rE (if_pos canon_tga) ?_
 refine wpAny_bind (wpAny_mono (Q:=λv=>Q (v,[])) (E:=E) ?_ (λ_ _ z=>wpAny_pure z) λ_ _ z=>z)
 exact cls_open X (Looks.of_pure (by unfold opaqueClassAbove;dsimp only;refine rE hs ?_;rfl)) L0 hg (looks_hook X (r:=none) (by rfl)) (by show subIn K _ _=_;rfl) e (wpAny_pure (handed_on hh h))
theorem ve_find:findCls K (.type "ValueError") (.type "type") "__init__"=some (.val (.builtin "ValueError.__init__")):=by rfl
theorem ve_type:typeOf (.type "ValueError")=pure (.type "type"):=by kernel_rfl
theorem ve_stub:Manifest.isStub "ValueError"=false:=by decide +kernel
theorem Free.ofNew (H:At prog w B F ρ σ s) {b:Addr} (e:s.heap.get? b=none):Free B F σ s b:=by
 refine ⟨.inr (H.ev.th b e),base_none H.fs.ws.stays e,not_mut_new H.fs.ws.rep e,λhb=>?_,λo q=>?_,λq=>ns_some H.fs (q▸e),λx c hc q=>?_⟩
 ·refine xAEA (H.fs.ws.frames.mem hb) λ_ o q _=>?_
  rw[q] at e;exact nS e
 ·rw[e] at q;exact nn q
 ·(refine xEA (H.fs.loc.cell x c hc) λv=>?_;(rintro zz;refine xEA zz λo ho _ _=>?_))
  rw[←q,e] at ho;exact nn ho
theorem Free.at {s':Shared} {b:Addr} {o:Obj} (f:Free B F σ s b) (e:s'.heap.get? b=some o) (n:¬IsCode o):Free B F σ s' b:=
 ⟨f.own,f.new,f.nm,f.fr,λo' e'=>by rw[e] at e';(have e':=sJ e';subst e');exact n,f.nl,f.ncell⟩
theorem excObj_nc {t:Addr} {dk:Option Addr}:¬IsCode (excObj 654 t dk):=λzz=>xEEEA zz λvs q x e z=>by cases e;cases z
theorem dictOf_nc {h:Heap} {d:Addr} {kvs:List (Str×Value)} (D:h.DictOf (strKind prog w) d kvs):∃o,h.get? d=some o∧¬IsCode o:=by
 refine xEEEAAA D λo es ep ho _ hd _=>?_
 exact iEA o ho (λzz=>xEEEA zz λvs q x e _=>by rw[hd] at e;exact nC Data.ctorIdx e rfl)
structure ExAt (prog:Program) (w:World) (B:Heap) (F:FQ) (σ:AH) (s:Shared) (ea t:Addr) (dk:Option Addr) (kvs:List (Str×Value)):Prop where
 obj:s.heap.get? ea=some (excObj 654 t dk)
 fe:Free B F σ s ea
 dict:(dk=none∧kvs=[])∨∃d,dk=some d∧d≠ea∧s.heap.DictOf (strKind prog w) d kvs∧Free B F σ s d
theorem exc_stmt (Gd:Gd prog w K B) (kE:kExc K=true) (fit:Fit prog w B Γ A F) (H:At prog w B F ρ σ s) {ea t:Addr} {dk:Option Addr} {kvs:List (Str×Value)} {n y:Str} {a:AV} {p1 p2 p3 p4:Pos} {Q:Flow→Shared→Prop}
 (X:ExAt prog w B F σ s ea t dk kvs) (hn:n = "thing"∨n=Str.ofString "reason") (ks:Γ.nm.lookup (Str.ofString "self")=some .local) (hs:ρ.get "self"=some (.ref ea)) (ky:Γ.nm.lookup y=some .local) (hy:ρ.get y=some a)
 (n1:(y == ("__debug__":Str))=false) (n2:(y == ("__classdict__":Str))=false) (hz:kvs.length≤100)
 (h:∀s' d v,a.Is v→At prog w B F ρ σ s'→ExAt prog w B F σ s' ea t (some d) (PySem.stored kvs n v)→(dk=some d∨s.heap.get? d=none)→Q .next s') :
 wpAny (model prog w) A (exec (.Assign [.Attribute (.Name "self" p1) n p2] (.Name y p3) p4) F.env) Q E s:=by
 refine wpAny_Assign_stores (wpAny_Name (ld_var fit H (.inl ky) hy n2 λv hv=>?_) n1) rfl rfl
 show wpAny _ _ (assign (.Attribute (.Name "self" p1) n p2) F.env v) _ _ _
 rw[arm_assign_Attribute]
 refine wpAny_bind (wpAny_holding (wpAny_Name (ld_var fit H (.inl ks) hs (dE rfl) λu hu=>?_) (dE rfl)))
 subst hu
 refine wpAny_bind (wpAny_standAt (wpAny_bind (wpAny_holding (exc_set (X_in Gd H) kE hn X.obj rfl rfl (X.dict.imp id λzz=>xEAAA zz λd e q D _=>⟨d,e,q,D⟩) hz λh' tk d e1 D e2 e3 k=>wpAny_release ?_))))
 have D':=D
 refine xEA (dictOf_nc D') λod hod ncd=>?_
 have fd:Free B F σ s d:=by
  rcases X.dict with ⟨e,_⟩|⟨d',e,_,_,f⟩
  ·refine .ofNew H (e3.resolve_left λq=>?_)
   rw[show (excObj 654 t dk).dict=dk from rfl,e] at q;exact nn q
  ·rcases e3 with q|q
   ·rw[show (excObj 654 t dk).dict=dk from rfl,e] at q;(have q:=sJ q;subst q);exact f
   ·exact .ofNew H q
 have H':At prog w B F ρ σ { s with heap:=h',toks:=tk }:=H.turnP (P:=λb=>b=ea∨b=d) (λb p=>p.elim (λe=>e▸X.fe) λe=>e▸fd) (λb o p e=>k b o (λq=>p (.inl q)) (λq=>p (.inr q)) e) λb p _=>by
  rcases p with rfl|rfl
  ·refine rE e1 ?_;exact Option.some_ne_none _
  ·refine rE hod ?_;exact Option.some_ne_none _
 exact h _ d v hv H' ⟨e1,X.fe.at e1 excObj_nc,.inr ⟨d,rfl,e2,D,fd.at hod ncd⟩⟩ e3
end
section
variable {prog:Program} {w:World} {B:Heap} {K:Frag} {Γ:Cx} {A A':Around} {F:FQ} {ρ:Loc} {σ:AH} {s:Shared} {E:Value→Shared→Prop}
noncomputable def excBm:List Value:=[.ref 634,.type "ValueError",.type "Exception",.type "BaseException",.type "object"]
inductive ExcCls (K:Frag):Prop
 |mk (nm q:Str) (N:Addr) (bs:List Value) (hdct:Bool) (sn:List Str) (sub:List Value) (ab:Bool) (col:Option Bool) (dd:Option Addr) (k0 k1 k2 k3 k5:Option Value) (h:K.lookup 654=some (excClassObj nm q 654 N bs excBm hdct sn sub ab col dd k0 k1 k2 k3 k5 "ValueError.__new__")):ExcCls K
structure ExcK (K:Frag):Prop where
 exc:kExc K=true
 gem:FnK K 631 2 [] (mst 64 0)
 rai:FnK K 651 2 [] (mst 65 0)
 cls:ExcCls K
 ini:findIn K (.ref 654) "__init__"=some (some (.ref 651))
 fn:typeIn K (.ref 651)=some (.type "function")
 glob:nsIn K mainGlobals "GemError"=some (some (.ref 634))
 reads:readsIn K 634 (.type "type")=true
 attr:(match findCls K (.ref 634) (.type "type") "__init__" with|some (.val v)=>v == .ref 631|_=>false)=true
 meth:specialIn K (.ref 634) "__getattribute__"=some (some (.builtin "type.__getattribute__"))
 keep:keepIn K (.ref 631)=true
theorem ve_handed:handedIn (.builtin "ValueError.__init__")=true:=by decide +kernel
theorem xmro:XMro 654 excBm "ValueError":=⟨by decide +kernel,by decide +kernel,by decide +kernel⟩
theorem ld_ns (Gd:Gd prog w K B) (fit:Fit prog w B Γ A F) (H:At prog w B F ρ σ s) {x:Str} {v:Value} {Q:Value→Shared→Prop} (hn:Γ.nm.lookup x=some .globalImplicit) (e:nsIn K mainGlobals x=some (some v))
 (h:Q v s):wpAny (model prog w) A' (loadName F.env x) Q E s:=by
 refine xEEEE Gd.top λp loose mg mb T=>?_
 refine rE (loadName_read fit.kind (fit.glo x hn)) ?_
 refine loadGlobal_global (mg:=mg) ?_ (mg_of Gd.X T.g e) h
 refine rE fit.g ?_;exact T.g.keeps H.fs.ws.stays
theorem At.stepO {own':Addr→Prop} {s':Shared} (H:At prog w B F ρ σ s) (E:Ev F.l own' σ s σ s') (hB:B.StaysIn s'.heap) (R:Rep prog w B σ s'.heap) (hf:∀b,own' b→F.own b∧Free B F σ s b):At prog w B F ρ σ s':=
 ⟨H.fs.ev E hB R (λb hb o=>(hf b o).2.fr hb) (λo=>(hf _ o).2.nl rfl) (λx c hc o=>(hf c o).2.ncell x c hc rfl),H.ev.trans (E.mono λb o=>(hf b o).1)⟩
structure ExIn (prog:Program) (w:World) (B:Heap) (l:List Env) (σ:AH) (s:Shared) (ea t:Addr):Prop where
 obj:s.heap.get? ea=some (excObj 654 t none)
 new:B.get? ea=none
 nm:¬Mut σ ea
 fr:ea∉frs l
structure ExOut (prog:Program) (w:World) (B:Heap) (l:List Env) (σ:AH) (s:Shared) (ea:Addr) (kvs:Value→List (Str×Value)) (a:AV) (s':Shared):Prop where
 ws:WS prog w B l σ s'
 ev:Ev l (λb=>b=ea) σ s σ s'
 ex:∃t d u,a.Is u∧s'.heap.get? ea=some (excObj 654 t (some d))∧s'.heap.DictOf (strKind prog w) d (kvs u)∧s.heap.get? d=none∧d≠ea
theorem ex_free (H:At prog w B F ρ σ s) {l:List Env} {s₀:Shared} {ea t:Addr} (X:ExIn prog w B l σ s₀ ea t) (own:F.own ea) (hfr:∀b∈frs F.l,b∈frs l∨s₀.heap.get? b=none) (e:s.heap.get? ea=some (excObj 654 t none)):Free B F σ s ea:=by
 refine ⟨.inl own,X.new,X.nm,λhb=>(hfr _ hb).elim X.fr λq=>?_,λo q=>?_,λq=>?_,λx c hc q=>?_⟩
 ·rw[X.obj] at q;exact nS q
 ·rw[e] at q;(have q:=sJ q;subst q);exact excObj_nc
 ·(refine xEA H.fs.loc.ns λm=>?_;(rintro zz;refine xEEEAA zz λo es ep ho hd _ _=>?_))
  rw[←q,e] at ho;(have ho:=sJ ho;subst ho);exact nC Data.ctorIdx hd rfl
 ·(refine xEA (H.fs.loc.cell x c hc) λv=>?_;(rintro zz;refine xEA zz λo ho hd _=>?_))
  rw[←q,e] at ho;(have ho:=sJ ho;subst ho);exact nC Data.ctorIdx hd rfl
theorem gem_body:∃p1 p2 p3 p4 p5 p6 p7 p8 p9 p10,fbody (mst 64 0)=[.Expr (.Call (.Attribute (.Name "ValueError" p1) "__init__" p2) [.Name "self" p3,.Name "reason" p4] [] p5) p6,
 .Assign [.Attribute (.Name "self" p7) "reason" p8] (.Name "reason" p9) p10]∧(p2.endLine == p5.line)=true:=⟨_,_,_,_,_,_,_,_,_,_,rfl,rfl⟩
theorem rai_body:∃p1 p2 p3 p4 k p5 p6 p7 p8 p9 p10,fbody (mst 65 0)=[.Expr (.Call (.Attribute (.Name "GemError" p1) "__init__" p2) [.Name "self" p3,.Constant (.str "a Ruby error") k p4] [] p5) p6,
 .Assign [.Attribute (.Name "self" p7) "thing" p8] (.Name "thing" p9) p10]∧(p2.endLine == p5.line)=true:=⟨_,_,_,_,_,_,_,_,_,_,_,rfl,rfl⟩
theorem gem_init (Gd:Gd prog w K B) (ek:ExcK K) {l:List Env} {ea t:Addr} {x:Str} {v:Value} (room:Room A 1) (hfr:A.frames=some l) (hhd:A.handled=none) (W:WS prog w B l σ s) (X:ExIn prog w B l σ s ea t) (hv:(AV.str x).Is v) :
 codeAny (model prog w) A (.call (.ref 631) ⟨[.ref ea,v],[]⟩) (λr s'=>r=.ok (.ret .none)∧ExOut prog w B l σ s ea (λu=>[("reason",u)]) (.str x) s') s:=by
 have hi:AllIs [.ref ea,.str x] [.ref ea,v]:=.cons (show AV.Is (.ref ea) _ from rfl) (.cons hv .nil)
 have hown:∀b,b=ea→s.heap.get? b≠none:=λb e=>by (refine rE e ?_;refine rE X.obj ?_);exact Option.some_ne_none _
 refine enterFn Gd (own':=λb=>b=ea) (as:=[.ref ea,.str x]) (X:=λ_ _=>False) ek.gem room hfr hhd W hi hown ?_
 intro F s₁ e1 e2 e3 ho kp fn' evBack wsBack hL fit H
 have fe:Free B F σ s₁ ea:=ex_free H X (ho _ rfl) (λb hb=>fn' b (e1▸hb)) (kp _ _ X.obj)
 refine xEEEEEEEEEEA gem_body λp1 p2 p3 p4 p5 p6 p7 p8 p9 p10 eb eline=>?_
 refine rE eb ?_
 refine wpAny_execs_cons (wpAny_Expr_any (call_attr rfl eline rfl (wpAny_Name (ld_bi Gd fit H (x:="ValueError") (v:=.type "ValueError") (by rfl) (dE rfl) (by decide +kernel) ?_ (dE rfl)) (dE rfl))) (by unfold interactive;refine rE fit.kind ?_;rfl) (by rfl))
 intro pl
 refine method_ty (T:="ValueError") (name:="__init__") (v:=.builtin "ValueError.__init__") (X_in Gd H) ve_type ve_stub ve_find ve_handed ?_
 have H:=H.tok (s₁.toks + 1)
 refine callWith_builtin rfl (evalArgs_plain (spliced_cons (wpAny_Name (ld_var fit H (.inl (by rfl)) (a:=.ref ea) (by rfl) (dE rfl) λu hu=>spliced_cons (wpAny_Name (ld_var fit H (.inl (by rfl)) (a:=.str x) (by rfl) (dE rfl) λy hy=>spliced_nil ?_) (dE rfl))) (dE rfl))))
 subst hu
 obtain ⟨nm,q,N,bs,hdct,sn,sub,ab,col,dd,k0,k1,k2,k3,k5,hC⟩:=ek.cls
 obtain ⟨hp,g,dr,tk,os⟩:=s₁
 refine xi_init PySem.F.excBase_ValueError xmro (X_in Gd H _ _ hC) (kp _ _ X.obj) (λh' he kk=>?_) (by refine rE sizeLine_eq ?_;exact Nat.le_of_ble_eq_true rfl)
 have H':At prog w B F _ σ ⟨h',g,dr,tk + 1,os⟩:=H.turnP (P:=λb=>b=ea) (λb e=>e▸fe.at (kp _ _ X.obj) excObj_nc) (λb o p e=>kk b o p e) (λb e _=>by (refine rE e ?_;refine rE he ?_);exact Option.some_ne_none _)
 refine wpAny_execs_cons (exc_stmt Gd ek.exc fit H' ⟨he,fe.at he excObj_nc,.inl ⟨rfl,rfl⟩⟩ (.inr rfl) (by rfl) (by rfl) (by rfl) (a:=.str x) (by rfl) (dE rfl) (dE rfl) (dE rfl) λs' d u hu H'' X' dn=>?_)
 refine wpAny_execs_nil ⟨rfl,wsBack H''.fs.ws,evBack (e3▸e2▸H''.ev),_,d,u,hu,X'.obj,?_,?_,?_⟩
 all_goals rcases X'.dict with ⟨q,_⟩|⟨d',q,ne,D,_⟩<;>cases q
 ·exact D
 ·rcases dn with q|q
  ·exact nn q
  ·have z:=H'.ev.th d q
   rw[e3] at z
   induction q':s.heap.get? d with
   |none=>rfl
   |some o=>rw[kp d o q'] at z;exact nS z
 ·exact ne
set_option tactic.hygienic true in
theorem rai_init (Gd:Gd prog w K B) (ek:ExcK K) {l:List Env} {ea t:Addr} {a:AV} {v:Value} (room:Room A 2) (hfr:A.frames=some l) (hhd:A.handled=none) (W:WS prog w B l σ s) (X:ExIn prog w B l σ s ea t) (hv:a.Is v) :
 codeAny (model prog w) A (.call (.ref 651) ⟨[.ref ea,v],[]⟩) (λr s'=>r=.ok (.ret .none)∧∃z,ExOut prog w B l σ s ea (λu=>[("reason",z),("thing",u)]) a s') s:=by
 have hi:AllIs [.ref ea,a] [.ref ea,v]:=.cons (show AV.Is (.ref ea) _ from rfl) (.cons hv .nil)
 have hown:∀b,b=ea→s.heap.get? b≠none:=λb e=>by (refine rE e ?_;refine rE X.obj ?_);exact Option.some_ne_none _
 refine enterFn Gd (own':=λb=>b=ea) (as:=[.ref ea,a]) (X:=λ_ _=>False) ek.rai room hfr hhd W hi hown ?_
 intro F s₁ e1 e2 e3 ho kp fn' evBack wsBack hL fit H
 have fe:Free B F σ s₁ ea:=ex_free H X (ho _ rfl) (λb hb=>fn' b (e1▸hb)) (kp _ _ X.obj)
 refine xEEEEEEEEEEEA rai_body λp1 p2 p3 p4 k p5 p6 p7 p8 p9 p10 eb eline=>?_
 refine rE eb ?_
 refine wpAny_execs_cons (wpAny_Expr_any (call_attr rfl eline rfl (wpAny_Name (ld_ns Gd fit H (by rfl) ek.glob ?_) (dE rfl))) (by unfold interactive;refine rE fit.kind ?_;rfl) (by rfl))
 intro pl
 obtain ⟨q,eq,hq⟩:∃q,findCls K (.ref 634) (.type "type") "__init__"=some (.val q)∧q=.ref 631:=by
  have z:=ek.attr
  split at z
  ·rename_i q eq;exact iEA q eq (eq_of_beq z)
  ·exact Bool.noConfusion z
 subst hq
 refine method_cls (X_in Gd H) ek.meth (cls_value (s:=s₁) (X_in Gd H) ek.reads eq rfl ?_)
 have H:=H.tok (s₁.toks + 1)
 refine args_of (K:=K) (P:=λvs s'=>∃y,vs=[.ref ea,y]∧(AV.str "a Ruby error").Is y∧At prog w B F (locOf (fscope (mst 65 0)) (fparams (mst 65 0)) ([.ref ea,a] ++ [])) σ s'∧s'.heap=s₁.heap) rfl
  (spliced_cons (wpAny_Name (ld_var fit H (.inl (by rfl)) (a:=.ref ea) (by rfl) (dE rfl) λu hu=>spliced_cons (@wpAny_Constant_str (model prog w) _ _ _ F.env "a Ruby error" k p4 _ (spliced_nil ⟨_,by subst hu;rfl,⟨_,rfl⟩,H.tok _,rfl⟩))) (dE rfl))) (λh X=>keeps_K ek.keep h X) ?_
 (rintro vs s₂ zz;refine xEAAA zz λy=>?_;rintro rfl hy H₂ eh)
 refine ⟨X_in Gd H₂,wpAny_call (codeAny_mono (gem_init Gd ek (l:=F.l) (t:=t) ⟨by have:=fit.room.1;show _≤980;lia,by have:=fit.room.2;show _≤9600;lia⟩ fit.frames fit.handled H₂.fs.ws ⟨by refine rE eh ?_;exact kp _ _ X.obj,fe.new,fe.nm,fe.fr⟩ hy) λr s₃ hr=>?_)⟩
 obtain ⟨rfl,ws,ev,t',d,u,hu,ho',hD,hdn,hne⟩:=hr
 have fe₂:Free B F σ s₂ ea:=fe.at (by refine rE eh ?_;exact kp _ _ X.obj) excObj_nc
 have H₃:=H₂.stepO ev ws.stays ws.rep (λb e=>by refine rE e ?_;exact ⟨ho _ rfl,fe₂⟩)
 refine xEA (dictOf_nc hD) λod hod ncd=>?_
 have fd:Free B F σ s₃ d:=(Free.ofNew H₂ hdn).at hod ncd
 refine wpAny_execs_cons (exc_stmt Gd ek.exc fit H₃ ⟨ho',fe₂.at ho' excObj_nc,.inr ⟨d,rfl,hne,hD,fd⟩⟩ (.inl rfl) (by rfl) (by rfl) (by rfl) (a:=a) (by rfl) (dE rfl) (dE rfl) (Nat.le_of_ble_eq_true rfl) λs' d' u' hu' H'' X' dn=>?_)
 refine wpAny_execs_nil ⟨rfl,u,wsBack H''.fs.ws,evBack (e3▸e2▸H''.ev),_,d',u',hu',X'.obj,?_,?_,?_⟩
 all_goals rcases X'.dict with ⟨q,_⟩|⟨d'',q,ne,D,_⟩<;>cases q
 ·exact D
 ·have dn':s₂.heap.get? d'=none:=by
   rcases dn with q|q
   ·(have q:=sJ q;subst q);exact hdn
   ·exact ev.th _ q
  rw[eh] at dn'
  induction q':s.heap.get? d' with
  |none=>rfl
  |some o=>rw[kp d' o q'] at dn';exact nS dn'
 ·exact ne
end
section
variable {prog:Program} {w:World} {B:Heap} {K:Frag}
theorem Ev.transN {l own own'} {σ σ₁ σ₂:AH} {s s₁ s₂:Shared} (x:Ev l own σ s σ₁ s₁) (y:Ev l own' σ₁ s₁ σ₂ s₂) (h:∀b,own' b→own b∨s.heap.get? b=none):Ev l own σ s σ₂ s₂:=by
 have nm:∀b o,s.heap.get? b=some o→¬Mut σ b→¬Mut σ₁ b:=λb o e nm m=>(x.fr b m).elim nm λq=>by rw[q] at e;exact nn e
 refine ⟨λb o e m n=>?_,λb m=>?_,λb e=>x.th b (y.th b e),y.same.1.trans x.same.1,y.same.2.1.trans x.same.2.1,y.same.2.2.trans x.same.2.2⟩
 ·refine xEA (x.kp b o e m n) λo₁ e₁ h₁=>?_
  obtain ⟨o₂,e₂,h₂⟩:=y.kp b o₁ e₁ (nm b o e m) λz=>(h b z).elim n λq=>by rw[q] at e;exact nn e
  refine iEA o₂ e₂ ?_
  rcases h₁ with rfl|⟨f,sl,rfl⟩
  ·exact h₂
  ·rcases h₂ with rfl|⟨_,sl',rfl⟩
   ·exact .inr ⟨f,sl,rfl⟩
   ·exact .inr ⟨f,sl',rfl⟩
 ·rcases y.fr b m with q|q
  ·exact x.fr b q
  ·exact .inr (x.th b q)
theorem raise_snd (Gd:Gd prog w K B) (ek:ExcK K):RaiseSnd prog w B:=by
 intro R Γ A F ρ σ s e rp cp pos Q snd hn hp hd h fit H
 obtain ⟨nm,q,N,bs,hdct,sn,sub,ab,col,dd,k0,k1,k2,k3,k5,hC⟩:=ek.cls
 have hp:=(Bool.and_eq_true_iff.mp hp).2
 have hplain:=(plain_any (pos:=cp) (env:=F.env) hp).1
 have hse:=star_cons (r:=[]) (env:=F.env) (Bool.and_eq_true_iff.mp hp).1
 rw[arm_exec_Raise]
 refine wpAny_bind (wpAny_standAt (xr_stmt (C:=654) (nm:=nm) (q:=q) (N:=N) (bs:=bs) (bm:=excBm) (hdct:=hdct) (sn:=sn) (sub:=sub) (ab:=ab) (col:=col) (dd:=dd) (k0:=k0) (k1:=k1) (k2:=k2) (k3:=k3) (k5:=k5) (newId:="ValueError.__new__") (by decide +kernel) fit.handled
  (wpAny_bind (wpAny_mono (wpAny_Call_ofName (wpAny_Name (ld_glob Gd fit H hn (a:=654) rfl ?_) (dE rfl))) (λv s₃ h₃=>wpAny_bind (wpAny_standAt (wpAny_pure h₃))) λ_ _ x=>x))))
 have ev:wpAny (model prog w) A (evalArgs (.ref 654) true (backTo cp [(false,eval e F.env)]) []) (λa s₂=>a.kw=[]∧∃v b σ₁,a.pos=[v]∧b.Is v∧At prog w B F ρ σ₁ s₂∧Γ.X b σ₁) (Err prog w B F Γ.X) s:=
  evalArgs_plain (spliced_cons (snd.E h fit H λb v σ₁ s₁ hb H₁ x=>spliced_nil ⟨rfl,v,b,σ₁,rfl,hb,H₁,x⟩))
 unfold callWith
 rw[hse] at hplain ⊢
 refine wpAny_bind (wpAny_holding (wpAny_mono ev (λa s₂ h₂=>wpAny_bind (wpAny_standAt ?_)) λ_ _ x=>x))
 obtain ⟨apos,akw⟩:=a
 refine xAEEEAAA h₂ λhkw v b σ₁ hpos hb H₁ hx=>?_
 obtain rfl:akw=[]:=hkw
 obtain rfl:apos=[v]:=hpos
 obtain ⟨hp',g,dr,tk,os⟩:=s₂
 have X₁:=X_in Gd H₁
 have hC₁:=X₁ _ _ hC
 refine rE hplain ?_
 refine wpAny_bind (wpAny_keeperOf_exc hC₁ ?_)
 refine wpAny_bind (xn_call PySem.F.excBase_ValueError xmro X₁ hC₁ ek.ini ek.fn (λh' ea hm=>?_) (by refine rE sizeLine_eq ?_;exact Nat.le_of_ble_eq_true rfl))
 obtain ⟨keeps,new,t,ht,_⟩:=hm
 have H₂:At prog w B F ρ σ₁ ⟨h',g,dr,tk,os⟩:=H₁.grow keeps
 have fe:Free B F σ₁ ⟨hp',g,dr,tk,os⟩ ea:=.ofNew H₁ new
 refine wpAny_call (codeAny_mono (rai_init Gd ek (l:=F.l) (t:=t) (a:=b) ?_ fit.frames fit.handled H₂.fs.ws ⟨ht,fe.new,fe.nm,fe.fr⟩ hb) λr s₃ hr=>?_)
 ·have r:=fit.room
  refine ⟨?_,?_⟩
  ·have:=r.1
   show A.depth + (Code.builtin "type.__call__" ⟨.ref 654 :: [v],[]⟩).weight + 6 * 2≤980
   have q:(Code.builtin "type.__call__" ⟨.ref 654 :: [v],[]⟩).weight=1:=by kernel_rfl
   lia
  ·have:=r.2
   show A.units + (Code.builtin "type.__call__" ⟨.ref 654 :: [v],[]⟩).cUnits + 40 * 2≤9600
   have q:(Code.builtin "type.__call__" ⟨.ref 654 :: [v],[]⟩).cUnits=1:=by kernel_rfl
   lia
 obtain ⟨rfl,z,ws,ev',t',d,u,hu,ho,hD,hdn,hne⟩:=hr
 have fd:Free B F σ₁ ⟨h',g,dr,tk,os⟩ d:=.ofNew H₂ hdn
 have hn0:F.s₀.heap.get? ea=none:=H₁.ev.th ea new
 refine ⟨rfl,wpAny_bind (wpAny_holding (wpAny_point (wpAny_pure ⟨ea,t',some d,rfl,(Gd.X.keeps ws.stays) _ _ hC,ho,?_⟩)))⟩
 refine ⟨b,σ₁,⟨ea,d,_,_,_,u,rfl,ho,rfl,rfl,rfl,hD,rfl,hu,hn0,fe.new,fe.nm,fd.nm,fd.fr,.inl rfl⟩,ws,H₂.ev.transN ev' λb e=>.inr (e▸hn0),hx⟩
end
section
variable {prog:Program} {w:World} {B:Heap} {K:Frag} {Γ:Cx} {A:Around} {F:FQ} {ρ:Loc} {σ:AH} {s:Shared} {E:Value→Shared→Prop}
structure LawK (K:Frag) (B:Heap):Prop where
 fn:FnK K 959 1 [] (fst 77)
 glob:nsIn K mainGlobals "_law_error"=some (some (.ref 959))
 keep:keepIn K (.ref 959)=true
 bm:∃mg bm ob,B.Ns mainGlobals mg∧mg "__builtins__"=some (.ref bm)∧bm≠builtinsNs∧B.get? bm=some ob∧ob.cls=.type "module"∧ob.dict=some builtinsNs∧ob.data=.plain
structure LamAt (h:Heap) (f:Addr) (q:Str) (body:Expr) (sc:Scope) (cl:List (Str×Addr)):Prop where
 at_:∃pm cdv ctv,h.get? f=some { cls:=.type "function",data:=.func (kla_fn "<lambda>" q ⟨[],[],none,[],[],none,[]⟩ body sc cl pm cdv ctv) }∧h.CodeRec cdv q
theorem LamAt.keeps {h h':Heap} {f:Addr} {q:Str} {body:Expr} {sc:Scope} {cl:List (Str×Addr)} (x:LamAt h f q body sc cl) (k:∀b o,h.get? b=some o→(IsCode o∨b=f)→h'.get? b=some o):LamAt h' f q body sc cl:=by
 refine xEEEAEEEEAAA x.at_ λpm cdv ctv e c o vs t e1 e2 e3 e4=>?_
 exact ⟨pm,cdv,ctv,k _ _ e (.inr rfl),c,o,vs,t,e1,k _ _ e2 (.inl ⟨vs,_,_,e3,e4⟩),e3,e4⟩
theorem up_same {P:Addr} {o:AO} (h:σ P=some o):up σ P o=σ:=funext λb=>by
 by_cases q:b=P
 ·subst q;rw[up_self,h]
 ·exact rE (up_ne q) rfl
theorem among_snoc (pos:Pos) (a b:Int) (c cv:Value):∀n l,l.length≤n→TriplesOk l→codeAmong pos (l ++ [rawInt a,rawInt b,c])=some cv→codeAmong pos l=some cv∨cv=c:=by
 intro n
 induction n with
 |zero=>
  intro l hl h e
  have z:=List.length_eq_zero_iff.mp (Nat.le_zero.mp hl)
  subst z
  have e:(if (a == pos.line && b == pos.col)=true then some c else codeAmong pos [])=some cv:=e
  split at e
  ·(have e:=sJ e;subst e);exact .inr rfl
  ·exact nn e
 |succ n ih=>
  intro l hl h e
  rcases trip_cases h with z|⟨l1,t1,k,t2,x,rest,z,h⟩
  ·subst z;exact ih [] (Nat.zero_le _) h e
  subst z
  have e:(if (l1 == pos.line && k == pos.col)=true then some x else codeAmong pos (rest ++ [rawInt a,rawInt b,c]))=some cv:=e
  show (if (l1 == pos.line && k == pos.col)=true then some x else codeAmong pos rest)=some cv∨_
  split at e
  ·rename_i q;refine rE (if_pos q) ?_;exact .inl e
  ·rename_i q;refine rE (if_neg q) ?_;exact ih rest (by simp only[List.length_cons] at hl;lia) h e
theorem lam_make (Gd:Gd prog w K B) (lk:LawK K B) (fit:Fit prog w B Γ A F) (H:At prog w B F ρ σ s) {P:Addr} {q:Str} {body:Expr} {sc:Scope} {cl:List (Str×Addr)} {pos:Pos} {Q:Value→Shared→Prop} (htab:Γ.tab=some (P,q)) (hσ:σ P=some (.tab q)) (hcl:closureFor sc F.env=pure cl)
 (h:∀f s',At prog w B F ρ σ s'→LamAt s'.heap f q body sc cl→s.heap.get? f=none→Q (.ref f) s'):wpAny (model prog w) A (eval (.Lambda ⟨[],[],none,[],[],none,[]⟩ body sc pos) F.env) Q E s:=by
 refine xEAA (fit.code P q htab) λc hcode C hq=>?_
 obtain ⟨mg,bm,ob,hgB,b1,b2,b3,b4,b5,b6⟩:=lk.bm
 have hg:=hgB.keeps H.fs.ws.stays
 refine xEAA (H.fs.ws.rep.obj P _ hσ) λps hP htr hcs=>?_
 have nB:B.get? P=none:=(H.fs.ws.rep.new P (.inl ⟨_,hσ⟩)).1
 have hgP:mainGlobals≠P:=λz=>by
  refine xEEEA hgB λo es ep e _=>?_
  rw[z,nB] at e;exact nn e
 have hbG:bm≠mainGlobals:=λz=>by
  refine xEEEAA hgB λo es ep e hd _=>?_
  rw[z,e] at b3;(have b3:=sJ b3;subst b3);rw[hd] at b6;exact nC Data.ctorIdx b6 rfl
 have hbuilt:s.heap.BuiltinsAt mg P:=⟨bm,ob,b1,b2,hbG,(λz=>by rw[z,nB] at b3;exact nn b3),H.fs.ws.stays _ _ b3,b4,b5,b6⟩
 have hmut:Mut σ P:=.inl ⟨_,hσ⟩
 refine kla_eval rfl ?_
 refine rE hq ?_
 induction hf:codeAmong pos ps.toList with
 |some cv=>
  refine kla_makeFunctionHit hcl fit.g hg hcode (C.keeps H.fs.ws.stays) hP htr hf hbuilt λctv h' tk k hsz=>?_
  have k':∀b o,s.heap.get? b=some o→(h'.push { cls:=.type "function",data:=.func (kla_fn "<lambda>" q ⟨[],[],none,[],[],none,[]⟩ body sc cl ((mg "__name__").getD .none) cv ctv) }).get? b=some o:=λb o e=>Heap.get?_push_of_some _ (k b o e)
  (refine xEA (hcs pos cv hf) λc'=>?_;rintro rfl hrec)
  refine h _ _ (H.grow k') ⟨_,_,_,Heap.get?_push_size _ rfl,?_⟩ (Heap.get?_none_of_le hsz)
  refine xEEEEAAA hrec λc₂ o vs t e1 e2 e3 e4=>?_
  exact ⟨c₂,o,vs,t,e1,k' _ _ e2,e3,e4⟩
 |none=>
  refine kla_makeFunction hcl fit.g hg hcode (C.keeps H.fs.ws.stays) hP htr hf hgP hbuilt λc' ctv h' tk hx hge hlt hrec htb=>?_
  have k':∀b o,b≠P→s.heap.get? b=some o→(h'.push (kla_obj "<lambda>" q ⟨[],[],none,[],[],none,[]⟩ body sc cl ((mg "__name__").getD .none) c' ctv)).get? b=some o:=λb o ne e=>Heap.get?_push_of_some _ (hx b o ne e)
  have hrec':(h'.push (kla_obj "<lambda>" q ⟨[],[],none,[],[],none,[]⟩ body sc cl ((mg "__name__").getD .none) c' ctv)).CodeRec (.ref c') q:=by
   refine xEEEEAAA hrec λc₂ o vs t e1 e2 e3 e4=>?_
   exact ⟨c₂,o,vs,t,e1,Heap.get?_push_of_some _ e2,e3,e4⟩
  have hP':(h'.push (kla_obj "<lambda>" q ⟨[],[],none,[],[],none,[]⟩ body sc cl ((mg "__name__").getD .none) c' ctv)).get? P=some (tabObj (ps ++ #[rawInt pos.line,rawInt pos.col,.ref c'])):=Heap.get?_push_of_some _ htb
  have htr':TriplesOk (ps ++ #[rawInt pos.line,rawInt pos.col,Value.ref c']).toList:=by
   refine rE Array.toList_append ?_;exact TriplesOk_snoc _ _ _ _ htr
  have hcs':∀(pos':Pos) cv,codeAmong pos' (ps ++ #[rawInt pos.line,rawInt pos.col,Value.ref c']).toList=some cv→codeAmong pos' ps.toList=some cv∨cv=.ref c':=λpos' cv e=>by
   rw[Array.toList_append] at e;exact among_snoc _ _ _ _ _ _ _ (Nat.le_refl _) htr e
  have R':Rep prog w B σ (h'.push (kla_obj "<lambda>" q ⟨[],[],none,[],[],none,[]⟩ body sc cl ((mg "__name__").getD .none) c' ctv)):=by
   refine rL (up_same hσ) ?_
   refine H.fs.ws.rep.put (a:=P) (λ_ _ _ z=>by exact nC AO.ctorIdx z rfl) ⟨_,hP',htr',λpos' cv e=>?_⟩ (λx C fs e=>?_) (H.fs.ws.rep.new P hmut) k' λob e=>?_
   ·rcases hcs' pos' cv e with e|rfl
    ·(refine xEAEEEEAAA (hcs pos' cv e) λc''=>?_;rintro rfl o vs t x e1 e2 e3 e4)
     cases e1
     exact ⟨c'',rfl,c'',vs,t,x,rfl,k' _ _ (λz=>by rw[z,hP] at e2;(have e2:=sJ e2;subst e2);cases e3;rw[←Array.getElem?_toList] at e4;exact triples_one htr _ _ e4) e2,e3,e4⟩
    ·exact iEA c' rfl hrec'
   ·rw[H.fs.ws.rep.off x C P fs e] at hσ;exact nn hσ
   ·rw[hP] at e;(have e:=sJ e;subst e)
    exact ⟨(λ_ z=>by exact nC Data.ctorIdx z rfl),(λvs q' t z=>by cases z;refine rL (Array.getElem?_toList) ?_;exact triples_one htr _ _),λ_ z=>by exact nC Data.ctorIdx z rfl⟩
  refine h _ _ (H.step (.heap (λb o e m _=>k' b o (λz=>m (z▸hmut)) e) (λb m=>.inl m) λb e=>?_) (λb o e=>k' b o (λz=>by rw[z,nB] at e;exact nn e) (H.fs.ws.stays b o e)) R') ⟨_,_,_,Heap.get?_push_size _ rfl,hrec'⟩ ?_
  ·induction z:s.heap.get? b with
   |none=>rfl
   |some o=>
    by_cases y:b=P
    ·subst y;rw[hP'] at e;exact nS e
    ·rw[k' b o y z] at e;exact nS e
  ·exact Heap.get?_none_of_le (Nat.le_of_lt (Nat.lt_of_le_of_lt hge hlt))
end
section
variable {prog:Program} {w:World} {B:Heap} {K:Frag} {A:Around} {σ:AH} {s:Shared}
structure LamSc (sc:Scope):Prop where
 kind:sc.kind=.function
 plain:sc.isCoroutine=false∧sc.isGenerator=false
 kinds:∀p∈sc.names,p.2=.free∨p.2=.globalImplicit
theorem lam_call (Gd:Gd prog w K B) {R:Ops} (snd:Snd prog w B R) {d:Nat} {call:Nat→Addr→List AV→AH→Post→Post→Prop} (hcall:∀d f vs σ Q X,call d f vs σ Q X→CallOK prog w B d f vs σ Q X) {l:List Env} {f:Addr} {q:Str} {body:Expr} {sc:Scope}
 {cl:List (Str×Addr)} {ρ:Loc} {Q X:Post} (ok:LamSc sc) (L:LamAt s.heap f q body sc cl) (room:Room A (d + 1)) (hfr:A.frames=some l) (hhd:A.handled=none) (W:WS prog w B l σ s)
 (hcells:∀x c,cl.lookup x=some c→B.get? c=none∧∃v,s.heap.IsCell c v∧∀a,ρ.get x=some a→∃u,v=some u∧a.Is u) (hhas:∀x,(x,NameKind.free)∈sc.names→(cl.lookup x).isSome=true) (hap:cl.Pairwise λx y=>x.2≠y.2)
 (h:R.E ⟨sc.names,d,call,X,none⟩ body ρ σ Q) :
 codeAny (model prog w) A (.call (.ref f) ⟨[],[]⟩) (ROut prog w B l σ s Q X) s:=by
 refine xEEEA L.at_ λpm cdv ctv hf hrec=>?_
 have hroom:A.depth < recursionLimit:=by have:=room.1;show A.depth < 1000;lia
 refine kla_callFunE hroom hf rfl ok.plain.1 ok.plain.2 rfl hrec (wpAny_of_eq (a:=[]) rfl ?_)
 refine wpAny_newFunctionEnv (λx hx z=>by rcases ok.kinds x hx with q|q<;>(rw[q] at z;exact nC NameKind.ctorIdx z rfl)) (λx hx=>nomatch hx) (λh₁ hns hsb=>?_) ok.kind
 have kp:∀b o,s.heap.get? b=some o→h₁.get? b=some o:=λb o e=>hsb.extBut b o (Nat.ne_of_lt (Heap.lt_size e)) (Heap.get?_push_of_some _ e)
 have Lnew:s.heap.get? s.heap.objs.size=none:=get_none_size
 refine xEA Gd.lim λmc a0 b0=>?_
 refine ⟨⟨mc,a0.keeps λb o e=>kp b o (W.stays b o e),b0⟩,?_⟩
 generalize henv:newEnv sc s.heap.objs.size mainGlobals cl (q ++ ".<locals>.") (some f) cdv none builtinsNs=env
 have hL:env.frame=some env.locals:=by refine rL henv ?_;rfl
 have hLL:env.locals=s.heap.objs.size:=by refine rL henv ?_;rfl
 have hk:∀x,env.kindOf x=sc.names.lookup x:=λx=>by refine rL henv ?_;rfl
 have hcl:env.cells=cl:=by refine rL henv ?_;rfl
 let s₁:Shared:={ s with heap:=h₁,toks:=s.toks + ([]:List (Str×Value)).length }
 have keepNew:∀b,h₁.get? b=none→s.heap.get? b=none:=λb z=>by
  induction q:s.heap.get? b with
  |none=>rfl
  |some o=>rw[kp b o q] at z;exact nS z
 have frE:frs (env :: l)=env.locals :: frs l:=by simp only[frs,List.filterMap_cons,hL]
 have W₁:WS prog w B (env :: l) σ s₁:=by
  refine xEEEAA hns λo es ep e hd _=>?_
  refine ⟨λb o e=>kp b o (W.stays b o e),⟨?_,⟨_,o,hL,?_,by refine rE hLL ?_;exact e,λvs z=>by rw[hd] at z;exact nC Data.ctorIdx z rfl⟩,funFrames_of W.frames λb o _ e hd=>⟨o,kp b o e,hd⟩⟩,W.rep.keeps λb ob e _=>kp b ob e,λb hb m=>?_,W.big⟩
  ·refine rL henv ?_;show sc.kind≠_;refine rE ok.kind ?_;exact dE rfl
  ·refine rE hLL ?_;exact base_none W.stays Lnew
  ·rw[frE] at hb
   rcases List.mem_cons.mp hb with rfl|hb
   ·rw[hLL] at m;exact not_mut_new W.rep Lnew m
   ·exact W.sep b hb m
 let F:FQ:=⟨env :: l,env,λb=>s.heap.get? b=none∧h₁.get? b≠none,σ,s₁⟩
 have noloc:∀x,env.kindOf x≠some .local:=λx z=>by
  rw[hk] at z
  rcases ok.kinds _ (lk_mem z) with q|q<;>exact nC NameKind.ctorIdx q rfl
 have nocell:∀x,env.kindOf x≠some .cell:=λx z=>by
  rw[hk] at z
  rcases ok.kinds _ (lk_mem z) with q|q<;>exact nC NameKind.ctorIdx q rfl
 have hne:h₁.get? env.locals≠none:=by
  refine xEEEA hns λo es ep e _=>?_
  (refine rE hLL ?_;refine rE e ?_);exact Option.some_ne_none _
 have H:At prog w B F ρ σ s₁:=by
  refine ⟨⟨W₁,⟨⟨_,by show h₁.Ns env.locals _;refine rE hLL ?_;exact hns,λx a hx _=>absurd hx (noloc x)⟩,λx c e=>?_,λx hx=>?_,by show env.cells.Pairwise _;refine rE hcl ?_;exact hap⟩,λm=>?_⟩,Ev.refl ..⟩
  ·rw[show F.env.cells=cl from hcl] at e
   (refine xAEA (hcells x c e) λ_ v=>?_;(rintro zz;refine xEA zz λo ho hd k=>?_))
   exact iEA v ⟨o,kp c o ho,hd⟩ (λa _ ea=>k a ea)
  ·show (env.cells.lookup x).isSome=true
   refine rE hcl ?_
   have hx:env.kindOf x=some .free:=hx.resolve_left (nocell x)
   rw[hk] at hx
   exact hhas x (lk_mem hx)
  ·have m:Mut σ env.locals:=m
   rw[hLL] at m;exact not_mut_new W.rep Lnew m
 have fit:Fit prog w B ⟨sc.names,d,call,X,none⟩ (A.deeper env) F:=by
  refine ⟨λx e=>(hk x).trans e,λx e=>(hk x).trans e,λx e=>.inl ((hk x).trans e),λx e=>(hk x).trans e,?_,?_,?_,?_,?_,?_,hcall,⟨by show s.heap.get? env.locals=none;refine rE hLL ?_;exact Lnew,hne⟩,λx c z _=>absurd ((hk x).trans z) (nocell x),.inl ⟨l,_,rfl,hL⟩,by show B.get? env.locals=none;refine rE hLL ?_;exact base_none W.stays Lnew,λb z=>z.2,λx c hc=>?_,λP q z=>nomatch z⟩
  ·show env.scope.kind=_;refine rL henv ?_;exact ok.kind
  ·show env.globals=_;refine rL henv ?_;rfl
  ·show env.builtins=_;refine rL henv ?_;rfl
  ·show A.frames.map _=_;refine rE hfr ?_;rfl
  ·exact hhd
  ·have:=room.1;have:=room.2
   exact ⟨by show A.depth + 1 + 6 * d≤980;lia,by show A.units + 3 + 40 * d≤9600;lia⟩
  ·rw[show F.env.cells=cl from hcl] at hc
   exact (hcells x c hc).1
 have evBack:∀{σ' s'},Ev (env :: l) F.own σ s₁ σ' s'→Ev l none' σ s σ' s':=λ{σ' s'} E=>by
  refine ⟨λb o e m _=>?_,λb m=>(E.fr b m).imp id (keepNew b),λb e=>keepNew b (E.th b e),E.same⟩
  refine xEA (E.kp b o (kp b o e) m (λz=>by rw[z.1] at e;exact nn e)) λo' e' q=>?_
  refine iEA o' e' (q.imp id λ⟨hb,sl,z⟩=>⟨?_,sl,z⟩)
  rw[frE] at hb
  exact (List.mem_cons.mp hb).resolve_left λz=>by rw[z,hLL,Lnew] at e;exact nn e
 have wsBack:∀{σ' s'},WS prog w B (env :: l) σ' s'→WS prog w B l σ' s':=λ{σ' s'} W'=>
  ⟨W'.stays,W'.frames.2.2,W'.rep,λb hb=>W'.sep b (by refine rE frE ?_;exact List.mem_cons_of_mem _ hb),W'.big⟩
 refine kla_codeExpr (wpAny_mono (snd.e h fit H) (λv s' z=>?_) λe s' z=>?_)
 ·obtain ⟨a,σ',ha,H',q⟩:=z
  exact ⟨a,σ',ha,wsBack H'.fs.ws,evBack H'.ev,q⟩
 ·obtain ⟨v,σ',fl,W',ev,x⟩:=z
  refine leave_at (A:=A.deeper env) (r:=l) ?_ hL ⟨fl,W',ev⟩ λs'' E''=>?_
  ·show A.frames.map _=_;refine rE hfr ?_;rfl
  ·refine ⟨v,σ',?_,wsBack E''.ws,evBack E''.ev,x⟩
   obtain ⟨ea,d',oe,vs,kvs,u,y1,y2,y3,y4,y5,y6,y7,y8,y9,y10,y11,y12,y13,y14⟩:=(E''.fly.mono (m:=s.heap) keepNew)
   exact ⟨ea,d',oe,vs,kvs,u,y1,y2,y3,y4,y5,y6,y7,y8,y9,y10,y11,y12,λhb=>y13 (by refine rE frE ?_;exact List.mem_cons_of_mem _ hb),y14⟩
end
section
open Builtin Builtin.ObjectAttr
section
variable {prog:Program} {w:World} {B:Heap} {K:Frag} {A:Around} {s:Shared} {E:Value→Shared→Prop}
noncomputable def kExcGet (K:Frag):Bool:=(findIn K (.ref 654) "__getattribute__" == some (some (.builtin "BaseException.__getattribute__"))) && (findIn K (.ref 654) "__getattr__" == some none) &&
 (match findIn K (.ref 654) "thing" with|some attr=>noGet K attr|none=>false) && hasDictIn K 654 && (mroIn K 654 (.type "BaseException") == some true)
set_option tactic.hygienic true in
theorem exc_get {x d:Addr} {ox:Obj} {vs:Array Value} {kvs:List (Str×Value)} {v:Value} {expr:Bool} {Q:Value→Shared→Prop} (X:K.In s.heap) (kG:kExcGet K=true) (hx:s.heap.get? x=some ox) (hc:ox.cls=.ref 654) (hd:ox.data=.fields vs)
 (hdd:ox.dict=some d) (D:s.heap.DictOf (strKind prog w) d kvs) (hv:valueAt kvs "thing"=some v) (hh:handedIn v=true) (h:Q v { s with toks:=s.toks + 1 }):wpAny (model prog w) A (getAttr (.ref x) "thing" expr) Q E s:=by
 unfold kExcGet at kG
 simp only[Bool.and_eq_true,beq_iff_eq] at kG
 obtain ⟨⟨⟨⟨k1,k2⟩,k3⟩,k4⟩,k5⟩:=kG
 obtain ⟨attr,ha,hn⟩:∃attr,findIn K (.ref 654) "thing"=some attr∧noGet K attr=true:=by
  split at k3
  ·rename_i attr ea;exact iEA attr ea k3
  ·exact Bool.noConfusion k3
 obtain ⟨od,hod⟩:∃od,s.heap.get? d=some od:=by refine xEEEA D λo _ _ e _=>?_;exact ⟨o,e⟩
 have I:W.InstAt s.heap x ox 654 (some od):=⟨hx,hc,by unfold notCls;exact rE hd rfl,by rw[hdd];exact hod⟩
 have l:=lookIn_dictOf D hod "thing"
 rw[hv] at l
 have hf:=findObj_own (K:=K) k4 ha hn l
 have sl:=PySem.F.attrBase_ValueError.ga
 refine wpAny_bind (wpAny_mkText (wpAny_holding (wpAny_bind (Looks.here (s:={ s with toks:=s.toks + 1 }) I.type (wpAny_bind (Looks.here (s:={ s with toks:=s.toks + 1 }) (looks_findIn X k1) ?_))))))
 dsimp only
 (refine rE (show (onTheHeap (.ref 654) && Value.builtin "BaseException.__getattribute__" == Value.builtin "object.__getattribute__")=false from by rw[show (Value.builtin "BaseException.__getattribute__" == Value.builtin "object.__getattribute__")=false from by decide +kernel,Bool.and_false]) ?_;refine rE (if_neg (dE rfl)) ?_)
 refine wpAny_bind (Looks.here (s:={ s with toks:=s.toks + 1 }) (looks_hook (r:=none) (mc:=.ref 654) X (by refine rE (if_pos (dE rfl)) ?_;exact k2)) (wpAny_bind (wpAny_attempt (wpAny_holding ?_))))
 unfold callGetattribute
 rewrite [show (expr && onTheHeap (Value.builtin "BaseException.__getattribute__"))=false from by induction expr<;>rfl];refine rE (if_neg (dE rfl)) ?_
 unfold boundAndCalled
 refine rE (sl.bind _) ?_
 refine wpAny_bind (wpAny_pure ?_)
 show wpAny _ _ (call (.builtin "BaseException.__getattribute__") [.ref x,.str "thing" s.toks]) _ _ _
 refine wpAny_call (codeAny_call_builtin sl.plain F.entry_bexc_ga ?_)
 refine @check_slot (model prog w) _ _ { s with toks:=s.toks + 1 } "BaseException.__getattribute__" "BaseException" "__getattribute__" (.ref x) [.str "thing" s.toks] [] _ (by decide +kernel) (by decide +kernel) (I.type.andThen (looks_mroIn X k5)) (F.args_bexc_ga _ _) ?_
 unfold Builtin.«object.__getattribute__»
 refine wpAny_bind (wpAny_pure (wpAny_bind (wpAny_pure (wpAny_bind (Looks.here (s:={ s with toks:=s.toks + 1 }) I.type (wpAny_bind (Looks.here (s:={ s with toks:=s.toks + 1 }) (looks_find X I hf) ?_)))))))
 refine wpAny_pure ?_
 show wpAny _ _ (handedOut v) _ _ _
 refine rE (handedOut_of hh) ?_;exact wpAny_pure h
end
end
section
variable {prog:Program} {w:World} {B:Heap} {K:Frag} {Γ:Cx} {A A':Around} {F:FQ} {ρ:Loc} {σ:AH} {s:Shared} {E:Value→Shared→Prop}
theorem law_body:∃p1 p2 p3 p4 p5 p6 p7 p8 p9 p10 p11 k p12 p13,fbody (fst 77)=[
 .Try [.Expr (.Call (.Name "deed" p1) [] [] p2) p3] [.ExceptHandler (some (.Name "Raised" p4)) (some "fault")
  [.Return (some (.Attribute (.Attribute (.Attribute (.Name "fault" p5) "thing" p6) "owner" p7) "name" p8)) p9] p10] [] [] p11,
 .Return (some (.Constant (.str "") k p12)) p13]:=⟨_,_,_,_,_,_,_,_,_,_,_,_,_,_,rfl⟩
theorem At.locals {h':Heap} {t:Tok} {m:Str→Option Value} (fit:Fit prog w B Γ A F) (H:At prog w B F ρ σ s) (hn:h'.Ns F.env.locals m) (sb:Heap.SameBut F.env.locals s.heap h') {ρ':Loc} (hl:∀x a,F.env.kindOf x=some .local→ρ'.get x=some a→∃v,m x=some v∧a.Is v)
 (hc:∀x a,(F.env.kindOf x=some .cell∨F.env.kindOf x=some .free)→ρ'.get x=some a→ρ.get x=some a):At prog w B F ρ' σ { s with heap:=h',toks:=t }:=by
 refine xEA H.fs.loc.ns λm₀ hn₀ _=>?_
 refine xEEEAA hn₀ λoL es ep hoL hdL _=>?_
 have hn1:=hn
 refine xEEEAA hn1 λoL' es' ep' hoL' hdL' _=>?_
 refine H.turn fit hoL (λvs q=>by rw[hdL] at q;exact nC Data.ctorIdx q rfl) hoL' (λvs q=>by rw[hdL'] at q;exact nC Data.ctorIdx q rfl) sb fit.newL H.fs.sepL fit.mineL ⟨⟨m,hn,hl⟩,λy c e=>?_,H.fs.loc.has,H.fs.loc.apart⟩ ⟨rfl,rfl,rfl⟩
 refine xEA (H.fs.loc.cell y c e) λu hcl kc=>?_
 have hcL:c≠F.env.locals:=λq=>by
  refine xEA hcl λoc hoc hdc=>?_
  rw[q,hoL] at hoc;(have hoc:=sJ hoc;subst hoc);rw[hdL] at hdc;exact nC Data.ctorIdx hdc rfl
 exact iEA u (hcl.sameBut sb hcL) (λb hb eb=>kc b hb (hc y b hb eb))
theorem law_path (Gd:Gd prog w K B) (kG:kExcGet K=true) (fit:Fit prog w B Γ A F) (nF:Γ.nm.lookup (Str.ofString "fault")=some .local) {ea d:Addr} {oe:Obj} {vs:Array Value} {kvs:List (Str×Value)} {u:Value} {v:AV} {Q:Post} {p5 p6 p7 p8:Pos} {S:Value→Shared→Prop}
 (H:At prog w B F [("fault",some (.ref ea))] σ s) (y2:s.heap.get? ea=some oe) (y3:oe.cls=.ref 654) (y5:oe.data=.fields vs) (y4:oe.dict=some d) (D:s.heap.DictOf (strKind prog w) d kvs) (y7:valueAt kvs "thing"=some u) (y8:v.Is u)
 (hx:qOwner Q v σ) (q:∀a u t,a.Is u→Q a σ→S u { s with toks:=t }) :
 wpAny (model prog w) A' (eval (.Attribute (.Attribute (.Attribute (.Name "fault" p5) "thing" p6) "owner" p7) "name" p8) F.env) S E s:=by
 induction v with
 |ref a0=>
  subst y8
  obtain ⟨C0,d0,fs0,e0,ok0,c0,ec0,hx⟩:=hx
  refine Attribute_any_ (Attribute_any_ (Attribute_any_ (wpAny_Name (ld_var fit H (.inl nF) (a:=.ref ea) (by rfl) (dE rfl) λz hz=>?_) (dE rfl))))
  subst hz
  refine exc_get (X_in Gd H) kG y2 y3 y5 y4 D y7 rfl ?_
  refine get_attr Gd (H.tok _) e0 ok0 ec0 λv t hv=>?_
  refine attrA_e hx hv λa1 C1 d1 fs1 c1 e1 ok1 ec1 hx=>?_
  exact get_attr Gd (H.tok _) e1 ok1 ec1 λv t' hv=>q _ _ _ hv hx
 |_=>exact hx.elim
theorem law_catch (Gd:Gd prog w K B) (ek:ExcK K) (kG:kExcGet K=true) (fit:Fit prog w B Γ A F) (nR:Γ.nm.lookup (Str.ofString "Raised")=some .globalImplicit) (nF:Γ.nm.lookup (Str.ofString "fault")=some .local) {l:List Env} (hl:F.l=F.env :: l) (hL:F.env.frame=some F.env.locals)
 {σ₂:AH} {s₂:Shared} {v:AV} {e:Value} {Q:Post} {p4 p5 p6 p7 p8 p9 p10:Pos} {Rt:Flow→Shared→Prop} (H₂:At prog w B F ρ σ₂ s₂) (EI:ErrIn prog w B F.l none' σ₂ s₂ v σ e s) (hx:qOwner Q v σ)
 (hRt:∀a u s',a.Is u→At prog w B F [] σ s'→Q a σ→Rt (.ret u) s') :
 wpAny (model prog w) A (handleBy e F.env [.ExceptHandler (some (.Name "Raised" p4)) (some "fault")
  [.Return (some (.Attribute (.Attribute (.Attribute (.Name "fault" p5) "thing" p6) "owner" p7) "name" p8)) p9] p10]) Rt E s:=by
 obtain ⟨nm,q,N,bs,hdct,sn,sub,ab,col,dd,k0,k1,k2,k3,k5,hC⟩:=ek.cls
 have H:=H₂.of rfl EI.ws EI.ev
 (refine xEEAA EI.fly.cls λea oe=>?_;rintro rfl y2 y3)
 have hC':=X_in Gd H _ _ hC
 refine wpAny_handleBy_cons (codeAny_handlers_test (wpAny_Name (ld_glob Gd fit H nR (a:=654) rfl ?_) (dE rfl))) (by intro q;cases q)
 obtain ⟨hp,g,dr,tk,os⟩:=s
 refine wpAny_excMatches_sub_self hC' y2 y3 (by decide +kernel) ?_
 refine codeAny_handlers_suite_as (flight_at EI λs₁ E₁=>?_)
 have H₁:=H₂.of rfl E₁.ws E₁.ev
 have kF:F.env.kindOf "fault"=some .local:=fit.loc _ nF
 have khp:(F.env.scope.kind == .class || (F.env.scope.kind == .module && F.env.locals != F.env.globals))=false:=by refine rE fit.kind ?_;rfl
 refine xEA H₁.fs.loc.ns λm hn hm=>?_
 refine wpAny_storeName_local kF hn (λh' hn' sb=>?_) khp
 clear y2 y3
 obtain ⟨ea',d,oe,vs,kvs,u,z1,y2,y3,y4,y5,y6,y7,y8,y9,y10,y11,y12,y13,y14⟩:=E₁.fly
 cases z1
 have H₃:At prog w B F [("fault",some (.ref ea))] σ { s₁ with heap:=h',toks:=s₁.toks + 1 }:=by
  have one:∀x a,Loc.get [("fault",some (AV.ref ea))] x=some a→x=Str.ofString "fault"∧a=.ref ea:=λx a h=>by
   simp only[Loc.get,List.lookup_cons,List.lookup_nil] at h
   split at h
   ·rename_i q;(have h:=sJ h;subst h);exact ⟨eq_of_beq q,rfl⟩
   ·exact nn h
  refine H₁.locals fit hn' sb (λx a _ h=>?_) λx a hk h=>?_
  ·obtain ⟨rfl,rfl⟩:=one x a h
   exact iEA _ (if_pos rfl) rfl
  ·obtain ⟨rfl,rfl⟩:=one x a h
   exact absurd hk (by refine rE kF ?_;simp)
 have hne:ea≠F.env.locals:=λz=>by
  refine xEEEAA hn λo es ep ho hd _=>?_
  rw[←z,y2] at ho;(have ho:=sJ ho;subst ho);rw[y5] at hd;exact nC Data.ctorIdx hd rfl
 have hdne:d≠F.env.locals:=λz=>y13 (by
  refine rE hl ?_;simp only[frs,List.filterMap_cons,hL];refine rE z ?_;exact .head _)
 have y2':h'.get? ea=some oe:=(sb.2 ea hne).trans y2
 have D':h'.DictOf (strKind prog w) d kvs:=y6.sameBut sb hdne
 refine wpAny_execs_cons (wpAny_Return_some (law_path Gd kG fit nF H₃ y2' y3 y5 y4 D' y7 y8 hx λa v t hv hx=>?_))
 refine xEA ((H₃.tok t).fs.loc.ns) λm' hn'' hm'=>?_
 refine wpAny_nameGoes kF hn'' khp λh'' m'' hn3 sb'=>?_
 exact hRt _ _ _ hv ((H₃.tok t).locals fit hn3 sb' (λx a _ h=>nomatch h) λx a _ h=>nomatch h) hx
end
section
variable {prog:Program} {w:World} {B:Heap} {K:Frag}
theorem lam_names:(fscope (fst 77)).names.lookup (Str.ofString "deed")=some .local∧(fscope (fst 77)).names.lookup (Str.ofString "Raised")=some .globalImplicit∧(fscope (fst 77)).names.lookup (Str.ofString "fault")=some .local:=⟨rfl,rfl,rfl⟩
theorem law_snd (Gd:Gd prog w K B) (ek:ExcK K) (kG:kExcGet K=true) (lk:LawK K B) (R:Ops) (snd:Snd prog w B R):LawSnd prog w B R:=by
 intro Γ A F ρ σ s p pos lpos params body sc Q hi hlam h fit H
 unfold lamOk at hlam
 simp only[Bool.and_eq_true,beq_iff_eq,Bool.not_eq_true',decide_eq_true_eq] at hlam
 obtain ⟨⟨⟨⟨⟨⟨l1,l2⟩,l3⟩,l4⟩,l5⟩,l6⟩,l7⟩:=hlam
 obtain rfl:=noArgs_e l1
 obtain ⟨hd,P,q,htab,hσ,hb⟩:=h
 have l5':∀x∈sc.names,x.2=.free∨x.2=.globalImplicit:=λx hx=>by
  have:=List.all_eq_true.mp l5 x hx
  simpa using this
 have freeCell:∀x,(x,NameKind.free)∈sc.names→Γ.nm.lookup x=some .cell:=λx hx=>by
  have:=List.all_eq_true.mp l6 (x,.free) hx
  simpa using this
 have okL:LamSc sc:=⟨l2,⟨l4,l3⟩,l5'⟩
 have hcl:=closure_eq (scope:=sc) (env:=F.env) λx hx e=>H.fs.loc.has x.1 (.inl (fit.cel _ (freeCell x.1 (e▸hx))))
 refine wpAny_Call_NameR (wpAny_Name (ld_ns Gd fit H hi lk.glob ?_) (dE rfl))
 refine args_of (K:=K) (f:=.ref 959) (first:=[]) (P:=λvs s'=>∃f,vs=[.ref f]∧At prog w B F ρ σ s'∧LamAt s'.heap f q body sc (clo F.env sc.names [])) rfl
  (spliced_cons (lam_make Gd lk fit H htab hσ hcl λf s' H' L _=>spliced_nil ⟨f,rfl,H',L⟩)) (λh X=>keeps_K lk.keep h X) ?_
 (rintro vs s₁ zz;refine xEAA zz λf=>?_;rintro rfl H₁ L)
 refine ⟨X_in Gd H₁,wpAny_call ?_⟩
 have room':Room A (Γ.d - 1 + 1):=by refine rE (show Γ.d - 1 + 1=Γ.d by lia) ?_;exact fit.room
 have hi1:AllIs [.ref f] [.ref f]:=.cons (show AV.Is (.ref f) _ from rfl) .nil
 refine enterFn Gd (own':=none') (as:=[.ref f]) (X:=λ_ _=>False) lk.fn room' fit.frames fit.handled H₁.fs.ws hi1 (λ_ z=>z.elim) ?_
 intro F₁ s₂ e1 e2 e3 _ kp fn' evBack wsBack hL fit₁ H₂
 refine xEEEEEEEEEEEEEE law_body λp1 p2 p3 p4 p5 p6 p7 p8 p9 p10 p11 k p12 p13 eb=>?_
 refine xAA lam_names λn1 n2 n3=>?_
 refine rE eb ?_
 have fin:∀{ρ' σ' s' a u},AV.Is a u→At prog w B F₁ ρ' σ' s'→Q a σ'→REx prog w B F ρ Q u s':=λha H' q=>⟨_,_,ha,H₁.of rfl (wsBack H'.fs.ws) (evBack (e2▸e3▸H'.ev)),q⟩
 have L₂:LamAt s₂.heap f q body sc (clo F.env sc.names []):=L.keeps λb o e _=>kp b o e
 refine xEEEA (id L₂.at_) λpm cdv ctv hf _=>?_
 have int:interactive F₁.env=false:=by unfold interactive;refine rE fit₁.kind ?_;rfl
 have room₁:Room (A.deeper F₁.env) (Γ.d - 3 + 1):=⟨by have:=fit₁.room.1;show _≤980;have:(⟨(fscope (fst 77)).names,Γ.d - 1,CallOK prog w B,λ_ _=>False,none⟩:Cx).d=Γ.d - 1:=rfl;lia,by have:=fit₁.room.2;show _≤9600;have:(⟨(fscope (fst 77)).names,Γ.d - 1,CallOK prog w B,λ_ _=>False,none⟩:Cx).d=Γ.d - 1:=rfl;lia⟩
 refine wpAny_execs_cons (wpAny_Try_except (wpAny_execs_cons (wpAny_Expr_any (wpAny_Call_NameR (wpAny_Name (ld_var fit₁ H₂ (.inl n1) (a:=.ref f) rfl (dE rfl) λv hv=>?_) (dE rfl))) int rfl)))
 subst hv
 refine callWith_of (P:=λh=>LamAt h f q body sc (clo F.env sc.names [])) rfl (λh L=>⟨.frame,.inl rfl,?_⟩) (evalArgs_empty ⟨L₂,wpAny_call (codeAny_mono (lam_call Gd snd (d:=Γ.d - 3) (call:=Γ.call) fit.call (l:=F₁.l) okL L₂ room₁ fit₁.frames fit₁.handled H₂.fs.ws ?_ ?_ ?_ hb) λr s₃ hr=>?_)⟩)
 ·refine xEEEA L.at_ λpm cdv ctv e _=>?_
  exact (Looks.ld (part:=none) e).andThen .now
 ·intro x c hc
  obtain ⟨m1,m2⟩:=clo_lookup.mp hc
  (refine xEA (H₁.fs.loc.cell x c m2) λv=>?_;(rintro zz;refine xEA zz λo ho hd kk=>?_))
  exact ⟨fit.newC x c m2,v,⟨o,kp c o ho,hd⟩,λa ea=>kk a (.inl (fit.cel _ (freeCell x m1))) (compLoc_get ea).2⟩
 ·intro x hx
  obtain ⟨c,ec⟩:=Option.isSome_iff_exists.mp (H₁.fs.loc.has x (.inl (fit.cel _ (freeCell x hx))))
  refine rE (clo_lookup.mpr ⟨hx,ec⟩) ?_;rfl
 ·exact clo_apart H₁.fs.loc.apart l7 .nil λp hp=>nomatch hp
 ·induction r with
  |ok fl=>
   induction fl with
   |ret v=>
    obtain ⟨a,σ',_,ws,ev,q'⟩:=hr
    have H₃:=H₂.of rfl ws ev
    refine wpAny_execs_nil (wpAny_execs_nil ?_)
    exact wpAny_execs_cons (wpAny_Return_some (wpAny_Constant_str (fin (a:=.str (Str.ofString "")) ⟨_,rfl⟩ (H₃.tok _) q')))
   |_=>exact hr.elim
  |error e=>
   obtain ⟨v,σ',fl,ws,ev,x⟩:=hr
   have EI:ErrIn prog w B F₁.l none' σ s₂ v σ' e s₃:=⟨fl,ws,ev⟩
   rw[e1] at EI
   have hfr₁:(A.deeper F₁.env).frames=some (F₁.env :: F.l):=by show A.frames.map _=_;refine rE fit.frames ?_;rfl
   refine note_at hfr₁ hL EI λs₄ E₄ _=>flight_at E₄ λs₅ E₅=>?_
   rw[←e1] at E₅
   refine law_catch Gd ek kG fit₁ n2 n3 e1 hL H₂ E₅ x λa u s' hu H' q'=>?_
   exact fin hu H' q'
end
section
variable {prog:Program} {w:World} {B:Heap} {K:Frag} {A:Around} {F:FQ} {ρ:Loc} {σ:AH} {s:Shared} {E:Value→Shared→Prop}
theorem dk_keys:typeLookup (.type "list") "keys"=pure none:=by rw[typeLookup_type,builtinLookup_eq_fast];kernel_rfl
theorem dk_name:(["__module__","__name__","__qualname__","__doc__","__annotations__"]:List Str).contains "keys"=false:=by decide +kernel
set_option maxHeartbeats 1000000 in
theorem miss_keys {a:Addr} {xs:Array Value} {k:Nat} {Q:Option Value→Shared→Prop} (hx:s.heap.get? a=some { cls:=.type "list",dict:=none,data:=.seq xs k }) (hA:A.handled=none)
 (h:∀h' tk,(∀b o,s.heap.get? b=some o→h'.get? b=some o)→Q none { s with heap:=h',toks:=tk }):wpAny (model prog w) A (getAttr? (.ref a) "keys") Q E s:=by
 obtain ⟨hp,g,d,tk,os⟩:=s
 have hT:∀tk',(⟨hp,g,d,tk',os⟩:Shared).TypeIs (.ref a) "list":=λ_=>⟨_,hx,rfl⟩
 have f1:=sub_AttributeError
 have f3:=F.slot_list_getattribute.lookup
 have f4:=F.slot_list_getattribute.bind (.ref a)
 have f5:=am_list_getattr_none
 unfold getAttr? getAttrBy? getAttrBy
 repeat (any_goals (first|assumption|exact hT _|((with_reducible show wpAny _ _ (call (Value.builtin "list.__getattribute__") _ _) _ _ _);refine call_meets F.slot_list_getattribute (hT _) am_entry_list_getattribute (F.args_list_getattribute_2 _ _) (meets_getattribute_miss_list a xs k _ "keys" _ dk_keys dk_name (by size_fits)) ⟨hx,hA,λh' tk' e hx'=>?_⟩)|wp_step))
 refine xEE hx'.there λt' u' he=>?_
 show wpAny _ _ (getattributeRaised _ _ _ _ _ _ _) _ _ _
 unfold getattributeRaised
 repeat (any_goals (first|assumption|wp_step))
 exact h _ _ hx'.keeps
theorem dk_entry:entryFor table "dict.update.loop"=some Builtin.«dict.update.loop»:=entryFor_of_tree (by kernel_rfl)
theorem pair_items {t:Addr} {vs:Array Value} {Q:List Value→Shared→Prop} (h:IsT s.heap t vs 0) (q:Q vs.toList s):wpAny (model prog w) A (Builtin.Dict.pairItems (.ref t)) Q E s:=by
 have hT:s.TypeIs (.ref t) "tuple":=⟨_,h,rfl⟩
 unfold Builtin.Dict.pairItems
 refine wpAny_bind (wpAny_typeOf hT ?_)
 refine rE (if_pos (dE rfl)) ?_
 refine wpAny_bind ?_
 obtain ⟨hp,g,d,tk,os⟩:=s
 repeat (any_goals (first|assumption|wp_step))
theorem dictOf_ncI {h:Heap} {d:Addr} {kvs:List (Int×Value)} (D:h.DictOf (intKind prog w) d kvs):∃o,h.get? d=some o∧¬IsCode o:=by
 refine xEEEAAA D λo es ep ho _ hd _=>?_
 exact iEA o ho (λzz=>xEEEA zz λvs q x e _=>by rw[hd] at e;exact nC Data.ctorIdx e rfl)
theorem dk_loop (Gd:Gd prog w K B) (hh:A.handled=none) {a D it:Addr} {xs:List AV} {kvs:List (Int×AV)} {R:Result→Shared→Prop} (st:rd σ a=some (.list xs)) (hne:D≠it) (fD:∀s':Shared,(∃o,s'.heap.get? D=some o∧¬IsCode o)→Free B F σ s' D) (al:Alien B F σ it)
 (hk:∀(i:Nat) (y:AV),xs[i]?=some y→∃(k:Int) (x:AV) (t:Addr),kvs[i]?=some (k,x)∧y=AV.ref t∧rd σ t=some (.tup [.int k,x])) (hlen:xs.length=kvs.length) (nd:(kvs.map (·.1)).Nodup) (hz:kvs.length≤900)
 (hR:∀s' vs,At prog w B F ρ σ s'→s'.heap.DictOf (intKind prog w) D vs→KvIs kvs vs→R (.ok (.ret .none)) s') :
 ∀n i s vs,n + i=xs.length→At prog w B F ρ σ s→ItAt s.heap it (.lst a xs) i→s.heap.DictOf (intKind prog w) D vs→KvIs (kvs.take i) vs→
  codeAny (model prog w) A (.builtin "dict.update.loop" ⟨[.ref D,.ref it,rawInt i,.none],[]⟩) R s
 |0,i,s,vs,hi,H,it0,hD,kv=>by
  refine codeAny_builtin dk_entry ?_
  have e:i=xs.length:=by lia
  subst e
  refine wpAny_bind (next_endR (A:=A.under _) Gd hh H it0 st λh' ex=>?_)
  refine wpAny_bind (wpAny_pure (wpAny_pure ?_))
  have H':=H.but (t:=s.toks) al (itAt_rec it0) ex
  refine hR _ vs H' ?_ ?_
  ·refine xEEEA hD λo es ep ho r=>?_
   exact ⟨o,es,ep,ex D o hne ho,r⟩
  ·rwa [List.take_of_length_le (by lia)] at kv
 |n + 1,i,s,vs,hi,H,it0,hD,kv=>by
  refine codeAny_builtin dk_entry ?_
  obtain ⟨y,ey⟩:∃y,xs[i]?=some y:=⟨_,List.getElem?_eq_getElem (by lia)⟩
  (refine xEEEAA (hk i y ey) λk x t ek=>?_;rintro rfl et)
  refine wpAny_bind (next_itemR (A:=A.under _) Gd H it0 st ey λv h' tk iv ex it1=>?_)
  subst iv
  have H':=H.but (t:=tk) al (itAt_rec it0) ex
  have hD':h'.DictOf (intKind prog w) D vs:=by
   refine xEEEA hD λo es ep ho r=>?_
   exact ⟨o,es,ep,ex D o hne ho,r⟩
  refine xEA (pt_rd Gd H' et) λws ht hws=>?_
  obtain ⟨u1,u,rfl,hu1,hu⟩:∃u1 u,ws=[u1,u]∧(AV.int k).Is u1∧x.Is u:=by
   cases hws with
   |cons h1 h2=>cases h2 with
    |cons h2 h3=>cases h3;exact iEEAA _ _ rfl h1 h2
  obtain ⟨tt,rfl⟩:=hu1
  refine wpAny_bind (wpAny_holding (wpAny_bind (wpAny_tryCatch (pair_items ht ?_))))
  have lv:=kv.length
  rw[List.length_take] at lv
  refine wpAny_holding (wpAny_dictSet_pairs (knd:=intKind prog w) (hsz:=by rw[sizeLine_eq];lia) (k:=k) (by exact beq_self_eq_true _) hD' λh'' hd'' sb=>?_)
  have fr:=fD { s with heap:=h',toks:=tk } (dictOf_ncI hD')
  have H'':=H'.turnP (P:=(·=D)) (h':=h'') (t:=tk + 1) (λb e=>by subst e;exact fr) (λb o p e=>(sb.2 b p).trans e) (λb e _=>by
   subst e
   refine xEEEA hd'' λo es ep ho _=>?_
   rw[ho];exact Option.some_ne_none _)
  refine wpAny_pure ⟨Code.quiet_builtin _ (by decide +kernel),?_⟩
  refine dk_loop Gd hh st hne fD al hk hlen nd hz hR n (i + 1) _ _ (by lia) H'' (itAt_keep it1 λo e=>(sb.2 it (Ne.symm hne)).trans e) hd'' ?_
  have put:=kv.put k hu
  have e2:kput (kvs.take i) k x=kvs.take (i + 1):=by
   rw[List.take_add_one,ek]
   unfold kput
   rw[if_neg]
   ·rfl
   ·intro z
    refine xEA (List.any_eq_true.mp z) λp hp hpk=>?_
    have hpk:=of_decide_eq_true hpk
    have lt:i < kvs.length:=by lia
    have dd:kvs=kvs.take i ++ (k,x) :: kvs.drop (i + 1):=by
     have:kvs[i]=(k,x):=by rw[List.getElem?_eq_getElem lt] at ek;exact Option.some.inj ek
     rw[←this,←List.drop_eq_getElem_cons lt,List.take_append_drop]
    rw[dd,List.map_append,List.map_cons,List.nodup_append] at nd
    exact nd.2.2 p.1 (List.mem_map.mpr ⟨p,hp,rfl⟩) k (.head _) hpk
  rwa [e2] at put
theorem dict_snd (Gd:Gd prog w K B):DictSnd prog w B:=by
 intro A F ρ σ s E a Q h H hh hu
 obtain ⟨xs,st,kvs,hk,hlen,nd,hz,hq⟩:=h
 refine callType_codes (Q₁:=λobj s₁=>obj=.ref s.heap.objs.size∧s₁={ s with heap:=s.heap.push { cls:=.type "dict",data:=.dict #[] } }) PySem.F.kt_called_dict (PySem.F.kt_typeCall_dict_1 _) PySem.F.entry_dict_init (kt_code_dict_new _ ⟨rfl,rfl⟩) ?_
 rintro obj s₁ ⟨rfl,rfl⟩
 have hnew:(s.heap.push { cls:=.type "dict",data:=.dict #[] }).DictOf (intKind prog w) s.heap.objs.size []:=Heap.DictOf.new s.heap
 have H₁:=H.pushF (ob:={ cls:=.type "dict",data:=.dict #[] }) s.toks
 have fD:∀s':Shared,(∃o,s'.heap.get? s.heap.objs.size=some o∧¬IsCode o)→Free B F σ s' s.heap.objs.size:=λs' zz=>xEA zz λo e n=>(Free.ofNew H get_none_size).at e n
 refine xEEA (pl_rd Gd H₁ st) λvs n hl hx=>?_
 have hT:({ s with heap:=s.heap.push { cls:=.type "dict",data:=.dict #[] } }:Shared).TypeIs (.ref a) "list":=⟨_,hl,rfl⟩
 refine iAA hnew.typeIs (PySem.F.args_dict_init_2 _ _) ?_
 unfold Builtin.«dict.__init__»
 refine wpAny_bind ?_
 unfold Builtin.Dict.selfAndRest
 refine wpAny_bind (wpAny_notOrdered_dict hnew.typeIs ?_)
 refine wpAny_pure ?_
 show wpAny _ _ (Builtin.Dict.updateFrom "dict.__init__" s.heap.objs.size (.ref a) [] .none) _ _ _
 unfold Builtin.Dict.updateFrom
 refine wpAny_bind (wpAny_typeOf hT ?_)
 refine rE (if_pos (dE rfl)) ?_
 refine wpAny_bind (miss_keys hl hh λh' tk k=>?_)
 have H₂:=H₁.grow (t:=tk) k
 refine rE (if_pos (by rfl)) ?_
 refine xEEA (pl_rd Gd H₂ st) λvs' n' hl' hx'=>?_
 refine wpAny_bind (wpAny_rule (wpAny_bind (wpAny_pyIter_list (IsL.isList hl') ?_)))
 have D2:h'.DictOf (intKind prog w) s.heap.objs.size []:=dictOf_keeps hnew λob e=>k _ _ e
 have hne:s.heap.objs.size≠h'.objs.size:=by
  refine xEEEA D2 λo es ep ho _=>?_
  exact Nat.ne_of_lt (Heap.lt_size ho)
 have newD:F.s₀.heap.get? s.heap.objs.size=none:=H.ev.th _ get_none_size
 refine wpAny_pure ⟨Code.quiet_builtin _ (by decide +kernel),?_⟩
 refine dk_loop (A:=A.in1) (ρ:=ρ) Gd hh st hne fD (alien_new H₂ get_none_size) hk hlen nd hz ?_ xs.length 0 _ [] rfl ?_ ?_ ?_ .nil
 rotate_left
 ·exact H₂.pushF tk
 ·exact ⟨_,Heap.get?_push_size _ rfl,rfl,rfl⟩
 ·exact D2.push _
 intro s' vs H' D kv
 have f:=fD s' (dictOf_ncI D)
 refine ⟨rfl,.ref s.heap.objs.size,_,rfl,H'.adopt (o:=.idict kvs) (λ_ _ _ q=>by exact nC AO.ctorIdx q rfl) ⟨vs,D,kv⟩ newD f.new H.fs.ws.big2 f.nm f.fr f.nl (λob e=>?_),hq _ _ ⟨?_,H.fs.ws.soNone f.new⟩ rfl⟩
 ·refine xEEEAAA D λo es ep ho _ hd _=>?_
  rw[ho] at e;(have e:=sJ e;subst e)
  exact ⟨(λv q=>by rw[hd] at q;exact nC Data.ctorIdx q rfl),(λvs q t e=>by rw[hd] at e;exact nC Data.ctorIdx e rfl),(λf q=>by rw[hd] at q;exact nC Data.ctorIdx q rfl)⟩
 ·induction z:σ s.heap.objs.size with
  |none=>rfl
  |some o=>exact absurd (.inl ⟨o,z⟩) f.nm
end
noncomputable def Clean (σ:AH):Prop:=∀a,(so a).isSome=true→σ a=none
structure Kit (prog:Program) (w:World) (K:Frag) (B:Heap):Prop where
 gd:Gd prog w K B
 snd:∀n,Snd prog w B (awp n)
 fns:Fns K
 ini:kIni K=true
section
variable {prog:Program} {w:World} {K:Frag} {B:Heap} {σ τ:AH} {Q X:Post} {d:Nat} {f:Addr} {as:List AV}
theorem clean_of {l:List Env} {s:Shared} (W:WS prog w B l σ s):Clean σ:=λa e=>by
 induction q:σ a with
 |none=>rfl
 |some o=>exact absurd (W.rep.new a (.inl ⟨o,q⟩)).1 (W.big.so a e)
theorem CallOK.clean (h:Clean σ→CallOK prog w B d f as σ Q X):CallOK prog w B d f as σ Q X:=.of λA l s args r fr hh W hi=>(h (clean_of W)).ok A l s args r fr hh W hi
theorem CallOK.post (h:CallOK prog w B d f as σ (λv τ=>Clean τ→Q v τ) X):CallOK prog w B d f as σ Q X:=.of λA l s args r fr hh W hi=>
 codeAny_mono (h.ok A l s args r fr hh W hi) λz s' hz=>by
  rcases z with e|(v|_|_|_)
  ·exact hz
  ·exact (hz:False).elim
  ·exact (hz:False).elim
  ·exact (hz:False).elim
  ·obtain ⟨a,τ,ha,W',ev,q⟩:=hz
   exact ⟨a,τ,ha,W',ev,q (clean_of W')⟩
theorem rd_of {a:Addr} {o:AO} (h:σ a=some o):rd σ a=some o.opened:=by unfold rd;exact rE h rfl
theorem rd_so {a:Addr} (h:Clean σ) (e:(so a).isSome=true):rd σ a=so a:=by unfold rd;exact rE (h a e) rfl
theorem up_up {a:Addr} {o o':AO}:up (up σ a o) a o'=up σ a o':=funext λb=>by unfold up;split<;>rfl
theorem up_comm {a b:Addr} {o o':AO} (h:a≠b):up (up σ a o) b o'=up (up σ b o') a o:=funext λc=>by
 unfold up
 by_cases q:c=b
 ·(refine rE (if_pos q) ?_;refine rE (if_neg (λz=>h (z.symm.trans q))) ?_;exact rE (if_pos q) rfl)
 ·(refine rE (if_neg q) ?_;exact rE (if_neg q) rfl)
noncomputable def Kx (S:Addr→Prop) (σ τ:AH):Prop:=∀b o,σ b=some o→¬S b→τ b=some o
theorem Kx.refl (S:Addr→Prop) (σ:AH):Kx S σ σ:=λ_ _ e _=>e
theorem Kx.trans {S:Addr→Prop} {ρ σ τ:AH} (x:Kx S ρ σ) (y:Kx S σ τ):Kx S ρ τ:=λb o e n=>y b o (x b o e n) n
theorem Kx.mono {S T:Addr→Prop} (x:Kx S σ τ) (h:∀b,S b→T b):Kx T σ τ:=λb o e n=>x b o e λq=>n (h b q)
theorem Kx.up {S:Addr→Prop} {ρ:AH} {a:Addr} {o:AO} (x:Kx S ρ σ) (h:S a∨σ a=none):Kx S ρ (Internal.up σ a o):=λb o' e n=>by
 have y:=x b o' e n
 refine rE (up_ne (λz=>by rcases h with h|h;exact n (z▸h);rw[z,h] at y;exact nn y)) ?_;exact y
noncomputable abbrev NoS:Addr→Prop:=λ_=>False
theorem Fresh.ne {a b:Addr} {o:AO} (f:Fresh σ a) (h:σ b=some o):a≠b:=λz=>by rw[←z,f.no] at h;exact nn h
theorem at1 {n:Str} {a C d:Addr} {fs:List (Str×AV)} {x:AV} {Q:Post} (h:σ a=some (.inst C d fs)) (ok:fieldOk C n=true) (e:kget fs n=some x) (q:Q x σ):AttrI σ a n Q:=⟨C,d,fs,h,ok,x,e,q⟩
theorem st1 {n:Str} {a C d:Addr} {fs fs':List (Str×AV)} {v:AV} {P:AH→Prop} (h:σ a=some (.inst C d fs)) (ok:fieldOk C n=true) (z:fs.length≤900) (e:kput fs n v=fs') (q:P (up σ a (.inst C d fs'))):SetAI σ a n v P:=⟨C,d,fs,h,ok,z,e▸q⟩
theorem st1u {n:Str} {a C d:Addr} {fs:List (Str×AV)} {v:AV} {P:AH→Prop} (ok:fieldOk C n=true) (z:fs.length≤900) (q:P (up σ a (.inst C d (kput fs n v)))):SetAI (up σ a (.inst C d fs)) a n v P:=⟨C,d,fs,up_self ..,ok,z,by refine rE up_up ?_;exact q⟩
theorem kput_new {fs:List (Str×AV)} {n:Str} {v:AV} (e:(fs.any λkv=>decide (kv.1=n))=false):kput fs n v=fs ++ [(n,v)]:=by unfold kput;refine rE e ?_;rfl
theorem st1n {n:Str} {a C d:Addr} {fs:List (Str×AV)} {v:AV} {P:AH→Prop} (ok:fieldOk C n=true) (z:fs.length≤900) (e:(fs.any λkv=>decide (kv.1=n))=false) (q:P (up σ a (.inst C d (fs ++ [(n,v)])))):SetAI (up σ a (.inst C d fs)) a n v P:=st1u ok z ((kput_new e).symm▸q)
theorem eq1 {o:Option Bool} {r:Bool} {Q:Bool→Prop} (e:o=some r) (q:Q r):OkB o Q:=⟨r,e,q⟩
theorem isi0 {a D d:Addr} {fs:List (Str×AV)} {P:Prop} (h:σ a=some (.inst D d fs)) (e:(isa D 0).isSome=true) (q:P):Isi0 σ a P:=⟨D,d,fs,h,e,q⟩
theorem isi1 {a D d c:Addr} {fs:List (Str×AV)} {r:Bool} {P:Bool→Prop} (h:σ a=some (.inst D d fs)) (e:isa D c=some r) (q:P r):IsiI σ a c P:=⟨D,d,fs,h,r,e,q⟩
theorem meth1 {R:Ops} {args:List Expr} {Γ:Cx} {ρ:Loc} {n:Str} {a C d g:Addr} {fs:List (Str×AV)} (h:σ a=some (.inst C d fs)) (ok:methodOf C n=some g) (e:kget fs n=none) (q:evs R Γ ρ args σ (qMeth Γ g a Q)):MethI R args n Γ ρ σ a Q:=⟨C,d,fs,h,g,ok,e,q⟩
theorem Fresh.down {a b:Addr} {o:AO} (f:Fresh (Internal.up σ a o) b):Fresh σ b∧b≠a:=by
 have ne:b≠a:=λz=>by have:=f.no;rw[z,up_self] at this;exact nS this
 exact ⟨⟨by have:=f.no;rwa [up_ne ne] at this,f.so⟩,ne⟩
theorem under {x a:Addr} {ox o:AO} (f:Fresh (up σ x ox) a) (e:τ=up (up σ x ox) a o):Fresh σ a∧a≠x∧τ=up (up σ a o) x ox:=by
 have ne:a≠x:=λz=>by have:=f.no;rw[z,up_self] at this;exact nS this
 exact iAA ⟨by have:=f.no;rwa [up_ne ne] at this,f.so⟩ ne (e.trans (up_comm ne.symm))
inductive FMap {α:Type} (f:α→AV) (xs:List α) (R:Option AV→Option AV→Loc) (C:List α→List α→AH→Prop) (rest:List AV) (ρ:Loc) (σ:AH):Prop
 |mk (ds ms:List α) (o p:Option AV) (e:rest=ms.map f) (h:xs=ds ++ ms) (eρ:ρ=R o p) (c:C ds ms σ):FMap f xs R C rest ρ σ
theorem FMap.next {α:Type} {f:α→AV} {xs ds ms:List α} {b:α} {R:Option AV→Option AV→Loc} {C:List α→List α→AH→Prop} {ρ:Loc} (h:xs=ds ++ b :: ms) (o p:Option AV) (e:ρ=R o p) (c:C (ds ++ [b]) ms σ):FMap f xs R C (ms.map f) ρ σ:=⟨ds ++ [b],ms,o,p,rfl,by rw[h,List.append_assoc];rfl,e,c⟩
theorem for_map {R0:Ops} {t:Expr} {body:List Stmt} {Γ:Cx} {s:Src} {ρ:Loc} {K:SPost} {α:Type} {f:α→AV} {xs:List α} (R:Option AV→Option AV→Loc) (C:List α→List α→AH→Prop) (o p:Option AV) (hs:s.items=xs.map f) (e0:ρ=R o p) (c0:C [] xs σ)
 (h1:∀o p σ,C xs [] σ→s.stands σ∧K .next (R o p) σ) (h2:∀ds b ms o p σ,xs=ds ++ b :: ms→C ds (b :: ms) σ→s.stands σ∧asg R0 Γ t (f b) (R o p) σ (qBody R0 body Γ (qLoop (FMap f xs R C (ms.map f)) K))):ForI R0 t body Γ s ρ σ K:=by
 refine ⟨FMap f xs R C,⟨[],xs,o,p,hs,rfl,e0,c0⟩,λρ σ z=>?_,λx rest ρ σ z=>?_⟩
 ·obtain ⟨ds,ms,o,p,e,h,rfl,c⟩:=z
  induction ms using List.casesOn with
  |nil=>rw[List.append_nil] at h;subst h;exact h1 o p σ c
  |cons=>cases e
 ·obtain ⟨ds,ms,o,p,e,h,rfl,c⟩:=z
  induction ms using List.casesOn with
  |nil=>cases e
  |cons b ms=>cases e;exact h2 ds b ms o p σ h c
inductive CMap {α:Type} (f:α→AV) (xs:List α) (A:List α→List AV) (R:Option AV→Loc) (C:List α→List α→AH→Prop) (rest acc:List AV) (ρ:Loc) (σ:AH):Prop
 |mk (ds ms:List α) (o:Option AV) (e:rest=ms.map f) (h:xs=ds ++ ms) (ea:acc=A ds) (eρ:ρ=R o) (c:C ds ms σ):CMap f xs A R C rest acc ρ σ
theorem CMap.next {α:Type} {f:α→AV} {xs ds ms:List α} {b:α} {A:List α→List AV} {R:Option AV→Loc} {C:List α→List α→AH→Prop} {ρ:Loc} {acc:List AV} (h:xs=ds ++ b :: ms) (o:Option AV) (e:ρ=R o) (ea:acc=A (ds ++ [b])) (c:C (ds ++ [b]) ms σ):CMap f xs A R C (ms.map f) acc ρ σ:=⟨ds ++ [b],ms,o,rfl,by rw[h,List.append_assoc];rfl,ea,e,c⟩
theorem comp_map {R0:Ops} {t:Expr} {ifs:List Expr} {Γ:Cx} {F:Loc→AH→List AV→CPost→Prop} {s:Src} {ρ:Loc} {acc:List AV} {K:CPost} {α:Type} {f:α→AV} {xs:List α} (A:List α→List AV) (R:Option AV→Loc) (C:List α→List α→AH→Prop) (o:Option AV) (hs:s.items=xs.map f) (e0:ρ=R o) (ea:acc=A []) (c0:C [] xs σ)
 (h1:∀o σ,C xs [] σ→s.stands σ∧K (A xs) (R o) σ) (h2:∀ds b ms o σ,xs=ds ++ b :: ms→C ds (b :: ms) σ→s.stands σ∧asg R0 Γ t (f b) (R o) σ (qTests R0 ifs Γ F (A ds) (CMap f xs A R C (ms.map f)))):CompI R0 t ifs Γ F s acc ρ σ K:=by
 refine ⟨CMap f xs A R C,⟨[],xs,o,hs,rfl,ea,e0,c0⟩,λacc ρ σ z=>?_,λx rest acc ρ σ z=>?_⟩
 ·obtain ⟨ds,ms,o,e,h,rfl,rfl,c⟩:=z
  induction ms using List.casesOn with
  |nil=>rw[List.append_nil] at h;subst h;exact h1 o σ c
  |cons=>cases e
 ·obtain ⟨ds,ms,o,e,h,rfl,rfl,c⟩:=z
  induction ms using List.casesOn with
  |nil=>cases e
  |cons b ms=>cases e;exact h2 ds b ms o σ h c
end
noncomputable abbrev S (x:String):Str:=Str.ofString x
section
variable {prog:Program} {w:World} {K:Frag} {B:Heap} {σ:AH} {Q X:Post}
noncomputable def tfs (i:Int) (ow:AV) (f:Addr):List (Str×AV):=[("number",.int i),("owner",ow),("fields",.ref f),("own",.none),("frozen",.bool false),("ident",.none)]
noncomputable def thg:List Addr:=[40,62,181,228]
theorem fld_t {C:Addr} (h:C∈thg):∀n∈fldT,fieldOk C n=true:=by
 revert C
 decide +kernel
theorem c_thingI (kit:Kit prog w K B) {d:Nat} {x C dx:Addr} {i:Int} {ow:AV} (hC:C∈thg)
 (h:∀f,Fresh σ f→f≠x→Q .none (up (up σ f (.sdict [])) x (.inst C dx (tfs i ow f)))):CallOK prog w B (d + 1) 37 [.ref x,.int i,ow] (up σ x (.inst C dx [])) Q X:=by
 have F:=fld_t hC
 refine callFn (n:=20) kit.gd kit.snd (kit.fns 31) ?_
 refine st1n (F _ (.head _)) (Nat.zero_le _) (by rfl) ?_
 refine st1n (F _ (.tail _ (.head _))) (Nat.le_of_ble_eq_true rfl) (by rfl) ?_
 intro f τ hf e
 (refine xAA (under hf e) λhf ne=>?_;rintro rfl)
 refine st1n (F _ (.tail _ (.tail _ (.head _)))) (Nat.le_of_ble_eq_true rfl) (by rfl) ?_
 refine st1n (F _ (.tail _ (.tail _ (.tail _ (.head _))))) (Nat.le_of_ble_eq_true rfl) (by rfl) ?_
 refine st1n (F _ (.tail _ (.tail _ (.tail _ (.tail _ (.head _)))))) (Nat.le_of_ble_eq_true rfl) (by rfl) ?_
 refine st1n (F _ (.tail _ (.tail _ (.tail _ (.tail _ (.tail _ (.head _))))))) (Nat.le_of_ble_eq_true rfl) (by rfl) ?_
 exact h f hf ne
theorem c_textI (kit:Kit prog w K B) {d:Nat} {x dx:Addr} {i:Int} {ow tx:AV}
 (h:∀f,Fresh σ f→f≠x→Q .none (up (up σ f (.sdict [])) x (.inst 62 dx (tfs i ow f ++ [(Str.ofString "text",tx)])))):CallOK prog w B (d + 2) 59 [.ref x,.int i,ow,tx] (up σ x (.inst 62 dx [])) Q X:=by
 refine callFn (n:=20) kit.gd kit.snd (kit.fns 32) ?_
 refine c_thingI kit (.tail _ (.head _)) λf hf ne=>?_
 refine st1n (by rfl) (Nat.le_of_ble_eq_true rfl) (by rfl) ?_
 exact h f hf ne
theorem c_errorI (kit:Kit prog w K B) {d:Nat} {x dx:Addr} {i:Int} {ow m:AV}
 (h:∀f,Fresh σ f→f≠x→Q .none (up (up σ f (.sdict [])) x (.inst 181 dx (tfs i ow f ++ [(Str.ofString "message",m),(Str.ofString "cause",.none)])))):CallOK prog w B (d + 2) 178 [.ref x,.int i,ow,m] (up σ x (.inst 181 dx [])) Q X:=by
 refine callFn (n:=20) kit.gd kit.snd (kit.fns 33) ?_
 refine c_thingI kit (.tail _ (.tail _ (.head _))) λf hf ne=>?_
 refine st1n (by rfl) (Nat.le_of_ble_eq_true rfl) (by rfl) ?_
 refine st1n (by rfl) (Nat.le_of_ble_eq_true rfl) (by rfl) ?_
 exact h f hf ne
structure MF where
 num:Int
 owner:AV
 fields:Addr
 own:AV
 frozen:Bool
 ident:AV
 name:AV
 isc:Bool
 parent:AV
 outer:AV
 meths:Addr
 consts:Addr
 mixed:Addr
 ahead:Addr
 attached:AV
 native:AV
 kept:AV
noncomputable def MF.fs (m:MF):List (Str×AV):=[("number",.int m.num),("owner",m.owner),("fields",.ref m.fields),("own",m.own),("frozen",.bool m.frozen),("ident",m.ident),
 ("name",m.name),("is_class",.bool m.isc),("parent",m.parent),("outer",m.outer),("methods",.ref m.meths),("constants",.ref m.consts),("mixed",.ref m.mixed),
 ("ahead",.ref m.ahead),("attached",m.attached),("native",m.native),("kept",m.kept)]
structure NewMod (σ:AH) (τ:AH) (x dx:Addr) (m:MF):Prop where
 fr:Fresh σ x
 inst:τ x=some (.inst 228 dx (MF.fs m))
 mt:τ m.meths=some (.sdict [])∧Fresh σ m.meths
 mx:τ m.mixed=some (.list [])∧Fresh σ m.mixed
 ah:τ m.ahead=some (.list [])∧Fresh σ m.ahead
 mxah:m.mixed≠m.ahead
 kx:Kx NoS σ τ
theorem c_moduleI (kit:Kit prog w K B) {d:Nat} {x dx:Addr} {i:Int} {ow nm pa ou:AV} {ic:Bool} (hx:Fresh σ x)
 (h:∀f me co mi ah τ,NewMod σ τ x dx ⟨i,ow,f,.none,false,.none,nm,ic,pa,ou,me,co,mi,ah,.none,.none,.none⟩→Q .none τ):(awp 20).S (ΓF prog w B (fscope (mst 13 0)) (d + 1) X none) (fbody (mst 13 0)) (locOf (fscope (mst 13 0)) (fparams (mst 13 0)) [.ref x,.int i,ow,nm,.bool ic,pa,ou]) (up σ x (.inst 228 dx [])) (endK Q):=by
 refine c_thingI kit (.tail _ (.tail _ (.tail _ (.head _)))) λf hf nf=>?_
 refine st1n (by rfl) (Nat.le_of_ble_eq_true rfl) (by rfl) ?_
 refine st1n (by rfl) (Nat.le_of_ble_eq_true rfl) (by rfl) ?_
 refine st1n (by rfl) (Nat.le_of_ble_eq_true rfl) (by rfl) ?_
 refine st1n (by rfl) (Nat.le_of_ble_eq_true rfl) (by rfl) ?_
 intro me τ hm e
 (refine xAA (under hm e) λhm nm'=>?_;rintro rfl)
 refine st1n (by rfl) (Nat.le_of_ble_eq_true rfl) (by rfl) ?_
 intro co τ hc e
 (refine xAA (under hc e) λhc nc=>?_;rintro rfl)
 refine st1n (by rfl) (Nat.le_of_ble_eq_true rfl) (by rfl) ?_
 intro mi τ hi e
 (refine xAA (under hi e) λhi ni=>?_;rintro rfl)
 refine st1n (by rfl) (Nat.le_of_ble_eq_true rfl) (by rfl) ?_
 intro ah τ ha e
 (refine xAA (under ha e) λha na=>?_;rintro rfl)
 refine st1n (by rfl) (Nat.le_of_ble_eq_true rfl) (by rfl) ?_
 refine st1n (by rfl) (Nat.le_of_ble_eq_true rfl) (by rfl) ?_
 refine st1n (by rfl) (Nat.le_of_ble_eq_true rfl) (by rfl) ?_
 refine st1n (by rfl) (Nat.le_of_ble_eq_true rfl) (by rfl) ?_
 obtain ⟨a1,n1⟩:=ha.down
 obtain ⟨a2,n2⟩:=a1.down
 obtain ⟨a3,n3⟩:=a2.down
 obtain ⟨a4,n4⟩:=a3.down
 obtain ⟨b1,m1⟩:=hi.down
 obtain ⟨b2,m2⟩:=b1.down
 obtain ⟨b3,m3⟩:=b2.down
 obtain ⟨c1,k1⟩:=hc.down
 obtain ⟨d1,j1⟩:=hm.down
 refine h f me co mi ah _ ?_
 refine ⟨hx,up_self ..,⟨(up_ne nm').trans ((up_ne n3.symm).trans ((up_ne m2.symm).trans ((up_ne k1.symm).trans (up_self ..)))),d1⟩,⟨(up_ne ni).trans ((up_ne n1.symm).trans (up_self ..)),b3⟩,⟨(up_ne na).trans (up_self ..),a4⟩,n1.symm,?_⟩
 refine (((((((Kx.refl _ _).up (.inr hf.no)).up (.inr hm.no)).up (.inr hc.no)).up (.inr hi.no)).up (.inr ha.no)).up (.inr ?_))
 (refine rE (up_ne na.symm) ?_;refine rE (up_ne ni.symm) ?_;refine rE (up_ne nc.symm) ?_;refine rE (up_ne nm'.symm) ?_;refine rE (up_ne nf.symm) ?_);exact hx.no
theorem c_newMod5 (kit:Kit prog w K B) {d:Nat} {i:Int} {ow nm:AV} {ic:Bool}
 (h:∀x dx f me co mi ah τ,NewMod σ τ x dx ⟨i,ow,f,.none,false,.none,nm,ic,.none,.none,me,co,mi,ah,.none,.none,.none⟩→Q (.ref x) τ):CallOK prog w B (d + 3) 228 [.int i,ow,nm,.bool ic] σ Q X:=
 callCls kit.gd kit.ini (dE rfl) λx dx hx _ _=>callFn (n:=20) kit.gd kit.snd (kit.fns 34) (c_moduleI kit hx λf me co mi ah τ nmod=>⟨rfl,h x dx f me co mi ah τ nmod⟩)
theorem c_newMod7 (kit:Kit prog w K B) {d:Nat} {i:Int} {ow nm pa ou:AV} {ic:Bool}
 (h:∀x dx f me co mi ah τ,NewMod σ τ x dx ⟨i,ow,f,.none,false,.none,nm,ic,pa,ou,me,co,mi,ah,.none,.none,.none⟩→Q (.ref x) τ):CallOK prog w B (d + 3) 228 [.int i,ow,nm,.bool ic,pa,ou] σ Q X:=
 callCls kit.gd kit.ini (dE rfl) λx dx hx _ _=>callFn (n:=20) kit.gd kit.snd (kit.fns 35) (c_moduleI kit hx λf me co mi ah τ nmod=>⟨rfl,h x dx f me co mi ah τ nmod⟩)
end
structure WF where
 nat:Addr
 pre:Addr
 last:Int
 syms:Addr
 made:Addr
 ver:Int
 globs:Addr
 out:Addr
 ready:Bool
 main:Option AV
noncomputable def WF.base (g:WF):List (Str×AV):=[("natives",.ref g.nat),("prelude",.ref g.pre),("read",.none),("most",.int 20000),("taken",.int 0),("last_number",.int g.last),
 ("last_ident",.int 8),("symbol_idents",.ref g.syms),("made",.ref g.made),("version",.int g.ver),("const_version",.int 0),("globals",.ref g.globs),("out",.ref g.out),("is_ready",.bool g.ready)]
noncomputable def WF.fs (g:WF):List (Str×AV):=match g.main with
 |none=>g.base
 |some a=>g.base ++ [(Str.ofString "main",a)]
theorem wf_last (g:WF):kget g.fs "last_number"=some (.int g.last):=by unfold WF.fs;induction g.main<;>rfl
theorem wf_made (g:WF):kget g.fs "made"=some (.ref g.made):=by unfold WF.fs;induction g.main<;>rfl
theorem wf_ver (g:WF):kget g.fs "version"=some (.int g.ver):=by unfold WF.fs;induction g.main<;>rfl
theorem wf_nat (g:WF):kget g.fs "natives"=some (.ref g.nat):=by unfold WF.fs;induction g.main<;>rfl
theorem wf_pre (g:WF):kget g.fs "prelude"=some (.ref g.pre):=by unfold WF.fs;induction g.main<;>rfl
theorem wf_ready (g:WF):kget g.fs "is_ready"=some (.bool g.ready):=by unfold WF.fs;induction g.main<;>rfl
theorem wf_len (g:WF):g.fs.length≤900:=by unfold WF.fs;induction g.main<;>exact Nat.le_of_ble_eq_true rfl
theorem wf_none (g:WF) {m:Str} (h:m∈[Str.ofString "number",Str.ofString "builtin",Str.ofString "make_builtin",Str.ofString "give_own",Str.ofString "new_module",Str.ofString "class_of",Str.ofString "text",Str.ofString "error",Str.ofString "fail"]):kget g.fs m=none:=by
 unfold WF.fs
 induction g.main<;>(revert m;simp only[List.mem_cons,List.not_mem_nil,or_false];rintro m (rfl|rfl|rfl|rfl|rfl|rfl|rfl|rfl|rfl)<;>rfl)
theorem wf_setLast (g:WF) (i:Int):kput g.fs "last_number" (.int i)=WF.fs { g with last:=i }:=by unfold WF.fs;induction g.main<;>rfl
theorem wf_setVer (g:WF) (i:Int):kput g.fs "version" (.int i)=WF.fs { g with ver:=i }:=by unfold WF.fs;induction g.main<;>rfl
section
variable {prog:Program} {w:World} {K:Frag} {B:Heap} {σ τ:AH} {Q X:Post}
theorem c_number (kit:Kit prog w K B) {d:Nat} {wd dw:Addr} {g:WF} (h:σ wd=some (.inst 924 dw (WF.fs g)))
 (q:Q (.int (g.last + 1)) (up σ wd (.inst 924 dw (WF.fs { g with last:=g.last + 1 })))):CallOK prog w B (d + 1) 705 [.ref wd] σ Q X:=by
 refine callFn (n:=20) kit.gd kit.snd (kit.fns 43) ?_
 refine at1 h (by rfl) (wf_last g) ?_
 refine st1 h (by rfl) (wf_len g) (wf_setLast g _) ?_
 exact at1 (up_self ..) (by rfl) (wf_last _) q
noncomputable def bnm:List Str:=["Object","BasicObject","Class","Module","Kernel","Exception","StandardError","ArgumentError","NameError",
 "RuntimeError","FrozenError","String","Comparable"]
noncomputable def bisc (n:Str):Bool:=!(n == "Kernel" || n == "Comparable")
noncomputable def bpar (n:Str):Option Str:=match so 658 with
 |some (.sdict kvs)=>(match kget kvs n with|some (.str p)=>some p|_=>none)
 |_=>none
noncomputable def bmix (n:Str):List Str:=if n == "Object" then ["Kernel"] else if n == "String" then ["Comparable"] else []
noncomputable def optS:Option Str→AV
 |none=>.none
 |some p=>.str p
theorem b_isc:∀n∈bnm,(match so 657 with|some (.tup xs)=>fmem (.str n) xs|_=>none)=some (!bisc n):=by decide +kernel
noncomputable def bl:List (Str×AV):=match so 658 with|some (.sdict kvs)=>kvs|_=>[]
noncomputable def bm:List (Str×AV):=match so 661 with|some (.sdict kvs)=>kvs|_=>[]
theorem so658:so 658=some (.sdict bl):=rfl
theorem so661:so 661=some (.sdict bm):=rfl
set_option tactic.hygienic true in
noncomputable def parC (v:Option AV) (o:Option Str):Bool:=v.casesOn false λv=>v.casesOn (decide (o=none)) (λ_=>false) (λ_=>false) (λp=>decide (o=some p)) λ_=>false
theorem parC_e {v:Option AV} {o:Option Str} (h:parC v o=true):v=some (optS o):=by
 induction v using Option.casesOn with
 |none=>exact nF h
 |some v=>induction v using AV.casesOn with
  |str p=>rw[of_decide_eq_true (p:=o=some p) h];rfl
  |none=>rw[of_decide_eq_true (p:=o=none) h];rfl
  |_=>exact nF h
theorem b_par:∀n∈bnm,kget bl n=some (optS (bpar n)):=by
 have h:∀n∈bnm,parC (kget bl n) (bpar n)=true:=by decide +kernel
 exact λn hn=>parC_e (h n hn)
theorem b_in:∀n∈bnm,(∀p,bpar n=some p→p∈bnm)∧∀k∈bmix n,k∈bnm:=by
 have h:∀n∈bnm,(match bpar n with|some p=>bnm.contains p|none=>true)=true∧∀k∈bmix n,k∈bnm:=by decide +kernel
 refine λn hn=>⟨λp e=>?_,(h n hn).2⟩
 have:=(h n hn).1
 rw[e] at this
 exact List.contains_iff_mem.mp this
noncomputable def tup1 (xs:List AV):Option (List Str):=xs.casesOn none λx r=>r.casesOn (x.casesOn none (λ_=>none) (λ_=>none) (λk=>some [k]) λ_=>none) λ_ _=>none
noncomputable def soMix (v:Option AV):Option (List Str):=v.casesOn (some []) λv=>v.casesOn none (λ_=>none) (λ_=>none) (λ_=>none) λt=>(tupOf (so t)).bind tup1
theorem b_mix:∀n∈bnm,soMix (kget bm n)=some (bmix n):=by decide +kernel
inductive ModAt (σ:AH) (g:WF) (n:Str) (v:AV):Prop
 |mk (hn:n∈bnm) (a d:Addr) (m:MF) (e:v=.ref a) (h:σ a=some (.inst 228 d (MF.fs m))) (nm:m.name=.str n) (le:m.num≤g.last):ModAt σ g n v
inductive GsUp (g g':WF):Prop
 |mk (l:Int) (e:g'={ g with last:=l }) (le:g.last≤l):GsUp g g'
structure BW (σ:AH) (wd dw:Addr) (g:WF) (kvs:List (Str×AV)):Prop where
 w:σ wd=some (.inst 924 dw (WF.fs g))
 md:σ g.made=some (.sdict kvs)
 nat:σ g.nat=some (.sdict [])
 pre:σ g.pre=some (.sdict [])
 natp:g.nat≠g.made∧g.pre≠g.made
 mods:∀n v,kget kvs n=some v→ModAt σ g n v
 inj:∀n n' a a' d d' m m',kget kvs n=some (.ref a)→kget kvs n'=some (.ref a')→σ a=some (.inst 228 d (MF.fs m))→σ a'=some (.inst 228 d' (MF.fs m'))→m.num=m'.num→n=n'
 nd:(kvs.map (·.1)).Nodup
noncomputable def um (kvs:List (Str×AV)):Nat:=(bnm.filter λn=>(kget kvs n).isNone).length
noncomputable def parV (kvs:List (Str×AV)) (o:Option Str):AV:=match o with
 |none=>.none
 |some p=>(kget kvs p).getD .none
structure BFull (τ:AH) (g:WF) (kvs:List (Str×AV)) (n:Str) (a d:Addr) (m:MF):Prop where
 at_:kget kvs n=some (.ref a)
 inst:τ a=some (.inst 228 d (MF.fs m))
 name:m.name=.str n
 isc:m.isc=bisc n
 par:m.parent=parV kvs (bpar n)∧∀p,bpar n=some p→(kget kvs p).isSome=true
 native:m.native=.str n
 rest:m.attached=.none∧m.kept=.none∧m.frozen=false∧m.own=.none∧m.outer=.none∧m.ident=.none
 mt:τ m.meths=some (.sdict [])∧m.meths≠g.made
 mx:τ m.mixed=some (.list ((bmix n).map λk=>(kget kvs k).getD .none))∧∀k∈bmix n,(kget kvs k).isSome=true
 ah:τ m.ahead=some (.list [])
inductive BFullE (τ:AH) (g:WF) (kvs:List (Str×AV)) (n:Str):Prop
 |mk (a d:Addr) (m:MF) (h:BFull τ g kvs n a d m):BFullE τ g kvs n
noncomputable abbrev WM (wd:Addr) (g:WF):Addr→Prop:=λb=>b=wd∨b=g.made
structure BP (σ τ:AH) (wd dw:Addr) (g:WF) (kvs:List (Str×AV)) (g':WF) (kvs':List (Str×AV)):Prop where
 bw:BW τ wd dw g' kvs'
 kx:Kx (WM wd g) σ τ
 gs:GsUp g g'
 ext:∀n v,kget kvs n=some v→kget kvs' n=some v
 full:∀n,kget kvs n=none→(kget kvs' n).isSome=true→BFullE τ g kvs' n
theorem BFull.step {σ τ:AH} {wd dw:Addr} {g:WF} {kvs kvs':List (Str×AV)} {n:Str} {a d:Addr} {m:MF} (x:BFull σ g kvs n a d m) (w:σ wd=some (.inst 924 dw (WF.fs g))) (md:∃l,σ g.made=some (.sdict l)) (kx:Kx (WM wd g) σ τ) (ext:∀n v,kget kvs n=some v→kget kvs' n=some v):BFull τ g kvs' n a d m:=by
 have ex:∀p,(kget kvs p).isSome=true→kget kvs' p=kget kvs p:=λp h=>by
  obtain ⟨v,e⟩:=Option.isSome_iff_exists.mp h
  (refine rE e ?_;exact rE (ext p v e) rfl)
 obtain ⟨l,md⟩:=md
 refine ⟨ext _ _ x.at_,kx _ _ x.inst λz=>?_,x.name,x.isc,⟨?_,λp e=>?_⟩,x.native,x.rest,⟨kx _ _ x.mt.1 λz=>?_,x.mt.2⟩,⟨?_,λk hk=>?_⟩,kx _ _ x.ah λz=>?_⟩
 ·rcases z with z|z
  ·have:=x.inst;rw[z,w] at this;cases this
  ·have:=x.inst;rw[z,md] at this;exact nC AO.ctorIdx (sJ this) rfl
 ·refine rE x.par.1 ?_
  induction e:bpar n with
  |none=>rfl
  |some p=>unfold parV;dsimp only;exact rE (ex p (x.par.2 p e)) rfl
 ·refine rE (ex p (x.par.2 p e)) ?_;exact x.par.2 p e
 ·rcases z with z|z
  ·have:=x.mt.1;rw[z,w] at this;exact nC AO.ctorIdx (sJ this) rfl
  ·exact x.mt.2 z
 ·rw[kx _ _ x.mx.1 λz=>?_]
  ·congr 2
   refine List.map_congr_left λk hk=>?_
   rw[ex k (x.mx.2 k hk)]
  ·rcases z with z|z
   ·have:=x.mx.1;rw[z,w] at this;exact nC AO.ctorIdx (sJ this) rfl
   ·have:=x.mx.1;rw[z,md] at this;exact nC AO.ctorIdx (sJ this) rfl
 ·refine rE (ex k (x.mx.2 k hk)) ?_;exact x.mx.2 k hk
 ·rcases z with z|z
  ·have:=x.ah;rw[z,w] at this;exact nC AO.ctorIdx (sJ this) rfl
  ·have:=x.ah;rw[z,md] at this;exact nC AO.ctorIdx (sJ this) rfl
theorem BP.refl {σ:AH} {wd dw:Addr} {g:WF} {kvs:List (Str×AV)} (bw:BW σ wd dw g kvs):BP σ σ wd dw g kvs g kvs:=
 ⟨bw,Kx.refl _ _,⟨g.last,rfl,Int.le_refl _⟩,λ_ _ e=>e,λn e h=>by rw[e] at h;cases h⟩
theorem BP.trans {ρ σ τ:AH} {wd dw:Addr} {g g' g'':WF} {kvs kvs' kvs'':List (Str×AV)} (x:BP ρ σ wd dw g kvs g' kvs') (y:BP σ τ wd dw g' kvs' g'' kvs''):BP ρ τ wd dw g kvs g'' kvs'':=by
 obtain ⟨l,rfl,hl⟩:=x.gs
 obtain ⟨l',rfl,hl'⟩:=y.gs
 refine ⟨y.bw,x.kx.trans y.kx,⟨l',rfl,Int.le_trans hl hl'⟩,λn v e=>y.ext n v (x.ext n v e),λn e h=>?_⟩
 induction e':kget kvs' n with
 |none=>
  obtain ⟨a,d,m,f⟩:=y.full n e' h
  exact ⟨a,d,m,f.1,f.2,f.3,f.4,f.5,f.6,f.7,f.8,f.9,f.10⟩
 |some v=>
  obtain ⟨a,d,m,f⟩:=x.full n e (by refine rE e' ?_;rfl)
  exact ⟨a,d,m,(BFull.step (g:={ g with last:=l }) ⟨f.1,f.2,f.3,f.4,f.5,f.6,f.7,f.8,f.9,f.10⟩ x.bw.w ⟨_,x.bw.md⟩ y.kx y.ext |> λz=>⟨z.1,z.2,z.3,z.4,z.5,z.6,z.7,z.8,z.9,z.10⟩)⟩
theorem b_len:∀n∈bnm,n.length + 1≤100000:=by decide +kernel
theorem c_giveOwn (kit:Kit prog w K B) {d:Nat} {wd dw:Addr} {g:WF} {kvs:List (Str×AV)} {name:Str} (bw:BW σ wd dw g kvs) (hn:name∈bnm) (q:Q .none σ):CallOK prog w B (d + 1) 738 [.ref wd,.str name] σ Q X:=by
 refine callFn (n:=20) kit.gd kit.snd (kit.fns 46) ?_
 refine ⟨b_len name hn,?_⟩
 refine at1 bw.w (by rfl) (wf_nat g) ?_
 refine eq1 (r:=false) (amem_d (rd_of bw.nat)) ?_
 refine ⟨b_len name hn,?_⟩
 refine at1 bw.w (by rfl) (wf_pre g) ?_
 refine eq1 (r:=false) (amem_d (rd_of bw.pre)) ?_
 exact q
theorem inst_inj {a d d':Addr} {m m':MF} (h:σ a=some (.inst 228 d (MF.fs m))) (h':σ a=some (.inst 228 d' (MF.fs m'))):m.num=m'.num∧m.name=m'.name:=by
 rw[h] at h'
 have e:MF.fs m=MF.fs m':=by injection h' with h';injection h'
 have e1:=congrArg (λl=>kget l (Str.ofString "number")) e
 have e2:=congrArg (λl=>kget l (Str.ofString "name")) e
 have e1:some (AV.int m.num)=some (AV.int m'.num):=e1
 have e2:some m.name=some m'.name:=e2
 injection e1 with e1;injection e1 with e1
 injection e2 with e2
 exact ⟨e1,e2⟩
theorem kget_any {kvs:List (Str×AV)} {n:Str} (h:kget kvs n=none):(kvs.any λkv=>decide (kv.1=n))=false:=by
 unfold kget at h
 rw[Option.map_eq_none_iff,List.find?_eq_none] at h
 rw[List.any_eq_false]
 exact λp hp=>by simpa using h p hp
theorem kget_snoc {kvs:List (Str×AV)} {n k:Str} {v:AV} (h:kget kvs n=none):kget (kvs ++ [(n,v)]) k=if k=n then some v else kget kvs k:=by
 unfold kget at *
 refine rE (List.find?_append) ?_
 by_cases q:k=n
 ·subst q
  rw[Option.map_eq_none_iff] at h
  (refine rE h ?_;refine rE (if_pos rfl) ?_);simp
 ·refine rE (if_neg q) ?_
  induction z:kvs.find? λkv=>decide (kv.1=k) with
  |some p=>simp
  |none=>simp[Ne.symm q]
theorem kget_none_iff {kvs:List (Str×AV)} {n:Str}:kget kvs n=none↔n∉kvs.map (·.1):=by
 unfold kget
 rw[Option.map_eq_none_iff,List.find?_eq_none]
 constructor
 ·intro h m
  refine xEA (List.mem_map.mp m) λp hp e=>?_
  exact absurd (decide_eq_true e) (h p hp)
 ·intro h p hp e
  exact h (List.mem_map.mpr ⟨p,hp,of_decide_eq_true e⟩)
theorem bw_len {wd dw:Addr} {g:WF} {kvs:List (Str×AV)} (bw:BW σ wd dw g kvs):kvs.length≤900:=by
 have sub:∀n∈kvs.map (·.1),n∈bnm:=λn hn=>by
  induction e:kget kvs n with
  |none=>exact absurd hn (kget_none_iff.mp e)
  |some v=>exact (bw.mods n v e).1
 have:=List.Nodup.length_le_of_subset bw.nd sub
 rw[List.length_map] at this
 exact Nat.le_trans this (dE rfl)
structure MK (σ τ:AH) (wd dw:Addr) (g:WF) (kvs:List (Str×AV)) (nme:Str) (x dx:Addr) (m:MF) (g':WF) (kvs':List (Str×AV)):Prop where
 bw:BW τ wd dw g' kvs'
 kx:Kx (WM wd g) σ τ
 gs:GsUp g g'
 ext:∀n v,kget kvs n=some v→kget kvs' n=some v
 at_:kget kvs' nme=some (.ref x)
 new:σ x=none
 inst:τ x=some (.inst 228 dx (MF.fs m))
 name:m.name=.str nme
 isc:m.isc=bisc nme
 rest:m.attached=.none∧m.kept=.none∧m.frozen=false∧m.own=.none∧m.outer=.none∧m.ident=.none
 mt:τ m.meths=some (.sdict [])∧m.meths≠g.made
 mx:∃l,τ m.mixed=some (.list l)
 ah:τ m.ahead=some (.list [])
 full:∀n,n≠nme→kget kvs n=none→(kget kvs' n).isSome=true→BFullE τ g kvs' n
theorem BFull.gs {g:WF} {l:Int} {kvs:List (Str×AV)} {n:Str} {a d:Addr} {m:MF} (f:BFull σ { g with last:=l } kvs n a d m):BFull σ g kvs n a d m:=⟨f.1,f.2,f.3,f.4,f.5,f.6,f.7,f.8,f.9,f.10⟩
theorem MK.call {σ τ τ':AH} {wd dw x dx:Addr} {g g' g'':WF} {kvs kvs' kvs'':List (Str×AV)} {name:Str} {m:MF} (k:MK σ τ wd dw g kvs name x dx m g' kvs') (p:BP τ τ' wd dw g' kvs' g'' kvs''):MK σ τ' wd dw g kvs name x dx m g'' kvs'':=by
 obtain ⟨l,rfl,hl⟩:=k.gs
 obtain ⟨l',rfl,hl'⟩:=p.gs
 have sdne:∀{a:Addr} {o:AO},τ a=some o→(∀C d fs,o≠.inst C d fs)→(∀l,o≠.sdict l)→¬WM wd g a:=λ{a o} h h1 h2 z=>by
  rcases z with rfl|rfl
  ·rw[k.bw.w] at h;(have h:=sJ h;subst h);exact h1 _ _ _ rfl
  ·rw[k.bw.md] at h;(have h:=sJ h;subst h);exact h2 _ rfl
 have nx:¬WM wd g x:=λz=>by
  rcases z with z|z
  ·have:=k.inst;rw[z,k.bw.w] at this;cases this
  ·have:=k.inst;rw[z,k.bw.md] at this;exact nC AO.ctorIdx (sJ this) rfl
 refine ⟨p.bw,k.kx.trans p.kx,⟨l',rfl,Int.le_trans hl hl'⟩,λn v e=>p.ext n v (k.ext n v e),p.ext _ _ k.at_,k.new,p.kx _ _ k.inst nx,k.name,k.isc,k.rest,⟨p.kx _ _ k.mt.1 λz=>?_,k.mt.2⟩,?_,p.kx _ _ k.ah (sdne k.ah (λ_ _ _ q=>by exact nC AO.ctorIdx q rfl) λ_ q=>by exact nC AO.ctorIdx q rfl),λn ne e h=>?_⟩
 ·rcases z with z|z
  ·have:=k.mt.1;rw[z,k.bw.w] at this;exact nC AO.ctorIdx (sJ this) rfl
  ·exact k.mt.2 z
 ·obtain ⟨ml,e⟩:=k.mx
  exact ⟨ml,p.kx _ _ e (sdne e (λ_ _ _ q=>by exact nC AO.ctorIdx q rfl) λ_ q=>by exact nC AO.ctorIdx q rfl)⟩
 ·induction e':kget kvs' n with
  |none=>
   obtain ⟨a,d,m,f⟩:=p.full n e' h
   exact ⟨a,d,m,f.gs⟩
  |some v=>
   obtain ⟨a,d,m,f⟩:=k.full n ne e (by refine rE e' ?_;rfl)
   have f':BFull τ { g with last:=l } kvs' n a d m:=⟨f.1,f.2,f.3,f.4,f.5,f.6,f.7,f.8,f.9,f.10⟩
   exact ⟨a,d,m,(f'.step k.bw.w ⟨_,k.bw.md⟩ p.kx p.ext).gs⟩
theorem ne_of_some {σ:AH} {a b:Addr} {o o':AO} (h:σ a=some o) (h':σ b=some o') (n:o≠o'):a≠b:=λz=>by
 rw[z,h'] at h;exact n (by injection h with h;exact h.symm)
theorem MK.set {σ τ τ':AH} {wd dw x dx:Addr} {g g':WF} {kvs kvs':List (Str×AV)} {name:Str} {m m':MF} (k:MK σ τ wd dw g kvs name x dx m g' kvs') (kx:Kx (λb=>b=x) τ τ')
 (h1:τ' x=some (.inst 228 dx (MF.fs m'))) (h2:m'.num=m.num∧m'.name=m.name∧m'.isc=m.isc∧m'.meths=m.meths∧m'.ahead=m.ahead) (h3:m'.attached=.none∧m'.kept=.none∧m'.frozen=false∧m'.own=.none∧m'.outer=.none∧m'.ident=.none)
 (h4:∃l,τ' m'.mixed=some (.list l)):MK σ τ' wd dw g kvs name x dx m' g' kvs':=by
 refine xAAAA h2 λe1 e2 e3 e4 e5=>?_
 have kp:∀{a:Addr} {o:AO},τ a=some o→(∀d fs,o≠.inst 228 d fs)→τ' a=some o:=λh n=>kx _ _ h λz=>by
  rw[z,k.inst] at h;injection h with h;exact n _ _ h.symm
 obtain ⟨l,rfl,hl⟩:=k.gs
 have mods:∀{a d:Addr} {m0:MF},τ' a=some (.inst 228 d (MF.fs m0))→(∃o,τ a=some o)→∃m1,τ a=some (.inst 228 d (MF.fs m1))∧m1.num=m0.num∧m1.name=m0.name:=λ{a d m0} h ho=>by
  by_cases z:a=x
  ·subst z
   obtain ⟨u1,u2⟩:=inst_inj h1 h
   rw[h1] at h
   injection h with h;injection h with _ hd _
   exact iEAA m (hd▸k.inst) (e1.symm.trans u1) (e2.symm.trans u2)
  ·obtain ⟨o,ho⟩:=ho
   have:=kx _ _ ho z
   rw[h] at this;(have this:=sJ this;subst this)
   exact iEAA m0 ho rfl rfl
 refine ⟨⟨kp k.bw.w λ_ _ z=>(by cases z),kp k.bw.md λ_ _ z=>(by exact nC AO.ctorIdx z rfl),kp k.bw.nat λ_ _ z=>(by exact nC AO.ctorIdx z rfl),kp k.bw.pre λ_ _ z=>(by exact nC AO.ctorIdx z rfl),k.bw.natp,λn v e=>?_,λn n' a a' d d' m1 m2 e e' i1 i2 q=>?_,k.bw.nd⟩,?_,⟨l,rfl,hl⟩,k.ext,k.at_,k.new,h1,e2.trans k.name,e3.trans k.isc,h3,?_,h4,?_,λn ne e h=>?_⟩
 ·obtain ⟨hn,a,d,m1,rfl,i,nm,le⟩:=k.bw.mods n v e
  by_cases z:a=x
  ·subst z
   have i':=k.inst
   rw[i] at i'
   obtain ⟨u1,u2⟩:=inst_inj i k.inst
   exact ⟨hn,a,dx,m',rfl,h1,e2.trans (u2.symm.trans nm),by (refine rE e1 ?_;refine rL u1 ?_);exact le⟩
  ·exact ⟨hn,a,d,m1,rfl,kx _ _ i z,nm,le⟩
 ·obtain ⟨_,b,_,m3,eb,ib,_⟩:=k.bw.mods n _ e
  (have eb:=rJ eb;subst eb)
  obtain ⟨_,b',_,m4,eb,ib',_⟩:=k.bw.mods n' _ e'
  (have eb:=rJ eb;subst eb)
  refine xEAA (mods i1 ⟨_,ib⟩) λv1 j1 q1 _=>?_
  refine xEAA (mods i2 ⟨_,ib'⟩) λv2 j2 q2 _=>?_
  exact k.bw.inj n n' a a' _ _ _ _ e e' j1 j2 (q1.trans (q.trans q2.symm))
 ·intro b o e n
  exact kx _ _ (k.kx b o e n) λz=>by rw[z,k.new] at e;exact nn e
 ·refine rE e4 ?_;exact ⟨kp k.mt.1 λ_ _ z=>(by exact nC AO.ctorIdx z rfl),k.mt.2⟩
 ·refine rE e5 ?_;exact kp k.ah λ_ _ z=>by exact nC AO.ctorIdx z rfl
 ·obtain ⟨a,d,m1,f⟩:=k.full n ne e h
  refine ⟨a,d,m1,f.at_,kx _ _ f.inst λz=>?_,f.name,f.isc,f.par,f.native,f.rest,⟨kp f.mt.1 λ_ _ z=>(by exact nC AO.ctorIdx z rfl),f.mt.2⟩,⟨kp f.mx.1 λ_ _ z=>(by exact nC AO.ctorIdx z rfl),f.mx.2⟩,kp f.ah λ_ _ z=>by exact nC AO.ctorIdx z rfl⟩
  have:=f.inst
  rw[z] at this
  have:=(inst_inj this k.inst).2
  rw[f.name,k.name] at this
  injection this with this
  exact ne this
theorem kput_snoc {kvs:List (Str×AV)} {n:Str} {v:AV} (h:kget kvs n=none):kput kvs n v=kvs ++ [(n,v)]:=kput_new (kget_any h)
theorem MK.start {σ σ₁ τ:AH} {wd dw x dx:Addr} {g:WF} {kvs:List (Str×AV)} {name:Str} {f me co mi ah:Addr} (bw:BW σ wd dw g kvs) (hn:name∈bnm) (e:kget kvs name=none)
 (e1:σ₁=up σ wd (.inst 924 dw (WF.fs { g with last:=g.last + 1 })))
 (nm:NewMod σ₁ τ x dx ⟨g.last + 1,.none,f,.none,false,.none,.str name,bisc name,.none,.none,me,co,mi,ah,.none,.none,.none⟩) :
 MK σ (up τ g.made (.sdict (kvs ++ [(name,.ref x)]))) wd dw g kvs name x dx ⟨g.last + 1,.none,f,.none,false,.none,.str name,bisc name,.none,.none,me,co,mi,ah,.none,.none,.none⟩ { g with last:=g.last + 1 } (kvs ++ [(name,.ref x)]):=by
 subst e1
 have o1:∀{b o},σ b=some o→b≠wd→τ b=some o:=λ{b o} h n=>nm.kx _ _ ((up_ne n).trans h) not_false
 have wd1:=nm.kx _ _ (up_self σ wd _) not_false
 have mw:g.made≠wd:=ne_of_some bw.md bw.w (by intro z;exact nC AO.ctorIdx z rfl)
 have nx:σ x=none:=by
  have:=nm.fr.no
  by_cases z:x=wd
  ·rw[z,up_self] at this;exact nS this
  ·rwa [up_ne z] at this
 have frm:∀{b},Fresh (up σ wd (.inst 924 dw (WF.fs { g with last:=g.last + 1 }))) b→b≠g.made∧b≠wd:=λ{b} f=>by
  have:=f.down
  exact ⟨this.1.ne bw.md,this.2⟩
 have xm:=frm nm.fr
 have inst':∀{n a},kget kvs n=some (.ref a)→∃d m,σ a=some (.inst 228 d (MF.fs m))∧up τ g.made (.sdict (kvs ++ [(name,.ref x)])) a=some (.inst 228 d (MF.fs m))∧m.num≤g.last∧m.name=.str n:=λ{n a} h=>by
  obtain ⟨_,b,d,m,eb,i,nm',le⟩:=bw.mods n _ h
  (have eb:=rJ eb;subst eb)
  have na:a≠g.made:=ne_of_some i bw.md (by intro z;exact nC AO.ctorIdx z rfl)
  have nw:a≠wd:=λz=>by rw[z,bw.w] at i;cases i
  exact ⟨d,m,i,(up_ne na).trans (o1 i nw),le,nm'⟩
 have xi:up τ g.made (.sdict (kvs ++ [(name,.ref x)])) x=some (.inst 228 dx (MF.fs _)):=(up_ne xm.1).trans nm.inst
 refine ⟨⟨(up_ne mw.symm).trans wd1,up_self ..,?_,?_,bw.natp,λn v h=>?_,λn n' a a' d d' m m' h h' i i' q=>?_,?_⟩,?_,⟨_,rfl,Int.le_add_of_nonneg_right (dE rfl)⟩,λn v h=>?_,?_,nx,xi,rfl,rfl,⟨rfl,rfl,rfl,rfl,rfl,rfl⟩,⟨?_,(frm nm.mt.2).1⟩,⟨[],?_⟩,?_,λn ne h h'=>?_⟩
 ·exact (up_ne bw.natp.1).trans (o1 bw.nat (ne_of_some bw.nat bw.w (by intro z;exact nC AO.ctorIdx z rfl)))
 ·exact (up_ne bw.natp.2).trans (o1 bw.pre (ne_of_some bw.pre bw.w (by intro z;exact nC AO.ctorIdx z rfl)))
 ·rw[kget_snoc e] at h
  by_cases z:n=name
  ·rw[if_pos z] at h;(have h:=sJ h;subst h);subst z
   exact ⟨hn,x,dx,_,rfl,xi,rfl,Int.le_refl _⟩
  ·rw[if_neg z] at h
   obtain ⟨hn',b,_,_,rfl,_,_,_⟩:=bw.mods n v h
   refine xEEAAA (inst' h) λd m _ i le nm'=>?_
   exact ⟨hn',b,d,m,rfl,i,nm',Int.le_trans le (Int.le_add_of_nonneg_right (dE rfl))⟩
 ·rw[kget_snoc e] at h h'
  by_cases z:n=name
  ·rw[if_pos z] at h;cases h
   by_cases z':n'=name
   ·exact z.trans z'.symm
   ·rw[if_neg z'] at h'
    refine xEEAAA (inst' h') λ_ m2 _ j2 le _=>?_
    have u:=(inst_inj xi i).1
    have u':=(inst_inj j2 i').1
    have u:g.last + 1=m.num:=u
    lia
  ·rw[if_neg z] at h
   refine xEEAAA (inst' h) λ_ m1 k1 j1 le _=>?_
   have u':=(inst_inj j1 i).1
   by_cases z':n'=name
   ·rw[if_pos z'] at h';cases h'
    have u:=(inst_inj xi i').1
    have u:g.last + 1=m'.num:=u
    lia
   ·rw[if_neg z'] at h'
    refine xEEAAA (inst' h') λ_ m2 k2 j2 le' _=>?_
    have u:=(inst_inj j2 i').1
    exact bw.inj n n' a a' _ _ _ _ h h' k1 k2 (by lia)
 ·rw[List.map_append,List.nodup_append]
  refine iAA bw.nd (by simp) (λa ha b hb=>?_)
  rw[List.map_singleton,List.mem_singleton] at hb
  rintro rfl
  have hb:a=name:=hb
  exact kget_none_iff.mp e (hb▸ha)
 ·intro b o h n
  have n1:b≠wd:=λz=>n (.inl z)
  have n2:b≠g.made:=λz=>n (.inr z)
  exact (up_ne n2).trans (o1 h n1)
 ·(refine rE (kget_snoc e) ?_;refine rE (if_neg (λz=>by rw[z,e] at h;exact nn h)) ?_);exact h
 ·(refine rE (kget_snoc e) ?_;exact rE (if_pos rfl) rfl)
 ·exact (up_ne (frm nm.mt.2).1).trans nm.mt.1
 ·exact (up_ne (frm nm.mx.2).1).trans nm.mx.1
 ·exact (up_ne (frm nm.ah.2).1).trans nm.ah.1
 ·rw[kget_snoc e,if_neg ne,h] at h';cases h'
theorem MK.done {σ τ:AH} {wd dw x dx:Addr} {g g':WF} {kvs kvs':List (Str×AV)} {name:Str} {m:MF} (k:MK σ τ wd dw g kvs name x dx m g' kvs')
 (hp:m.parent=parV kvs' (bpar name)∧∀p,bpar name=some p→(kget kvs' p).isSome=true) (hnat:m.native=.str name)
 (hmx:τ m.mixed=some (.list ((bmix name).map λk=>(kget kvs' k).getD .none))∧∀k∈bmix name,(kget kvs' k).isSome=true):BP σ τ wd dw g kvs g' kvs':=by
 refine ⟨k.bw,k.kx,k.gs,k.ext,λn e h=>?_⟩
 by_cases z:n=name
 ·subst z
  exact ⟨x,dx,m,k.at_,k.inst,k.name,k.isc,hp,hnat,k.rest,k.mt,hmx,k.ah⟩
 ·exact k.full n z e h
theorem um_lt {kvs kvs':List (Str×AV)} {name:Str} {k:Nat} (hn:name∈bnm) (h:um kvs≤k + 1) (e:kget kvs name=none) (e':(kget kvs' name).isSome=true) (ext:∀n v,kget kvs n=some v→kget kvs' n=some v):um kvs'≤k:=by
 have imp:∀n,(kget kvs' n).isNone=true→(kget kvs n).isNone=true:=λn h=>by
  induction q:kget kvs n with
  |none=>rfl
  |some v=>rw[ext n v q] at h;cases h
 unfold um at *
 have eqf:(bnm.filter λn=>(kget kvs' n).isNone)=(bnm.filter λn=>(kget kvs n).isNone).filter λn=>(kget kvs' n).isNone:=by
  refine rE List.filter_filter ?_
  refine List.filter_congr λn _=>?_
  induction q:(kget kvs' n).isNone with
  |false=>rfl
  |true=>refine rE (imp n q) ?_;rfl
 have sub:(bnm.filter λn=>(kget kvs' n).isNone).Sublist ((bnm.filter λn=>(kget kvs n).isNone)):=by refine rE eqf ?_;exact List.filter_sublist
 have lt:(bnm.filter λn=>(kget kvs' n).isNone).length < (bnm.filter λn=>(kget kvs n).isNone).length:=by
  refine Nat.lt_of_le_of_ne sub.length_le λz=>?_
  have:=sub.eq_of_length z
  have m:name∈bnm.filter λn=>(kget kvs n).isNone:=List.mem_filter.mpr ⟨hn,by refine rE e ?_;rfl⟩
  rw[←this] at m
  have:=(List.mem_filter.mp m).2
  induction q:kget kvs' name with
  |none=>rw[q] at e';cases e'
  |some v=>rw[q] at this;cases this
 lia
theorem Clean.up {a:Addr} {o o':AO} (h:Clean σ) (e:σ a=some o'):Clean (Internal.up σ a o):=λb s=>by
 have:=h b s
 by_cases z:b=a
 ·rw[z,e] at this;exact nS this
 ·refine rE (up_ne z) ?_;exact this
noncomputable abbrev fS (prog:Program) (w:World) (B:Heap) (st:Stmt) (d:Nat) (X:Post) (n i:Nat) (ρ:Loc) (σ:AH) (Q:Post):Prop:=(awp n).S (ΓF prog w B (fscope st) d X none) ((fbody st).drop i) ρ σ (endK Q)
noncomputable abbrev fL (st:Stmt) (as:List AV):Loc:=locOf (fscope st) (fparams st) as
theorem si1 {a:Addr} {kvs kvs':List (Str×AV)} {k:Str} {v:AV} {P:AH→Prop} (h:σ a=some (.sdict kvs)) (z:kvs.length≤900) (e:kput kvs k v=kvs') (q:P (up σ a (.sdict kvs'))):SetS σ a k v P:=⟨kvs,h,z,e▸q⟩
theorem Clean.new {a:Addr} {o:AO} (h:Clean σ) (f:Fresh σ a):Clean (Internal.up σ a o):=λb s=>by
 by_cases z:b=a
 ·rw[z,f.so] at s;cases s
 ·refine rE (up_ne z) ?_;exact h b s
theorem bmix_len (n:Str):(bmix n).length≤1:=by
 unfold bmix
 split
 ·exact Nat.le_refl _
 ·split
  ·exact Nat.le_refl _
  ·exact Nat.zero_le _
theorem bm_at {n:Str} {a:Addr} (hn:n∈bnm) (h:Clean τ) (e:τ a=some (.tup [])):∃t,(kget bm n).getD (.ref a)=.ref t∧rd τ t=some (.tup ((bmix n).map .str)):=by
 have z:=b_mix n hn
 generalize kget bm n=v at z ⊢
 induction v using Option.casesOn with
 |none=>exact iEA a rfl (by refine rE (rd_of e) ?_;refine rL (sJ z) ?_;rfl)
 |some v=>induction v using AV.casesOn with
  |ref t=>
   refine iEA t rfl ?_
   have z:(tupOf (so t)).bind tup1=some (bmix n):=z
   induction q:tupOf (so t) with
   |none=>rw[q] at z;exact nn z
   |some xs=>
    rw[q] at z
    have q:=tupOf_e q
    refine rE (rd_so h (by rw[q];rfl)) (rE q ?_)
    rcases xs with _|⟨x,_|⟨_,_⟩⟩
    ·exact nn z
    ·induction x using AV.casesOn with
     |str k=>exact rL (sJ z) rfl
     |_=>exact nn z
    ·exact nn z
  |_=>exact nn z
theorem BW.keep {wd dw:Addr} {g:WF} {kvs:List (Str×AV)} (bw:BW σ wd dw g kvs) (kx:Kx NoS σ τ):BW τ wd dw g kvs:=by
 refine ⟨kx _ _ bw.w not_false,kx _ _ bw.md not_false,kx _ _ bw.nat not_false,kx _ _ bw.pre not_false,bw.natp,λn v e=>?_,λn n' a a' d d' m m' e e' i i' q=>?_,bw.nd⟩
 ·obtain ⟨hn,a,d,m,rfl,i,r,r2⟩:=bw.mods n v e
  exact ⟨hn,a,d,m,rfl,kx _ _ i not_false,r,r2⟩
 ·obtain ⟨_,b,_,m1,eb,j,_⟩:=bw.mods n _ e
  (have eb:=rJ eb;subst eb)
  obtain ⟨_,b',_,m2,eb,j',_⟩:=bw.mods n' _ e'
  (have eb:=rJ eb;subst eb)
  have u:=(inst_inj (kx _ _ j not_false) i).1
  have u':=(inst_inj (kx _ _ j' not_false) i').1
  exact bw.inj n n' a a' _ _ _ _ e e' j j' (u.trans (q.trans u'.symm))
theorem BP.of {wd dw:Addr} {g:WF} {kvs:List (Str×AV)} (bw:BW σ wd dw g kvs) (kx:Kx NoS σ τ):BP σ τ wd dw g kvs g kvs:=
 ⟨bw.keep kx,kx.mono λ_ z=>z.elim,⟨g.last,rfl,Int.le_refl _⟩,λ_ _ e=>e,λn e h=>by rw[e] at h;cases h⟩
theorem rd_keep {S:Addr→Prop} {t:Addr} {xs:List AV} (kx:Kx S σ τ) (ct:Clean τ) (h:rd σ t=some (.tup xs)) (n:¬S t∨σ t=none):rd τ t=some (.tup xs):=by
 unfold rd at h
 induction e:σ t with
 |none=>
  rw[e] at h
  have h:so t=_:=h
  refine rE (rd_so ct (by rw[h];rfl)) ?_;exact h
 |some o=>
  rw[e] at h
  induction o with
  |tup ys=>cases h;exact rd_of (kx _ _ e (n.resolve_right λz=>by rw[e] at z;exact nS z))
  |_=>cases h
theorem par_step {kvs kvs':List (Str×AV)} {v:AV} {o:Option Str} (ext:∀n v,kget kvs n=some v→kget kvs' n=some v) (h:v=parV kvs o∧∀p,o=some p→(kget kvs p).isSome=true) :
 v=parV kvs' o∧∀p,o=some p→(kget kvs' p).isSome=true:=by
 have ex:∀p,(kget kvs p).isSome=true→kget kvs' p=kget kvs p:=λp h=>by
  obtain ⟨v,e⟩:=Option.isSome_iff_exists.mp h
  (refine rE e ?_;exact rE (ext p v e) rfl)
 refine ⟨?_,λp e=>by refine rE (ex p (h.2 p e)) ?_;exact h.2 p e⟩
 refine rE h.1 ?_
 induction o with
 |none=>rfl
 |some p=>unfold parV;dsimp only;exact rE (ex p (h.2 p rfl)) rfl
theorem mod_in {n:Str} (h:Clean σ) (hn:n∈bnm):amem σ (.str n) (.ref 657)=some (!bisc n):=by
 have e:=b_isc n hn
 unfold amem
 dsimp only
 refine rE (rd_so h rfl) ?_
 generalize so 657=o at e ⊢
 induction o using Option.casesOn with
 |none=>exact nn e
 |some o=>induction o using AO.casesOn with
  |tup xs=>exact e
  |_=>exact nn e
noncomputable abbrev BuiltinOK (prog:Program) (w:World) (B:Heap) (wd dw:Addr) (k:Nat):Prop:=∀{X:Post} {σ:AH} {g:WF} {kvs:List (Str×AV)} {n:Str} {Q:Post} {d:Nat},BW σ wd dw g kvs→n∈bnm→um kvs≤k→2 * k + 3≤d→
 (∀a τ g' kvs',Clean τ→BP σ τ wd dw g kvs g' kvs'→kget kvs' n=some (.ref a)→Q (.ref a) τ)→CallOK prog w B d 726 [.ref wd,.str n] σ Q X
inductive g5I (σ:AH) (wd dw:Addr) (g:WF) (kvs:List (Str×AV)) (name:Str) (x dx:Addr) (m:MF) (t:Addr) (rest:List AV) (acc:List AV) (ρ:Loc) (τ₁:AH):Prop
 |mk (ks ds o g₁ kvs₁) (h1:rest=ks.map AV.str) (h2:bmix name=ds ++ ks) (h3:ρ=[(S ".0",none),(S "other",o),(S "self",some (.ref wd))]) (h4:Clean τ₁) (h5:MK σ τ₁ wd dw g kvs name x dx m g₁ kvs₁) (h6:(m.parent=parV kvs₁ (bpar name)∧(∀p,bpar name=some p→(kget kvs₁ p).isSome=true))) (h7:acc=ds.map (λk=>(kget kvs₁ k).getD .none)) (h8:(∀k∈ds,(kget kvs₁ k).isSome=true)) (h9:rd τ₁ t=some (.tup ((bmix name).map .str))):g5I σ wd dw g kvs name x dx m t rest acc ρ τ₁
theorem c_make (kit:Kit prog w K B) {k:Nat} {wd dw:Addr} (IH:BuiltinOK prog w B wd dw k) {g:WF} {kvs:List (Str×AV)} {name:Str} (bw:BW σ wd dw g kvs) (hn:name∈bnm) (e:kget kvs name=none) (hu:um kvs≤k + 1)
 (h:∀a τ g' kvs',Clean τ→BP σ τ wd dw g kvs g' kvs'→kget kvs' name=some (.ref a)→Q (.ref a) τ):CallOK prog w B (2 * k + 3 + 1) 731 [.ref wd,.str name] σ Q X:=by
 refine .clean λcl=>?_
 refine callFn (n:=20) kit.gd kit.snd (kit.fns 45) ?_
 have mem:∀c,c∈[S "Class",S "Module"]→c∈bnm:=by decide +kernel
 have s8:∀x ρ dx m g' kvs' τ,Clean τ→MK σ τ wd dw g kvs name x dx m g' kvs'→BP σ τ wd dw g kvs g' kvs'→fS prog w B (mst 71 7) (2 * k + 3) X 12 8 (.set (.set (.set (fL (mst 71 7) [.ref wd,.str name]) (S "is_class") (.bool (bisc name))) (S "found") (.ref x)) (S "parent") ρ) τ Q:=by
  intro x ρ dx m g' kvs' τ ct mk bp
  refine at1 bp.bw.w (by rfl) (wf_ready _) ?_
  have fin:fS prog w B (mst 71 7) (2 * k + 3) X 11 9 (.set (.set (.set (fL (mst 71 7) [.ref wd,.str name]) (S "is_class") (.bool (bisc name))) (S "found") (.ref x)) (S "parent") ρ) τ Q:=h x τ g' kvs' ct bp mk.at_
  show if g'.ready=true then _ else _
  induction g'.ready with
  |true=>
   show if true=true then _ else _
   rw[if_pos rfl]
   refine meth1 bp.bw.w (by rfl) (wf_none _ (dE rfl)) ?_
   exact c_giveOwn kit bp.bw hn fin
  |false=>rw[if_neg (dE rfl)];exact fin
 have s7:∀x dx m g' kvs' τ,Clean τ→MK σ τ wd dw g kvs name x dx m g' kvs'→m.native=.str name→m.parent=parV kvs' (bpar name)∧(∀p,bpar name=some p→(kget kvs' p).isSome=true)→fS prog w B (mst 71 7) (2 * k + 3) X 13 7 (.set (.set (.set (fL (mst 71 7) [.ref wd,.str name]) (S "is_class") (.bool (bisc name))) (S "found") (.ref x)) (S "parent") (optS (bpar name))) τ Q:=by
  intro x dx m g' kvs' τ ct mk hnat hp
  refine ⟨⟨bm,(rd_so ct rfl).trans so661⟩,?_⟩
  intro e' τ' he eq
  have ct':Clean τ':=eq▸ct.new he
  refine ⟨bm,(rd_so ct' rfl).trans so661,?_⟩
  refine xEA (bm_at (τ:=τ') hn ct' (by rw[eq];exact up_self ..)) λt et rt=>?_
  rw[et]
  refine .inr (.inl ⟨_,rt,Nat.le_trans (by rw[List.length_map];exact bmix_len _) (dE rfl:1≤100000),?_⟩)
  refine ⟨g5I σ wd dw g kvs name x dx m t,?_,?_,?_⟩
  ·exact ⟨bmix name,[],none,g',kvs',rfl,rfl,by rfl,ct',mk.call (.of mk.bw (eq▸(Kx.refl _ _).up (.inr he.no))),hp,rfl,(λ_ z=>by cases z),rt⟩
  ·rintro acc ρ τ₁ ⟨ks,ds,o,g₁,kvs₁,h1,h2,h3,ct₁,mk₁,hp₁,rfl,h4,rt₁⟩
   refine ⟨rt₁,?_⟩
   intro l τ₂ hl rfl
   have ks0:ks=[]:=by induction ks using List.casesOn with|nil=>rfl|cons _ _=>cases h1
   rw[ks0,List.append_nil] at h2
   have kx2:=(Kx.refl NoS τ₁).up (.inr hl.no) (o:=.list (ds.map (λk=>(kget kvs₁ k).getD .none)))
   have mk₂:=mk₁.call (.of mk₁.bw kx2)
   have ne:l≠x:=hl.ne mk₁.inst
   refine st1 mk₂.inst (by rfl) (by exact Nat.le_of_ble_eq_true rfl) (fs':=MF.fs { m with mixed:=l }) (by rfl) ?_
   have mk₃:=mk₂.set (m':={ m with mixed:=l }) ((Kx.refl (λb=>b=x) _).up (.inl rfl)) (up_self ..) ⟨rfl,rfl,rfl,rfl,rfl⟩ mk₂.rest ⟨_,(up_ne ne).trans (up_self ..)⟩
   refine s8 _ _ _ _ _ _ _ ((ct₁.new hl).up mk₂.inst) mk₃ (mk₃.done hp₁ hnat ⟨?_,?_⟩)
   ·rw[h2];exact (up_ne ne).trans (up_self ..)
   ·rw[h2];exact h4
  ·rintro x' rest acc ρ τ₁ ⟨ks,ds,o,g₁,kvs₁,h1,h2,rfl,ct₁,mk₁,hp₁,rfl,h4,rt₁⟩
   refine ⟨rt₁,?_⟩
   obtain ⟨c,ks,rfl⟩:∃c r,ks=c :: r:=by induction ks using List.casesOn with|nil=>cases h1|cons c r=>exact ⟨c,r,rfl⟩
   rw[List.map_cons] at h1
   injection h1 with h1 h1'
   subst h1 h1'
   refine meth1 mk₁.bw.w (by rfl) (wf_none _ (dE rfl)) ?_
   refine IH mk₁.bw ((b_in name hn).2 c (by rw[h2];simp)) (um_lt hn hu e (by rw[mk₁.at_];rfl) mk₁.ext) (Nat.le_refl _) λa τ₂ g₂ kvs₂ ct₂ bp ha=>?_
   have ld:ds.length≤1:=Nat.le_trans (by rw[h2,List.length_append];exact Nat.le_add_right _ _) (bmix_len name)
   refine ⟨by rw[List.length_map];exact Nat.le_trans ld (dE rfl),ks,ds ++ [c],some (.str c),g₂,kvs₂,rfl,by rw[h2];simp,by rfl,ct₂,mk₁.call bp,par_step bp.ext hp₁,?_,?_,?_⟩
   ·rw[List.map_append,List.map_singleton,ha]
    refine congrArg (· ++ _) (List.map_congr_left λk hk=>?_)
    obtain ⟨v,ev⟩:=Option.isSome_iff_exists.mp (h4 k hk)
    rw[ev,bp.ext _ _ ev]
   ·intro k hk
    rcases List.mem_append.mp hk with hk|hk
    ·obtain ⟨v,ev⟩:=Option.isSome_iff_exists.mp (h4 k hk)
     rw[bp.ext _ _ ev];rfl
    ·rw[List.mem_singleton.mp hk,ha];rfl
   ·refine rd_keep bp.kx ct₂ rt₁ ?_
    induction q:τ₁ t with
    |none=>exact .inr rfl
    |some o=>
     rw[rd_of q] at rt₁
     have eo:∃xs,o=.tup xs:=by
      induction o with
      |tup xs=>exact ⟨xs,rfl⟩
      |_=>cases rt₁
     obtain ⟨xs,rfl⟩:=eo
     refine .inl λz=>?_
     rcases z with z|z
     ·rw[z,mk₁.bw.w] at q;exact nC AO.ctorIdx (sJ q) rfl
     ·obtain ⟨l,rfl,_⟩:=mk₁.gs
      have:=mk₁.bw.md
      rw[z,this] at q;exact nC AO.ctorIdx (sJ q) rfl
 have s6:∀x dx m g' kvs' τ,Clean τ→MK σ τ wd dw g kvs name x dx m g' kvs'→m.native=.str name→m.parent=parV kvs' (bpar name)∧(∀p,bpar name=some p→(kget kvs' p).isSome=true)→fS prog w B (mst 71 7) (2 * k + 3) X 14 6 (.set (.set (.set (fL (mst 71 7) [.ref wd,.str name]) (S "is_class") (.bool (bisc name))) (S "found") (.ref x)) (S "parent") (optS (bpar name))) τ Q:=by
  intro x dx m g' kvs' τ ct mk hnat hp
  refine meth1 mk.bw.w (by rfl) (wf_none _ (dE rfl)) ?_
  have go:∀(c:Str) (P:AH→Prop),c∈[S "Class",S "Module"]→(∀m g' kvs' τ,Clean τ→MK σ τ wd dw g kvs name x dx m g' kvs'→m.native=.str name→m.parent=parV kvs' (bpar name)∧(∀p,bpar name=some p→(kget kvs' p).isSome=true)→P τ)→CallOK prog w B (2 * k + 3) 726 [.ref wd,.str c] τ (λv τ=>setAttrA (S "owner") (.ref x) v τ P) X:=by
   intro c P hc hP
   refine IH mk.bw (mem c hc) (um_lt hn hu e (by rw[mk.at_];rfl) mk.ext) (Nat.le_refl _) λa τ₂ g₂ kvs₂ ct₂ bp ha=>?_
   have mk₂:=mk.call bp
   refine st1 mk₂.inst (by rfl) (by exact Nat.le_of_ble_eq_true rfl) (fs':=MF.fs { m with owner:=.ref a }) (by rfl) ?_
   have mk₃:=mk₂.set (m':={ m with owner:=.ref a }) ((Kx.refl (λb=>b=x) _).up (.inl rfl)) (up_self ..) ⟨rfl,rfl,rfl,rfl,rfl⟩ mk₂.rest (by
    obtain ⟨l,hl⟩:=mk₂.mx
    exact ⟨l,(up_ne (ne_of_some hl mk₂.inst (by intro z;exact nC AO.ctorIdx z rfl))).trans hl⟩)
   exact hP _ _ _ _ (ct₂.up mk₂.inst) mk₃ hnat (par_step bp.ext hp)
  have s7:=s7 x dx
  induction hb:bisc name with
  |true=>rw[hb] at s7;exact go _ _ (.head _) s7
  |false=>rw[hb] at s7;exact go _ _ (.tail _ (.head _)) s7
 have s4:∀x dx m g' kvs' τ,Clean τ→MK σ τ wd dw g kvs name x dx m g' kvs'→m.native=.str name→fS prog w B (mst 71 7) (2 * k + 3) X 16 4 (.set (.set (fL (mst 71 7) [.ref wd,.str name]) (S "is_class") (.bool (bisc name))) (S "found") (.ref x)) τ Q:=by
  intro x dx m g' kvs' τ ct mk hnat
  refine ⟨_,(rd_so ct rfl).trans so658,_,b_par name hn,?_⟩
  have s6:=s6 x dx
  have par:∀v τ g' kvs' (P:AH→Prop),Clean τ→MK σ τ wd dw g kvs name x dx m g' kvs'→v=parV kvs' (bpar name)∧(∀p,bpar name=some p→(kget kvs' p).isSome=true)→(∀m g' kvs' τ,Clean τ→MK σ τ wd dw g kvs name x dx m g' kvs'→m.native=.str name→m.parent=parV kvs' (bpar name)∧(∀p,bpar name=some p→(kget kvs' p).isSome=true)→P τ)→setAttrA (S "parent") (.ref x) v τ P:=by
   intro v τ g' kvs' P ct mk hp hP
   refine st1 mk.inst (by rfl) (by exact Nat.le_of_ble_eq_true rfl) (fs':=MF.fs { m with parent:=v }) (by rfl) ?_
   have mk₃:=mk.set (m':={ m with parent:=v }) ((Kx.refl (λb=>b=x) _).up (.inl rfl)) (up_self ..) ⟨rfl,rfl,rfl,rfl,rfl⟩ mk.rest (by
    obtain ⟨l,hl⟩:=mk.mx
    exact ⟨l,(up_ne (ne_of_some hl mk.inst (by intro z;exact nC AO.ctorIdx z rfl))).trans hl⟩)
   exact hP _ _ _ _ (ct.up mk.inst) mk₃ hnat hp
  induction hb:bpar name with
  |none=>
   rw[hb] at s6 par
   exact par _ _ _ _ _ ct mk ⟨rfl,λp h=>by exact nn h⟩ s6
  |some p=>
   rw[hb] at s6 par
   refine meth1 mk.bw.w (by rfl) (wf_none _ (dE rfl)) ?_
   refine IH mk.bw ((b_in name hn).1 p hb) (um_lt hn hu e (by rw[mk.at_];rfl) mk.ext) (Nat.le_refl _) λa τ₂ g₂ kvs₂ ct₂ bp ha=>?_
   exact par _ _ _ _ _ ct₂ (mk.call bp) ⟨by unfold parV;dsimp only;rw[ha];rfl,λq h=>by (have h:=sJ h;subst h);rw[ha];rfl⟩ s6
 have s1:∀b,b=bisc name→fS prog w B (mst 71 7) (2 * k + 3) X 19 1 (.set (fL (mst 71 7) [.ref wd,.str name]) (S "is_class") (.bool b)) σ Q:=by
  rintro b rfl
  refine meth1 bw.w (by rfl) (wf_none g (.head _)) ?_
  refine c_number kit bw.w ?_
  refine CallOK.post ?_
  refine c_newMod5 kit λx dx f me co mi ah τ nm ct=>?_
  refine at1 (nm.kx _ _ (up_self ..) not_false) (by rfl) (wf_made _) ?_
  have mk:=MK.start bw hn e rfl nm
  have md:τ g.made=some (.sdict kvs):=nm.kx _ _ ((up_ne (ne_of_some bw.md bw.w (by intro z;exact nC AO.ctorIdx z rfl))).trans bw.md) not_false
  refine si1 md (bw_len bw) (kput_snoc e) ?_
  refine st1 mk.inst (by rfl) (by exact Nat.le_of_ble_eq_true rfl) (fs':=MF.fs ⟨g.last + 1,.none,f,.none,false,.none,.str name,bisc name,.none,.none,me,co,mi,ah,.none,.str name,.none⟩) (by rfl) ?_
  refine s4 x dx _ _ _ _ ((ct.up md).up mk.inst) (mk.set ((Kx.refl (λb=>b=x) _).up (.inl rfl)) (up_self ..) ⟨rfl,rfl,rfl,rfl,rfl⟩ ⟨rfl,rfl,rfl,rfl,rfl,rfl⟩ ?_) rfl
  obtain ⟨l,hl⟩:=mk.mx
  exact ⟨l,(up_ne (ne_of_some hl mk.inst (by intro z;exact nC AO.ctorIdx z rfl))).trans hl⟩
 exact eq1 (mod_in cl hn) (s1 _ (Bool.not_not _))
theorem c_builtin (kit:Kit prog w K B) {wd dw:Addr}:∀k,BuiltinOK prog w B wd dw k
 |k,X,σ,g,kvs,n,Q,d + 1,bw,hn,hu,hd,h=>by
  refine .clean λcl=>?_
  refine callFn (n:=20) kit.gd kit.snd (kit.fns 44) ?_
  refine at1 bw.w (by rfl) (wf_made g) ?_
  refine ⟨⟨kvs,rd_of bw.md⟩,kvs,rd_of bw.md,?_⟩
  induction e:kget kvs n with
  |some v=>
   obtain ⟨_,a,_,_,rfl,_⟩:=bw.mods n v e
   exact h a σ g kvs cl (.refl bw) e
  |none=>
   match k,hu,hd with
   |0,hu,hd=>
    have m:n∈bnm.filter λn=>(kget kvs n).isNone:=List.mem_filter.mpr ⟨hn,by refine rE e ?_;rfl⟩
    have:=List.length_pos_of_mem m
    unfold um at hu
    lia
   |k + 1,hu,hd=>
    refine meth1 bw.w (by rfl) (wf_none g (dE rfl)) ?_
    refine CallOK.more (c_make kit (c_builtin kit k) bw hn e hu h) (show 2 * k + 3 + 1≤d by lia)
 |k,X,σ,g,kvs,n,Q,0,bw,hn,hu,hd,h=>by lia
theorem um_le (kvs:List (Str×AV)):um kvs≤13:=List.length_filter_le _ _
noncomputable abbrev BD:Nat:=29
theorem c_blt (kit:Kit prog w K B) {wd dw:Addr} {d:Nat} {g:WF} {kvs:List (Str×AV)} {n:Str} (bw:BW σ wd dw g kvs) (hn:n∈bnm) (hd:BD≤d)
 (h:∀a τ g' kvs',Clean τ→BP σ τ wd dw g kvs g' kvs'→kget kvs' n=some (.ref a)→Q (.ref a) τ):CallOK prog w B d 726 [.ref wd,.str n] σ Q X:=c_builtin kit 13 bw hn (um_le kvs) hd h
theorem BP.num {wd dw:Addr} {g:WF} {kvs:List (Str×AV)} (bw:BW σ wd dw g kvs):BP σ (up σ wd (.inst 924 dw (WF.fs { g with last:=g.last + 1 }))) wd dw g kvs { g with last:=g.last + 1 } kvs:=by
 have le:g.last≤g.last + 1:=Int.le_add_of_nonneg_right (dE rfl)
 have o1:∀{b o},σ b=some o→b≠wd→up σ wd (.inst 924 dw (WF.fs { g with last:=g.last + 1 })) b=some o:=λh n=>(up_ne n).trans h
 have wne:∀{b d m},σ b=some (.inst 228 d (MF.fs m))→b≠wd:=λh z=>by rw[z,bw.w] at h;cases h
 refine ⟨⟨up_self ..,o1 bw.md (ne_of_some bw.md bw.w (by intro z;exact nC AO.ctorIdx z rfl)),o1 bw.nat (ne_of_some bw.nat bw.w (by intro z;exact nC AO.ctorIdx z rfl)),o1 bw.pre (ne_of_some bw.pre bw.w (by intro z;exact nC AO.ctorIdx z rfl)),bw.natp,λn v e=>?_,λn n' a a' d d' m m' e e' i i' q=>?_,bw.nd⟩,
  (Kx.refl _ _).up (.inl (.inl rfl)),⟨_,rfl,le⟩,λ_ _ e=>e,λn e h=>by rw[e] at h;cases h⟩
 ·obtain ⟨hn,a,d,m,rfl,i,r,l⟩:=bw.mods n v e
  exact ⟨hn,a,d,m,rfl,o1 i (wne i),r,Int.le_trans l le⟩
 ·obtain ⟨_,b,_,m1,eb,j,_⟩:=bw.mods n _ e
  (have eb:=rJ eb;subst eb)
  obtain ⟨_,b',_,m2,eb,j',_⟩:=bw.mods n' _ e'
  (have eb:=rJ eb;subst eb)
  rw[up_ne (wne j)] at i
  rw[up_ne (wne j')] at i'
  exact bw.inj n n' a a' _ _ _ _ e e' i i' q
theorem c_num (kit:Kit prog w K B) {d:Nat} {wd dw:Addr} {g:WF} {kvs:List (Str×AV)} (bw:BW σ wd dw g kvs)
 (h:∀τ,Clean τ→BP σ τ wd dw g kvs { g with last:=g.last + 1 } kvs→Q (.int (g.last + 1)) τ):CallOK prog w B (d + 1) 705 [.ref wd] σ Q X:=by
 refine CallOK.post ?_
 exact c_number kit bw.w λc=>h _ c (.num bw)
theorem c_text (kit:Kit prog w K B) {d:Nat} {wd dw:Addr} {g:WF} {kvs:List (Str×AV)} {tx:AV} (bw:BW σ wd dw g kvs)
 (h:∀a τ g' kvs',Clean τ→BP σ τ wd dw g kvs g' kvs'→Q (.ref a) τ):CallOK prog w B (30 + d) 788 [.ref wd,tx] σ Q X:=by
 refine rE (Nat.add_comm _ _) ?_
 refine callFn (n:=20) (d:=d + 29) kit.gd kit.snd (kit.fns 51) ?_
 refine meth1 bw.w (by rfl) (wf_none g (dE rfl)) ?_
 refine c_num kit bw λτ₁ c₁ b₁=>?_
 refine meth1 b₁.bw.w (by rfl) (wf_none _ (dE rfl)) ?_
 refine c_blt kit b₁.bw (dE rfl) (Nat.le_add_left _ _) λa τ₂ g₂ kvs₂ c₂ b₂ e₂=>?_
 refine CallOK.post ?_
 refine callCls kit.gd kit.ini (dE rfl) λx dx hx _ _=>c_textI kit λf hf ne=>⟨rfl,λc₃=>?_⟩
 refine h x _ _ _ c₃ ((b₁.trans b₂).trans (.of b₂.bw (((Kx.refl _ _).up (.inr hf.no)).up (.inr ?_))))
 refine rE (up_ne ne.symm) ?_;exact hx.no
theorem c_error (kit:Kit prog w K B) {d:Nat} {wd dw:Addr} {g:WF} {kvs:List (Str×AV)} {n:Str} {tx:AV} (bw:BW σ wd dw g kvs) (hn:n∈bnm)
 (h:∀x dx i f tx τ g' kvs' a,Clean τ→BP σ τ wd dw g kvs g' kvs'→kget kvs' n=some (.ref a)→τ x=some (.inst 181 dx (tfs i (.ref a) f ++ [(Str.ofString "message",tx),(Str.ofString "cause",.none)]))→Q (.ref x) τ):CallOK prog w B (d + 31) 851 [.ref wd,.str n,tx] σ Q X:=by
 refine callFn (n:=20) (d:=d + 30) kit.gd kit.snd (kit.fns 52) ?_
 refine meth1 bw.w (by rfl) (wf_none g (dE rfl)) ?_
 refine c_num kit bw λτ₁ c₁ b₁=>?_
 refine meth1 b₁.bw.w (by rfl) (wf_none _ (dE rfl)) ?_
 refine c_blt kit b₁.bw hn (Nat.le_trans (dE rfl:BD≤30) (Nat.le_add_left _ _)) λa τ₂ g₂ kvs₂ c₂ b₂ e₂=>?_
 refine meth1 b₂.bw.w (by rfl) (wf_none _ (dE rfl)) ?_
 show CallOK prog w B (d + 30) 788 _ _ _ _
 refine rE (Nat.add_comm _ _) ?_
 refine c_text kit b₂.bw λt τ₃ g₃ kvs₃ c₃ b₃=>?_
 refine CallOK.post ?_
 refine rE (Nat.add_comm _ _) ?_
 refine callCls kit.gd kit.ini (dE rfl) λx dx hx _ _=>c_errorI kit λf hf ne=>⟨rfl,λc₄=>?_⟩
 refine h x dx _ f _ _ _ _ a c₄ (((b₁.trans b₂).trans b₃).trans (.of b₃.bw (((Kx.refl _ _).up (.inr hf.no)).up (.inr ?_)))) (b₃.ext _ _ e₂) (up_self ..)
 refine rE (up_ne ne.symm) ?_;exact hx.no
theorem c_fail (kit:Kit prog w K B) {d:Nat} {wd dw:Addr} {g:WF} {kvs:List (Str×AV)} {n:Str} {tx:AV} (bw:BW σ wd dw g kvs) (hn:n∈bnm)
 (h:∀v τ g' kvs',Clean τ→BP σ τ wd dw g kvs g' kvs'→(∀P:Post,P (.str n) τ→attrA (Str.ofString "owner") v τ λc σ=>attrA (Str.ofString "name") c σ P)→X v τ):CallOK prog w B (d + 32) 858 [.ref wd,.str n,tx] σ Q X:=by
 refine callFn (n:=20) (d:=d + 31) kit.gd kit.snd (kit.fns 53) ?_
 refine ⟨Nat.le_add_left 3 (d + 28),?_⟩
 refine meth1 bw.w (by rfl) (wf_none g (dE rfl)) ?_
 refine c_error kit bw hn λx dx i f tx τ g' kvs' a c b e ex=>?_
 refine h _ _ _ _ c b λP hP=>?_
 refine at1 ex (by rfl) (by rfl) ?_
 obtain ⟨_,a',d',m,ea,ia,nm,_⟩:=b.bw.mods n _ e
 (have ea:=rJ ea;subst ea)
 exact at1 ia (by rfl) (congrArg some nm) hP
end
set_option genCtorIdx false in
inductive NdP (u:Unit) where
 |M|N|A|B|T|O|K|X
noncomputable abbrev Nd:=NdP ()
noncomputable def NdP.ctorIdx {u:Unit} (n:NdP u):Nat:=n.casesOn 0 1 2 3 4 5 6 7
noncomputable def NdP.inv (n:Nat):Nd:=n.casesOn .M λn=>n.casesOn .N λn=>n.casesOn .A λn=>n.casesOn .B λn=>n.casesOn .T λn=>n.casesOn .O λn=>n.casesOn .K λ_=>.X
theorem NdP.inv_ (n:Nd):NdP.inv n.ctorIdx=n:=by induction n<;>rfl
noncomputable instance:DecidableEq Nd:=λa b=>decidable_of_iff (a.ctorIdx=b.ctorIdx) ⟨λh=>(NdP.inv_ a).symm.trans ((congrArg NdP.inv h).trans (NdP.inv_ b)),congrArg _⟩
section
variable {α:Type} [DecidableEq α]
noncomputable def ol (mx ah:α→List α):Nat→α→List α
 |0,_=>[]
 |n + 1,a=>(ah a).reverse.flatMap (ol mx ah n) ++ a :: (mx a).reverse.flatMap (ol mx ah n)
noncomputable def olE (mx ah:α→List α) (n:Nat) (a:α):List α:=(ah a).reverse.flatMap (ol mx ah n)
noncomputable def olR (mx ah:α→List α) (n:Nat) (a:α):List α:=a :: (mx a).reverse.flatMap (ol mx ah n)
theorem ol_succ (mx ah:α→List α) (n:Nat) (a:α):ol mx ah (n + 1) a=olE mx ah n a ++ olR mx ah n a:=rfl
noncomputable def mfold (b:List α):List (α×Bool)→List α→List α
 |[],f=>f
 |(x,e) :: r,f=>if !f.contains x && (e || !b.contains x) then mfold b r (f ++ [x]) else mfold b r f
noncomputable def pts (mx ah:α→List α) (n:Nat) (a:α):List (α×Bool):=(olE mx ah n a).map (·,true) ++ (olR mx ah n a).map (·,false)
noncomputable def over (f b:List α):List α:=f ++ b.filter λx=>!f.contains x
noncomputable def line (par:α→Option α) (mx ah:α→List α):Nat→α→List α
 |0,_=>[]
 |k + 1,a=>over (mfold (match par a with|none=>[]|some p=>line par mx ah k p) (pts mx ah 2 a) []) (match par a with|none=>[]|some p=>line par mx ah k p)
theorem line_s {par:α→Option α} {mx ah:α→List α} {k:Nat} {a:α}:line par mx ah (k + 1) a=over (mfold (match par a with|none=>[]|some p=>line par mx ah k p) (pts mx ah 2 a) []) (match par a with|none=>[]|some p=>line par mx ah k p):=rfl
end
structure En where
 mark:Int
 name:Str
 owner:Nd
 sight:Str
structure Gs where
 mx:Nd→List Nd
 ah:Nd→List Nd
 fz:Nd→Bool
 df:Nd→Str→Option (Option En)
 kept:Nd→AV
 g:WF
 made:List (Str×AV)
structure Ly where
 wd:Addr
 dw:Addr
 at_:Nd→Addr
 dx:Nd→Addr
 mf:Nd→MF
 th:Addr
 dth:Addr
noncomputable def Ly.ref (L:Ly) (n:Nd):AV:=.ref (L.at_ n)
noncomputable def parG:Nd→Option Nd
 |.A=>some .O
 |.B=>some .A
 |.T=>some .B
 |.O=>some .X
 |_=>none
noncomputable def optR (L:Ly):Option Nd→AV
 |none=>.none
 |some n=>L.ref n
noncomputable def natG:Nd→AV
 |.O=>.str "Object"
 |.K=>.str "Kernel"
 |.X=>.str "BasicObject"
 |_=>.none
noncomputable def namG:Nd→AV
 |.M=>.str "M"
 |.N=>.str "N"
 |.A=>.str "A"
 |.B=>.str "B"
 |.T=>.none
 |n=>natG n
set_option backward.match.sparseCases false in
noncomputable def iscG:Nd→Bool
 |.M=>false
 |.N=>false
 |.K=>false
 |_=>true
noncomputable def subs (s:Gs) (n:Nd):List Nd:=s.ah n ++ s.mx n
noncomputable def spot (n:Nd):Prop:=n≠.O∧n≠.K∧n≠.X
structure LOK (L:Ly):Prop where
 num:∀n m,(L.mf n).num=(L.mf m).num→n=m
 par:∀n,(L.mf n).parent=optR L (parG n)
 nat:∀n,(L.mf n).native=natG n
 nam:∀n,(L.mf n).name=namG n
 isc:∀n,(L.mf n).isc=iscG n
 att:∀n,(L.mf n).attached=if n=.T then .ref L.th else .none
 out:∀n,(L.mf n).outer=.none
 me:∀n m,spot m→(L.mf n).meths=(L.mf m).meths→n=m
 mx:∀n m,spot m→(L.mf n).mixed=(L.mf m).mixed→n=m
 ah:∀n m,spot m→(L.mf n).ahead=(L.mf m).ahead→n=m
 mxah:∀n m,spot n∨spot m→(L.mf n).mixed≠(L.mf m).ahead
structure SOK (s:Gs):Prop where
 sub:∀n m,m∈subs s n→m=.M∨m=.N∨(n=.O∧m=.K)
 nd:∀n,(s.mx n).Nodup∧(s.ah n).Nodup
 acy:.M∉subs s .M∧.N∉subs s .N∧(.N∉subs s .M∨.M∉subs s .N)
 o:s.mx .O=[.K]∧s.ah .O=[]
 kx:subs s .K=[]∧subs s .X=[]
 df:∀n,n=.O∨n=.K∨n=.X→∀k,s.df n k=none
noncomputable def Gs.mf (L:Ly) (s:Gs) (n:Nd):MF:={ L.mf n with frozen:=s.fz n,kept:=s.kept n }
noncomputable def efs (L:Ly) (E:En) (nest:AV):List (Str×AV):=[("name",.str E.name),("owner",L.ref E.owner),("sort",.str "tree"),("params",.none),("body",.int E.mark),("sight",.str E.sight),("nesting",nest),("code",.none)]
inductive EnAt (L:Ly) (σ:AH) (E:En) (v:AV):Prop
 |mk (e d:Addr) (nest:AV) (q:v=.ref e) (h:σ e=some (.inst 256 d (efs L E nest))):EnAt L σ E v
inductive NoAt (σ:AH) (v:AV) (x:Str):Prop
 |mk (e d:Addr) (fs:List (Str×AV)) (q:v=.ref e) (h:σ e=some (.inst 256 d fs)) (k:kget fs "sort"=some (.str x)):NoAt σ v x
noncomputable def enR (L:Ly) (σ:AH) (o:Option En) (v:AV):Prop:=match o with
 |none=>v=.none
 |some E=>EnAt L σ E v
noncomputable def deR (L:Ly) (σ:AH) (o:Option En) (v:AV):Prop:=match o with
 |none=>NoAt σ v "none"
 |some E=>EnAt L σ E v
noncomputable def fg:List Str:=["f","g"]
structure DictR (R:Option En→AV→Prop) (kvs:List (Str×AV)) (df:Str→Option (Option En)):Prop where
 nd:(kvs.map (·.1)).Nodup
 keys:∀k∈kvs.map (·.1),k∈fg
 at_:∀k,(df k=none∧kget kvs k=none)∨∃o v,df k=some o∧kget kvs k=some v∧R o v
noncomputable abbrev lineG (s:Gs) (n:Nd):List Nd:=line parG s.mx s.ah 5 n
noncomputable def GA (L:Ly) (s:Gs) (b:Addr):Prop:=b=L.wd∨b=s.g.made∨∃n,b=L.at_ n∨b=(L.mf n).meths∨b=(L.mf n).mixed∨b=(L.mf n).ahead
inductive DfAt (R:Option En→AV→Prop) (σ:AH) (a:Addr) (df:Str→Option (Option En)):Prop
 |mk (kvs:List (Str×AV)) (h:σ a=some (.sdict kvs)) (r:DictR R kvs df):DfAt R σ a df
inductive ThgAt (L:Ly) (σ:AH):Prop
 |mk (d:Addr) (i:Int) (f:Addr) (h:σ L.th=some (.inst 40 d [("number",.int i),("owner",L.ref .B),("fields",.ref f),("own",L.ref .T),("frozen",.bool false),("ident",.none)])):ThgAt L σ
structure GI (L:Ly) (Z:Addr→Prop) (s:Gs) (σ:AH):Prop where
 lok:LOK L
 sok:SOK s
 bw:BW σ L.wd L.dw s.g s.made
 bo:kget s.made "Object"=some (L.ref .O)
 mod:∀n,σ (L.at_ n)=some (.inst 228 (L.dx n) (MF.fs (s.mf L n)))
 mxd:∀n,σ (L.mf n).mixed=some (.list ((s.mx n).map L.ref))
 ahd:∀n,σ (L.mf n).ahead=some (.list ((s.ah n).map L.ref))
 met:∀n,DfAt (deR L σ) σ (L.mf n).meths (s.df n)
 mem:∀n,(L.mf n).meths≠s.g.made
 nap:∀n,spot n→(L.mf n).meths≠s.g.nat∧(L.mf n).meths≠s.g.pre
 kp:∀n,s.kept n=.none∨∃t v q,s.kept n=.ref t∧σ t=some (.tup [.int v,.ref q])∧v≤s.g.ver∧(v=s.g.ver→σ q=some (.list ((lineG s n).map L.ref))∧¬Z q∧¬GA L s q)
 thg:ThgAt L σ
 zs:∀b,Z b→∃o,σ b=some o
 zg:∀b,Z b→¬GA L s b
section
variable {L:Ly} {Z:Addr→Prop} {s:Gs} {σ τ:AH}
theorem DictR.mono {R R':Option En→AV→Prop} {kvs df} (h:DictR R kvs df) (m:∀o v,R o v→R' o v):DictR R' kvs df:=
 ⟨h.nd,h.keys,λk=>(h.at_ k).imp id λzz=>xEEAA zz λo v a b c=>⟨o,v,a,b,m _ _ c⟩⟩
theorem deR.keep {o:Option En} {v:AV} (h:deR L σ o v) (k:∀e d fs,σ e=some (.inst 256 d fs)→τ e=some (.inst 256 d fs)):deR L τ o v:=by
 induction o with
 |none=>obtain ⟨e,d,fs,a,b,c⟩:=h;exact ⟨e,d,fs,a,k _ _ _ b,c⟩
 |some E=>obtain ⟨e,d,nest,a,b⟩:=h;exact ⟨e,d,nest,a,k _ _ _ b⟩
theorem enR.keep {o:Option En} {v:AV} (h:enR L σ o v) (k:∀e d fs,σ e=some (.inst 256 d fs)→τ e=some (.inst 256 d fs)):enR L τ o v:=by
 induction o with
 |none=>exact h
 |some E=>obtain ⟨e,d,nest,a,b⟩:=h;exact ⟨e,d,nest,a,k _ _ _ b⟩
theorem GI.kind (g:GI L Z s σ) {b:Addr} (h:GA L s b):∃o,σ b=some o∧(∀d fs,o≠.inst 256 d fs)∧(∀xs,o≠.tup xs):=by
 rcases h with rfl|rfl|⟨n,rfl|rfl|rfl|rfl⟩
 ·exact iEAA _ g.bw.w (λ_ _ z=>(by cases z)) (λ_ z=>(by exact nC AO.ctorIdx z rfl))
 ·exact iEAA _ g.bw.md (λ_ _ z=>(by exact nC AO.ctorIdx z rfl)) (λ_ z=>(by exact nC AO.ctorIdx z rfl))
 ·exact iEAA _ (g.mod n) (λ_ _ z=>(by cases z)) (λ_ z=>(by exact nC AO.ctorIdx z rfl))
 ·obtain ⟨kvs,h,_⟩:=g.met n
  exact iEAA _ h (λ_ _ z=>(by exact nC AO.ctorIdx z rfl)) (λ_ z=>(by exact nC AO.ctorIdx z rfl))
 ·exact iEAA _ (g.mxd n) (λ_ _ z=>(by exact nC AO.ctorIdx z rfl)) (λ_ z=>(by exact nC AO.ctorIdx z rfl))
 ·exact iEAA _ (g.ahd n) (λ_ _ z=>(by exact nC AO.ctorIdx z rfl)) (λ_ z=>(by exact nC AO.ctorIdx z rfl))
theorem GI.keep (g:GI L Z s σ) (kx:Kx NoS σ τ):GI L Z s τ:=by
 refine ⟨g.lok,g.sok,g.bw.keep kx,g.bo,λn=>kx _ _ (g.mod n) not_false,λn=>kx _ _ (g.mxd n) not_false,λn=>kx _ _ (g.ahd n) not_false,λn=>?_,g.mem,g.nap,λn=>?_,?_,λb z=>?_,g.zg⟩
 ·obtain ⟨kvs,h,d⟩:=g.met n
  exact ⟨kvs,kx _ _ h not_false,d.mono λo v h=>h.keep λe d fs he=>kx _ _ he not_false⟩
 ·rcases g.kp n with h|⟨t,v,q,h1,h2,h3,h4⟩
  ·exact .inl h
  ·exact .inr ⟨t,v,q,h1,kx _ _ h2 not_false,h3,λe=>⟨kx _ _ (h4 e).1 not_false,(h4 e).2⟩⟩
 ·obtain ⟨d,i,f,h⟩:=g.thg
  exact ⟨d,i,f,kx _ _ h not_false⟩
 ·obtain ⟨o,e⟩:=g.zs b z
  exact ⟨o,kx _ _ e not_false⟩
theorem GI.bp (g:GI L Z s σ) {g':WF} {kvs':List (Str×AV)} (p:BP σ τ L.wd L.dw s.g s.made g' kvs'):GI L Z { s with g:=g',made:=kvs' } τ:=by
 obtain ⟨l,e,_⟩:=p.gs
 have ev:g'.ver=s.g.ver:=by exact rE e rfl
 have ga:∀b,GA L { s with g:=g',made:=kvs' } b↔GA L s b:=λb=>by unfold GA;dsimp only;rw[e]
 have kp:∀{b o},σ b=some o→(∀d fs,o≠.inst 924 d fs)→b≠s.g.made→τ b=some o:=λ{b o} h1 h2 h3=>p.kx _ _ h1 λz=>by
  rcases z with rfl|z
  ·rw[g.bw.w] at h1;(have h1:=sJ h1;subst h1);exact h2 _ _ rfl
  ·exact h3 z
 have md:∀{b o},σ b=some o→(∀xs,o≠.sdict xs)→b≠s.g.made:=λh1 h2 z=>by rw[z,g.bw.md] at h1;(have h1:=sJ h1;subst h1);exact h2 _ rfl
 refine ⟨g.lok,⟨g.sok.1,g.sok.2,g.sok.3,g.sok.4,g.sok.5,g.sok.6⟩,p.bw,p.ext _ _ g.bo,λn=>kp (g.mod n) ((λ_ _ z=>(by cases z))) (md (g.mod n) (λ_ z=>(by exact nC AO.ctorIdx z rfl))),λn=>kp (g.mxd n) ((λ_ _ z=>(by exact nC AO.ctorIdx z rfl))) (md (g.mxd n) (λ_ z=>(by exact nC AO.ctorIdx z rfl))),
  λn=>kp (g.ahd n) ((λ_ _ z=>(by exact nC AO.ctorIdx z rfl))) (md (g.ahd n) (λ_ z=>(by exact nC AO.ctorIdx z rfl))),λn=>?_,λn=>by refine rE e ?_;exact g.mem n,λn=>by rw[e];exact g.nap n,λn=>?_,?_,λb z=>?_,λb z q=>g.zg b z ((ga b).mp q)⟩
 ·obtain ⟨kvs,h,d⟩:=g.met n
  exact ⟨kvs,kp h ((λ_ _ z=>(by exact nC AO.ctorIdx z rfl))) (g.mem n),d.mono λo v h=>h.keep λe d fs he=>kp he ((λ_ _ z=>(by cases z))) (md he (λ_ z=>(by exact nC AO.ctorIdx z rfl)))⟩
 ·rcases g.kp n with h|⟨t,v,q,h1,h2,h3,h4⟩
  ·exact .inl h
  ·refine .inr ⟨t,v,q,h1,kp h2 ((λ_ _ z=>(by exact nC AO.ctorIdx z rfl))) (md h2 (λ_ z=>(by exact nC AO.ctorIdx z rfl))),by show v≤g'.ver;refine rE ev ?_;exact h3,λe'=>?_⟩
   refine xAA (h4 (e'.trans ev)) λk1 k2 k3=>?_
   exact iAA (kp k1 ((λ_ _ z=>(by exact nC AO.ctorIdx z rfl))) (md k1 (λ_ z=>(by exact nC AO.ctorIdx z rfl)))) k2 (λz=>k3 ((ga q).mp z))
 ·obtain ⟨d,i,f,h⟩:=g.thg
  exact ⟨d,i,f,kp h ((λ_ _ z=>(by cases z))) (md h (λ_ z=>(by exact nC AO.ctorIdx z rfl)))⟩
 ·obtain ⟨o,e⟩:=g.zs b z
  exact ⟨o,p.kx _ _ e λq=>g.zg b z (q.elim .inl λq=>.inr (.inl q))⟩
end
noncomputable def Loc.put:Loc→Str→Option AV→Loc
 |[],_,_=>[]
 |(y,o) :: r,x,v=>bif x == y then (y,v) :: r else (y,o) :: Loc.put r x v
section
variable {prog:Program} {w:World} {K:Frag} {B:Heap} {σ τ:AH} {Q X:Post} {L:Ly} {Z:Addr→Prop} {s:Gs}
theorem c_sort (kit:Kit prog w K B) {d:Nat} {a D dd:Addr} {fs:List (Str×AV)} (h:σ a=some (.inst D dd fs)) (hi:(isa D 0).isSome=true) (q:Q (.str (S "thing")) σ):CallOK prog w B (d + 1) 267 [.ref a] σ Q X:=by
 refine callFn (n:=20) kit.gd kit.snd (kit.fns 0) ?_
 refine isi0 h hi ?_
 refine isi0 h hi ?_
 exact isi0 h hi q
theorem GI.num (g:GI L Z s σ) (n:Nd):kget (MF.fs (s.mf L n)) "number"=some (.int (L.mf n).num):=rfl
theorem c_same (kit:Kit prog w K B) {d:Nat} {n m:Nd} (g:GI L Z s σ) (q:Q (.bool (decide (n=m))) σ):CallOK prog w B (d + 2) 274 [L.ref n,L.ref m] σ Q X:=by
 refine callFn (n:=20) (d:=d + 1) kit.gd kit.snd (kit.fns 1) ?_
 refine c_sort kit (g.mod n) (by rfl) ?_
 refine c_sort kit (g.mod m) (by rfl) ?_
 refine eq1 (r:=true) (by rfl) ?_
 refine eq1 (r:=true) (by rfl) ?_
 refine at1 (g.mod n) (by rfl) (g.num n) ?_
 refine at1 (g.mod m) (by rfl) (g.num m) ?_
 refine eq1 (r:=decide (n=m)) ?_ q
 show some (decide ((L.mf n).num=(L.mf m).num))=_
 rw[decide_eq_decide.mpr ⟨g.lok.num n m,λe=>by rw[e]⟩]
theorem c_has (kit:Kit prog w K B) {d:Nat} {t:Addr} {ns:List Nd} {y:Nd} (g:GI L Z s σ) (ht:rd σ t=some (.list (ns.map L.ref))) (hl:ns.length≤1000)
 (h:Q (.bool (ns.contains y)) σ):CallOK prog w B (d + 3) 368 [.ref t,L.ref y] σ Q X:=by
 refine callFn (n:=20) (d:=d + 2) kit.gd kit.snd (kit.fns 5) ?_
 refine .inl ⟨_,ht,by refine rE (List.length_map _) ?_;lia,?_⟩
 refine for_map (f:=L.ref) (xs:=ns) (λo _=>(fL (fst 31) [.ref t,L.ref y]).put (S "thing") o) (λ_ bs τ=>σ=τ∧ns.contains y=bs.contains y) none none rfl (by rfl) ⟨rfl,rfl⟩ (λo _ τ c=>?_) λds b bs o _ τ hx c=>?_
 ·obtain ⟨rfl,ha⟩:=c
  refine ⟨ht,?_⟩
  rw[ha] at h
  exact h
 ·obtain ⟨rfl,ha⟩:=c
  refine ⟨ht,?_⟩
  refine c_same kit g ?_
  have e:(y == b)=decide (b=y):=decide_eq_decide.mpr eq_comm
  induction q:decide (b=y) with
  |true=>
   rw[ha,List.contains_cons,e,q] at h
   exact h
  |false=>
   refine FMap.next hx (some (L.ref b)) none (by rfl) ⟨rfl,?_⟩
   (refine rE ha ?_;refine rE List.contains_cons ?_;refine rE e ?_;refine rE q ?_);rfl
theorem Kx.upr {S:Addr→Prop} {ρ:AH} {a:Addr} {o:AO} (x:Kx S ρ σ) (h:ρ a=none):Kx S ρ (Internal.up σ a o):=λb o' e n=>by
 refine rE (up_ne (λz=>by rw[z,h] at e;exact nn e)) ?_;exact x b o' e n
theorem Kx.none {S:Addr→Prop} {ρ:AH} {a:Addr} (x:Kx S ρ σ) (h:σ a=none) (n:¬S a):ρ a=none:=by
 induction e:ρ a with
 |none=>rfl
 |some o=>rw[x _ _ e n] at h;exact nS h
theorem two_of {l:List Nd} (h:∀m∈l,m=.M∨m=.N) (nd:l.Nodup):l.length≤2:=by
 have:l ⊆ [.M,.N]:=λm hm=>by rcases h m hm with rfl|rfl<;>simp
 exact List.Nodup.length_le_of_subset nd this
theorem SOK.two (h:SOK s) (n:Nd):(s.mx n).length≤2∧(s.ah n).length≤2:=by
 by_cases e:n=.O
 ·subst e
  (refine rE h.o.1 ?_;refine rE h.o.2 ?_)
  exact ⟨dE rfl,dE rfl⟩
 ·exact ⟨two_of (λm hm=>(h.sub n m (List.mem_append_right _ hm)).imp id λz=>z.resolve_right λq=>e q.1) (h.nd n).1,
   two_of (λm hm=>(h.sub n m (List.mem_append_left _ hm)).imp id λz=>z.resolve_right λq=>e q.1) (h.nd n).2⟩
noncomputable def rkG (s:Gs):Nd→Nat
 |.K=>0
 |.X=>0
 |.M=>if .N∈subs s .M then 1 else 0
 |.N=>if .M∈subs s .N then 1 else 0
 |_=>2
theorem rk_le (s:Gs) (n:Nd):rkG s n≤2:=by
 induction n<;>unfold rkG<;>first|exact Nat.le_refl _|exact Nat.zero_le _|(dsimp only;split<;>lia)
theorem rk_lt (h:SOK s) {n m:Nd} (hm:m∈subs s n):rkG s m < rkG s n:=by
 have a:=h.acy
 have le1:∀c,c=.M∨c=.N→rkG s c≤1:=λc hc=>by rcases hc with rfl|rfl<;>(unfold rkG;dsimp only;split<;>lia)
 have k:=h.kx
 have low:∀c,c=.M∨c=.N→(c=.M∧.N∉subs s .M∨c=.N∧.M∉subs s .N)→rkG s c=0:=λc _ hc=>by
  rcases hc with ⟨rfl,z⟩|⟨rfl,z⟩<;>(unfold rkG;dsimp only;exact rE (if_neg z) rfl)
 induction n with
 |K=>rw[k.1] at hm;cases hm
 |X=>rw[k.2] at hm;cases hm
 |O=>
  have e:rkG s .O=2:=rfl
  refine rE e ?_
  rcases h.sub _ _ hm with z|z|⟨_,rfl⟩
  ·exact Nat.lt_succ_of_le (le1 _ (.inl z))
  ·exact Nat.lt_succ_of_le (le1 _ (.inr z))
  ·exact Nat.zero_lt_two
 |M=>
  rcases h.sub _ _ hm with rfl|rfl|⟨z,_⟩
  ·exact absurd hm a.1
  ·rewrite [low .N (.inr rfl) (.inr ⟨rfl,a.2.2.resolve_left λz=>z hm⟩)]
   show 0 < if _ then 1 else 0
   refine rE (if_pos hm) ?_;exact Nat.zero_lt_one
  ·exact nC NdP.ctorIdx z rfl
 |N=>
  rcases h.sub _ _ hm with rfl|rfl|⟨z,_⟩
  ·rewrite [low .M (.inl rfl) (.inl ⟨rfl,a.2.2.resolve_right λz=>z hm⟩)]
   show 0 < if _ then 1 else 0
   refine rE (if_pos hm) ?_;exact Nat.zero_lt_one
  ·exact absurd hm a.2.1
  ·exact nC NdP.ctorIdx z rfl
 |A=>rcases h.sub _ _ hm with z|z|⟨z,_⟩<;>first|exact Nat.lt_succ_of_le (le1 _ (.inl z))|exact Nat.lt_succ_of_le (le1 _ (.inr z))|exact nC NdP.ctorIdx z rfl
 |B=>rcases h.sub _ _ hm with z|z|⟨z,_⟩<;>first|exact Nat.lt_succ_of_le (le1 _ (.inl z))|exact Nat.lt_succ_of_le (le1 _ (.inr z))|exact nC NdP.ctorIdx z rfl
 |T=>rcases h.sub _ _ hm with z|z|⟨z,_⟩<;>first|exact Nat.lt_succ_of_le (le1 _ (.inl z))|exact Nat.lt_succ_of_le (le1 _ (.inr z))|exact nC NdP.ctorIdx z rfl
theorem flat_len {α:Type} {f:α→List α} {b:Nat} (h:∀a,(f a).length≤b):∀l:List α,(l.flatMap f).length≤l.length * b
 |[]=>Nat.zero_le _
 |a :: l=>by
  rw[List.flatMap_cons,List.length_append,List.length_cons,Nat.succ_mul]
  have:=h a;have:=flat_len h l;lia
noncomputable def olb:Nat→Nat
 |0=>0
 |k + 1=>1 + 4 * olb k
theorem ol_len (h:SOK s):∀(k:Nat) (n:Nd),(ol s.mx s.ah k n).length≤olb k
 |0,_=>Nat.zero_le _
 |k + 1,n=>by
  have t:=h.two n
  have e1:=flat_len (ol_len h k) (s.ah n).reverse
  have e2:=flat_len (ol_len h k) (s.mx n).reverse
  rw[List.length_reverse] at e1 e2
  have m1:=Nat.mul_le_mul_right (olb k) t.1
  have m2:=Nat.mul_le_mul_right (olb k) t.2
  show (_ ++ _ :: _).length≤1 + 4 * olb k
  (refine rE List.length_append ?_;refine rE List.length_cons ?_)
  lia
noncomputable abbrev OwnOK (prog:Program) (w:World) (B:Heap) (L:Ly) (Z:Addr→Prop) (s:Gs) (k:Nat):Prop:=∀{X:Post} {n:Nd} {σ:AH} {Q:Post} {d:Nat},GI L Z s σ→rkG s n < k→k < d→
 (∀l τ,Kx NoS σ τ→σ l=none→τ l=some (.list ((ol s.mx s.ah k n).map L.ref))→Q (.ref l) τ)→CallOK prog w B d 375 [L.ref n] σ Q X
theorem own_step {k:Nat} (IH:OwnOK prog w B L Z s k) {d:Nat} {f:Addr} {acc:List Nd} {b:Nd} {R:Post} (g:GI L Z s τ) (hf:τ f=some (.list (acc.map L.ref))) (hl:acc.length≤100) (hk:k≤3) (hb:rkG s b < k) (hd:k < d)
 (hQ:∀l τ,ExtI τ f l R→Q (.ref l) τ) (h:∀τ',Kx (λc=>c=f) τ τ'→τ' f=some (.list ((acc ++ ol s.mx s.ah k b).map L.ref))→R .none τ'):CallOK prog w B d 375 [L.ref b] τ Q X:=by
 refine IH g hb hd λl τ' kx nl hl'=>hQ _ _ ?_
 have ne:f≠l:=λz=>by rw[←z,hf] at nl;exact nS nl
 have b3:olb k≤21:=(dE rfl:∀k≤3,olb k≤21) k hk
 refine ⟨ne,_,_,kx _ _ hf not_false,rd_of hl',by rw[List.length_map];lia,by rw[List.length_map];have:=ol_len g.sok k b;lia,?_⟩
 refine h _ ((kx.mono λ_ z=>z.elim).up (.inl rfl)) ?_
 rw[up_self,List.map_append]
theorem c_own_line (kit:Kit prog w K B):∀k,k≤3→OwnOK prog w B L Z s k:=by
 intro k
 induction k with
 |zero=>intro _ X n σ Q d g hr hd h;exact absurd hr (Nat.not_lt_zero _)
 |succ k IH0=>
  intro hk X n σ Q d g hr hd h
  induction d using Nat.casesOn with
  |zero=>exact absurd hd (Nat.not_lt_zero _)
  |succ d=>
  have IH:OwnOK prog w B L Z s k:=IH0 (by lia)
  have lo:∀m,m∈subs s n→rkG s m < k:=λm hm=>Nat.lt_of_lt_of_le (rk_lt g.sok hm) (by lia)
  have b2:olb k≤5:=(dE rfl:∀k≤2,olb k≤5) k (Nat.le_of_succ_le_succ hk)
  have fl:∀l:List Nd,l.length≤2→(l.flatMap (ol s.mx s.ah k)).length≤10:=λl hl=>by
   have:=flat_len (ol_len g.sok k) l
   have:=Nat.mul_le_mul hl b2
   lia
  have two:=g.sok.two n
  refine callFn (n:=20) kit.gd kit.snd (kit.fns 6) ?_
  intro f τ hf e
  have kf:Kx NoS σ τ:=e▸(Kx.refl _ _).up (.inr hf.no)
  have tf:τ f=some (.list (([]:List Nd).map L.ref)):=by refine rE e ?_;exact up_self ..
  clear e
  have s3:∀(o:Option AV) τ,Kx NoS σ τ→τ f=some (.list ((olE s.mx s.ah k n ++ [n]).map L.ref))→fS prog w B (fst 32) d X 17 3 (((fL (fst 32) [L.ref n]).set (S "found") (.ref f)).put (S "one") o) τ Q:=by
   intro o τ kf tf
   refine at1 ((g.keep kf).mod n) (by rfl) (x:=.ref (L.mf n).mixed) (by rfl) ?_
   refine ⟨_,by refine rE (List.length_map _) ?_;exact Nat.le_trans two.1 (dE rfl:2≤100000),rd_of ((g.keep kf).mxd n),?_⟩
   intro sl τ₁ hs e
   have ks:Kx NoS τ τ₁:=e▸(Kx.refl _ _).up (.inr hs.no)
   have ne:sl≠f:=hs.ne tf
   have ts:τ₁ sl=some (.list ((s.mx n).map L.ref).reverse):=by refine rE e ?_;exact up_self ..
   refine .inl ⟨_,rd_of ts,by rw[List.length_reverse,List.length_map];exact Nat.le_trans two.1 (dE rfl:2≤100000),?_⟩
   refine for_map (f:=L.ref) (xs:=(s.mx n).reverse) (λo _=>((fL (fst 32) [L.ref n]).set (S "found") (.ref f)).put (S "one") o) (λds _ τ=>Kx NoS σ τ∧τ sl=some (.list ((s.mx n).map L.ref).reverse)∧τ f=some (.list ((olE s.mx s.ah k n ++ [n] ++ ds.flatMap (ol s.mx s.ah k)).map L.ref))) o none (by refine rE List.map_reverse ?_;rfl) (by rfl)
    ⟨kf.trans ks,ts,by rw[List.flatMap_nil,List.append_nil];exact ks _ _ tf not_false⟩ (λo _ τ₂ c=>?_) λds b bs o _ τ₂ h2 c=>?_
   ·refine xAA c λk2 t2 f2=>?_
    refine ⟨rd_of t2,h f τ₂ k2 hf.no ?_⟩
    rw[f2,List.append_assoc];rfl
   ·refine xAA c λk2 t2 f2=>?_
    refine ⟨rd_of t2,?_⟩
    refine ⟨⟨_,rd_of f2⟩,?_⟩
    refine own_step IH (g.keep k2) f2 ?_ (by lia) (lo b ?_) (show k < d by lia) (λ_ _ z=>z) λτ₃ k3 f3=>?_
    ·have e1:=fl ds (by have:=congrArg List.length h2;rw[List.length_reverse,List.length_append] at this;lia)
     have e2:(olE s.mx s.ah k n).length≤10:=fl _ (by refine rE List.length_reverse ?_;exact two.2)
     (refine rE List.length_append ?_;refine rE List.length_append ?_)
     show _ + 1 + _≤100
     lia
    ·refine List.mem_append_right _ (List.mem_reverse.mp ?_)
     refine rE h2 ?_;simp
    ·refine FMap.next h2 (some (L.ref b)) none (by rfl) ⟨?_,k3 _ _ t2 ne,?_⟩
     ·intro c o' hc hn
      exact k3 _ _ (k2 _ _ hc hn) λz=>by rw[z,hf.no] at hc;exact nn hc
     ·rw[f3,List.flatMap_append,List.append_assoc];simp
  refine at1 ((g.keep kf).mod n) (by rfl) (x:=.ref (L.mf n).ahead) (by rfl) ?_
  refine ⟨_,by refine rE (List.length_map _) ?_;exact Nat.le_trans two.2 (dE rfl:2≤100000),rd_of ((g.keep kf).ahd n),?_⟩
  intro sl τ₁ hs e
  have ks:Kx NoS τ τ₁:=e▸(Kx.refl _ _).up (.inr hs.no)
  have ne:sl≠f:=hs.ne tf
  have ts:τ₁ sl=some (.list ((s.ah n).map L.ref).reverse):=by refine rE e ?_;exact up_self ..
  refine .inl ⟨_,rd_of ts,by rw[List.length_reverse,List.length_map];exact Nat.le_trans two.2 (dE rfl:2≤100000),?_⟩
  refine for_map (f:=L.ref) (xs:=(s.ah n).reverse) (λo _=>((fL (fst 32) [L.ref n]).set (S "found") (.ref f)).put (S "one") o) (λds _ τ=>Kx NoS σ τ∧τ sl=some (.list ((s.ah n).map L.ref).reverse)∧τ f=some (.list ((ds.flatMap (ol s.mx s.ah k)).map L.ref))) none none (by refine rE List.map_reverse ?_;rfl) (by rfl)
   ⟨kf.trans ks,ts,ks _ _ tf not_false⟩ (λo _ τ₂ c=>?_) λds b bs o _ τ₂ h2 c=>?_
  ·refine xAA c λk2 t2 f2=>?_
   refine ⟨rd_of t2,?_⟩
   have e2:(olE s.mx s.ah k n).length≤10:=fl _ (by refine rE List.length_reverse ?_;exact two.2)
   refine ⟨⟨_,rd_of f2⟩,?_⟩
   refine ⟨_,f2,by refine rE (List.length_map _) ?_;exact Nat.le_trans e2 (dE rfl),?_⟩
   refine s3 o _ (k2.upr hf.no) ?_
   rw[up_self,List.map_append];rfl
  ·refine xAA c λk2 t2 f2=>?_
   refine ⟨rd_of t2,?_⟩
   refine ⟨⟨_,rd_of f2⟩,?_⟩
   refine own_step IH (g.keep k2) f2 ?_ (by lia) (lo b ?_) (show k < d by lia) (λ_ _ z=>z) λτ₃ k3 f3=>?_
   ·have e1:=fl ds (by have:=congrArg List.length h2;rw[List.length_reverse,List.length_append] at this;lia)
    exact Nat.le_trans e1 (dE rfl)
   ·refine List.mem_append_left _ (List.mem_reverse.mp ?_)
    refine rE h2 ?_;simp
   ·refine FMap.next h2 (some (L.ref b)) none (by rfl) ⟨?_,k3 _ _ t2 ne,?_⟩
    ·intro c o' hc hn
     exact k3 _ _ (k2 _ _ hc hn) λz=>by rw[z,hf.no] at hc;exact nn hc
    ·(refine rE f3 ?_;refine rE List.flatMap_append ?_);simp
theorem c_own (kit:Kit prog w K B) {n:Nd} {d:Nat} (g:GI L Z s σ) (hd:4≤d) (h:∀l τ,Kx NoS σ τ→σ l=none→τ l=some (.list ((ol s.mx s.ah 3 n).map L.ref))→Q (.ref l) τ):CallOK prog w B d 375 [L.ref n] σ Q X:=
 c_own_line kit 3 (Nat.le_refl _) g (Nat.lt_succ_of_le (rk_le s n)) hd h
theorem flat_congr {α β:Type} {f g:α→List β}:∀{l:List α},(∀a∈l,f a=g a)→l.flatMap f=l.flatMap g
 |[],_=>rfl
 |a :: l,h=>by (refine rE List.flatMap_cons ?_;refine rE List.flatMap_cons ?_;refine rE (h a (.head _)) ?_;exact rE (flat_congr λb hb=>h b (.tail _ hb)) rfl)
theorem ol_stab (h:SOK s):∀(k:Nat) (n:Nd),rkG s n < k→ol s.mx s.ah (k + 1) n=ol s.mx s.ah k n
 |0,n,hr=>absurd hr (Nat.not_lt_zero _)
 |k + 1,n,hr=>by
  have e:∀l:List Nd,(∀m∈l,m∈subs s n)→l.flatMap (ol s.mx s.ah (k + 1))=l.flatMap (ol s.mx s.ah k):=λl hl=>
   flat_congr λm hm=>ol_stab h k m (by have:=rk_lt h (hl m hm);lia)
  show (s.ah n).reverse.flatMap _ ++ n :: (s.mx n).reverse.flatMap _=(s.ah n).reverse.flatMap _ ++ n :: (s.mx n).reverse.flatMap _
  (refine rE (e _ λm hm=>List.mem_append_left _ (List.mem_reverse.mp hm)) ?_;exact rE (e _ λm hm=>List.mem_append_right _ (List.mem_reverse.mp hm)) rfl)
theorem ol_two (h:SOK s) {n m:Nd} (hm:m∈subs s n):ol s.mx s.ah 3 m=ol s.mx s.ah 2 m:=ol_stab h 2 m (Nat.lt_of_lt_of_le (rk_lt h hm) (rk_le s n))
theorem c_ahead (kit:Kit prog w K B) {n:Nd} {d:Nat} (g:GI L Z s σ) (h:∀τ,Kx NoS σ τ→Q (.int (olE s.mx s.ah 2 n).length) τ):CallOK prog w B (d + 5) 380 [L.ref n] σ Q X:=by
 have two:=g.sok.two n
 refine callFn (n:=20) (d:=d + 4) kit.gd kit.snd (kit.fns 7) ?_
 refine at1 (g.mod n) (by rfl) (x:=.ref (L.mf n).ahead) (by rfl) ?_
 refine .inl ⟨_,rd_of (g.ahd n),by refine rE (List.length_map _) ?_;exact Nat.le_trans two.2 (dE rfl:2≤100000),?_⟩
 refine comp_map (f:=L.ref) (xs:=s.ah n) (λds=>(ds.map λb=>((ol s.mx s.ah 2 b).length:Int)).map AV.int) (λo=>[(S ".0",none),(S "one",o),(S "len",none),(S "own_line",none)]) (λ_ _ τ=>Kx NoS σ τ) none rfl (by rfl) rfl (Kx.refl _ _) (λo τ k2=>?_) λds b bs o τ h2 k2=>?_
 ·refine ⟨rd_of ((g.keep k2).ahd n),?_⟩
  intro l τ₂ hl rfl
  refine ⟨_,rd_of (up_self ..),?_⟩
  have:=h _ (k2.up (.inr hl.no) (o:=.list (((s.ah n).map λb=>((ol s.mx s.ah 2 b).length:Int)).map AV.int)))
  rw[show ((olE s.mx s.ah 2 n).length:Int)=((s.ah n).map λb=>((ol s.mx s.ah 2 b).length:Int)).sum from ?_] at this
  ·exact this
  ·unfold olE
   clear this hl k2
   generalize s.ah n=ds
   induction ds with
   |nil=>rfl
   |cons a r ih=>
    (refine rE List.map_cons ?_;refine rE List.sum_cons ?_;refine rE List.reverse_cons ?_;refine rE List.flatMap_append ?_;refine rE List.length_append ?_;refine rL ih ?_)
    simp
    lia
 ·refine ⟨rd_of ((g.keep k2).ahd n),?_⟩
  have hb:b∈subs s n:=List.mem_append_left _ (by refine rE h2 ?_;simp)
  have ld:ds.length≤2:=by have:=congrArg List.length h2;rw[List.length_append] at this;lia
  refine c_own kit (g.keep k2) (Nat.le_add_left _ _) λl τ₁ k3 nl hl=>?_
  have e3:=ol_two g.sok hb
  have l3:=ol_len g.sok 2 b
  have l3:(ol s.mx s.ah 2 b).length≤5:=l3
  rw[e3] at hl
  refine ⟨_,.inl (rd_of hl),by refine rE (List.length_map _) ?_;exact Nat.le_trans l3 (dE rfl),?_⟩
  refine ⟨by rw[List.length_map,List.length_map];exact Nat.le_trans ld (dE rfl),CMap.next h2 (some (L.ref b)) (by rfl) ?_ (k2.trans k3)⟩
  rw[List.map_append,List.map_append,List.length_map];rfl
theorem pts_at {α:Type} {x:α} {e:Bool} {r:List (α×Bool)}:∀{E R:List α} {i:Nat},((E.map (·,true)) ++ R.map (·,false)).drop i=(x,e) :: r→e=decide (i < E.length):=by
 intro E
 induction E with
 |nil=>
  intro R i h
  rw[List.map_nil,List.nil_append,←List.map_drop] at h
  induction q:R.drop i using List.casesOn with
  |nil=>rw[q] at h;cases h
  |cons a b=>rw[q] at h;cases h;rfl
 |cons a E ih=>
  intro R i h
  induction i using Nat.casesOn with
  |zero=>cases h;rfl
  |succ i=>
  rw[ih (R:=R) (i:=i) h,decide_eq_decide,List.length_cons]
  exact Nat.succ_lt_succ_iff.symm
theorem mfold_len {α:Type} [DecidableEq α] (b:List α):∀(l:List (α×Bool)) (f:List α),(mfold b l f).length≤l.length + f.length:=by
 intro l
 induction l with
 |nil=>
  intro f
  exact Nat.le_add_left _ _
 |cons p0 r ih=>
  obtain ⟨x,e⟩:=p0
  intro f
  show (if _ then _ else _:List α).length≤_
  split
  ·have:=ih (f ++ [x]);rw[List.length_append] at this;refine rE List.length_cons ?_;simp at this;lia
  ·have:=ih f;refine rE List.length_cons ?_;lia
theorem over_len {α:Type} [DecidableEq α] (f b:List α):(over f b).length≤f.length + b.length:=by
 unfold over
 refine rE List.length_append ?_
 have:=List.length_filter_le (λx=>!f.contains x) b
 lia
theorem pts_map (s:Gs) (n:Nd):(pts s.mx s.ah 2 n).map (·.1)=ol s.mx s.ah 3 n:=by
 unfold pts
 rw[List.map_append,List.map_map,List.map_map]
 show List.map id _ ++ List.map id _=_
 rw[List.map_id,List.map_id,ol_succ]
theorem pts_len (h:SOK s) (n:Nd):(pts s.mx s.ah 2 n).length≤21:=by
 rw[←List.length_map (f:=(·.1)),pts_map];exact ol_len h 3 n
theorem line_len (h:SOK s) {par:Nd→Option Nd}:∀(k:Nat) (n:Nd),(line par s.mx s.ah k n).length≤21 * k
 |0,_=>Nat.zero_le _
 |k + 1,n=>by
  refine Nat.le_trans (over_len _ _) ?_
  have p:=pts_len h n
  induction par n with
  |none=>have:=mfold_len ([]:List Nd) (pts s.mx s.ah 2 n) [];dsimp only;simp at this ⊢;lia
  |some m=>have:=mfold_len (line par s.mx s.ah k m) (pts s.mx s.ah 2 n) [];have:=line_len h (par:=par) k m;dsimp only;simp at *;lia
noncomputable def behG (s:Gs) (n:Nd):List Nd:=match parG n with
 |none=>[]
 |some p=>lineG s p
theorem lineG_eq (s:Gs) (n:Nd):lineG s n=over (mfold (behG s n) (pts s.mx s.ah 2 n) []) (behG s n):=by induction n<;>rfl
noncomputable def pkG:Nd→Nat
 |.O=>1
 |.A=>2
 |.B=>3
 |.T=>4
 |_=>0
theorem pk_lt {n p:Nd} (h:parG n=some p):pkG p < pkG n:=by induction n<;>cases h<;>exact dE rfl
theorem GI.setMod (g:GI L Z s σ) (n:Nd) {fz:Nd→Bool} {kept:Nd→AV} (hk:∀m,m≠n→fz m=s.fz m∧kept m=s.kept m)
 (kp:kept n=.none∨∃t v q,kept n=.ref t∧σ t=some (.tup [.int v,.ref q])∧v≤s.g.ver∧(v=s.g.ver→σ q=some (.list ((lineG s n).map L.ref))∧¬Z q∧¬GA L s q)) :
 GI L Z { s with fz:=fz,kept:=kept } (up σ (L.at_ n) (.inst 228 (L.dx n) (MF.fs (Gs.mf L { s with fz:=fz,kept:=kept } n)))):=by
 have kk:∀{b o},σ b=some o→(∀d fs,o≠.inst 228 d fs)→up σ (L.at_ n) (.inst 228 (L.dx n) (MF.fs (Gs.mf L { s with fz:=fz,kept:=kept } n))) b=some o:=λ{b o} h h2=>
  (up_ne (λz=>by rw[z,g.mod n] at h;(have h:=sJ h;subst h);exact h2 _ _ rfl)).trans h
 have inj:∀{m},L.at_ m=L.at_ n→m=n:=λ{m} z=>by
  have:=g.mod m
  rw[z] at this
  exact g.lok.num _ _ (inst_inj this (g.mod n)).1
 have back:∀{a d m},up σ (L.at_ n) (.inst 228 (L.dx n) (MF.fs (Gs.mf L { s with fz:=fz,kept:=kept } n))) a=some (.inst 228 d (MF.fs m))→∃m0,σ a=some (.inst 228 d (MF.fs m0))∧m0.num=m.num:=λ{a d m} h=>by
  by_cases z:a=L.at_ n
  ·subst z
   rw[up_self] at h
   have u:=(inst_inj (σ:=λ_=>some (.inst 228 (L.dx n) (MF.fs (Gs.mf L { s with fz:=fz,kept:=kept } n)))) (a:=0) rfl h).1
   injection h with h;injection h with _ hd _
   exact iEA (s.mf L n) (hd▸g.mod n) u
  ·rw[up_ne z] at h;exact iEA m h rfl
 refine ⟨g.lok,⟨g.sok.1,g.sok.2,g.sok.3,g.sok.4,g.sok.5,g.sok.6⟩,⟨kk g.bw.w (λ_ _ z=>(by cases z)),kk g.bw.md (λ_ _ z=>(by exact nC AO.ctorIdx z rfl)),kk g.bw.nat (λ_ _ z=>(by exact nC AO.ctorIdx z rfl)),kk g.bw.pre (λ_ _ z=>(by exact nC AO.ctorIdx z rfl)),g.bw.natp,λc v e=>?_,λc c' a a' d d' m m' e e' i i' q=>?_,g.bw.nd⟩,g.bo,λm=>?_,λm=>kk (g.mxd m) (λ_ _ z=>(by exact nC AO.ctorIdx z rfl)),λm=>kk (g.ahd m) (λ_ _ z=>(by exact nC AO.ctorIdx z rfl)),λm=>?_,g.mem,g.nap,λm=>?_,?_,λb z=>?_,g.zg⟩
 ·obtain ⟨hn,a,d,m,rfl,i,nm,le⟩:=g.bw.mods c v e
  by_cases z:a=L.at_ n
  ·rw[z] at i
   obtain ⟨u1,u2⟩:=inst_inj i (g.mod n)
   exact ⟨hn,a,L.dx n,Gs.mf L { s with fz:=fz,kept:=kept } n,rfl,by rw[z];exact up_self ..,u2.symm.trans nm,by rw[u1] at le;exact le⟩
  ·exact ⟨hn,a,d,m,rfl,(up_ne z).trans i,nm,le⟩
 ·refine xEA (back i) λm0 j u=>?_
  refine xEA (back i') λm0' j' u'=>?_
  exact g.bw.inj c c' a a' _ _ _ _ e e' j j' (u.trans (q.trans u'.symm))
 ·by_cases z:m=n
  ·subst z;exact up_self ..
  ·rw[up_ne (λe=>z (inj e)),g.mod m]
   unfold Gs.mf
   dsimp only
   (refine rE ((hk m z).1) ?_;exact rE ((hk m z).2) rfl)
 ·obtain ⟨kvs,h,d⟩:=g.met m
  exact ⟨kvs,kk h (λ_ _ z=>(by exact nC AO.ctorIdx z rfl)),d.mono λo v h=>h.keep λe d fs he=>kk he (λ_ _ z=>(by cases z))⟩
 ·by_cases z:m=n
  ·subst z
   rcases kp with h|⟨t,v,q,h1,h2,h3,h4⟩
   ·exact .inl h
   ·exact .inr ⟨t,v,q,h1,kk h2 (λ_ _ z=>(by exact nC AO.ctorIdx z rfl)),h3,λe=>⟨kk (h4 e).1 (λ_ _ z=>(by exact nC AO.ctorIdx z rfl)),(h4 e).2⟩⟩
  ·rcases g.kp m with h|⟨t,v,q,h1,h2,h3,h4⟩
   ·exact .inl ((hk m z).2.trans h)
   ·exact .inr ⟨t,v,q,(hk m z).2.trans h1,kk h2 (λ_ _ z=>(by exact nC AO.ctorIdx z rfl)),h3,λe=>⟨kk (h4 e).1 (λ_ _ z=>(by exact nC AO.ctorIdx z rfl)),(h4 e).2⟩⟩
 ·obtain ⟨d,i,f,h⟩:=g.thg
  exact ⟨d,i,f,kk h (λ_ _ z=>(by cases z))⟩
 ·obtain ⟨o,e⟩:=g.zs b z
  by_cases z:b=L.at_ n
  ·exact ⟨_,by refine rE z ?_;exact up_self ..⟩
  ·exact ⟨o,(up_ne z).trans e⟩
noncomputable def MD (L:Ly) (b:Addr):Prop:=∃n,b=L.at_ n
noncomputable abbrev LineOK (prog:Program) (w:World) (B:Heap) (L:Ly) (Z:Addr→Prop) (k:Nat):Prop:=∀{X:Post} {n:Nd} {s:Gs} {σ:AH} {Q:Post} {d:Nat},GI L Z s σ→pkG n < k→2 * k + 6≤d→
 (∀q τ kept,GI L Z { s with kept:=kept } τ→Kx (MD L) σ τ→τ q=some (.list ((lineG s n).map L.ref))→¬Z q→¬GA L s q→Q (.ref q) τ)→CallOK prog w B d 392 [.ref L.wd,L.ref n] σ Q X
theorem beh_len (h:SOK s) (n:Nd):(behG s n).length≤105:=by
 unfold behG
 induction parG n with
 |none=>exact Nat.zero_le _
 |some p=>exact line_len h 5 p
theorem nomd (g:GI L Z s σ) {b:Addr} {o:AO} (h:σ b=some o) (n:∀d fs,o≠.inst 228 d fs):¬MD L b:=λzz=>zz.elim λm z=>by
 rw[z,g.mod m] at h;(have h:=sJ h;subst h);exact n _ _ rfl
theorem fresh_of (g:GI L Z s τ) (k:Kx (MD L) σ τ) {q:Addr} (h:τ q=none):σ q=none:=by
 induction e:σ q with
 |none=>rfl
 |some o=>
  by_cases z:MD L q
  ·obtain ⟨m,z⟩:=z;rw[z,g.mod m] at h;exact nS h
  ·rw[k _ _ e z] at h;exact nS h
theorem mfold_cons {α:Type} [DecidableEq α] (b:List α) (x:α) (e:Bool) (r:List (α×Bool)) (f:List α):mfold b ((x,e) :: r) f=if !f.contains x && (e || !b.contains x) then mfold b r (f ++ [x]) else mfold b r f:=rfl
inductive madeI (L:Ly) (s:Gs) (n:Nd) (bq f l:Addr) (τ:AH) (i:Nat) (rest:List AV) (ρ:Loc) (τ':AH):Prop
 |mk (acc op oo) (h1:rest=(((pts s.mx s.ah 2 n).drop i).map (·.1)).map L.ref) (h2:mfold (behG s n) ((pts s.mx s.ah 2 n).drop i) acc=mfold (behG s n) (pts s.mx s.ah 2 n) []) (h3:acc.length≤i) (h4:Kx NoS τ τ') (h5:τ' f=some (.list (acc.map L.ref))) (h6:τ' l=some (.list ((ol s.mx s.ah 3 n).map L.ref))) (h7:ρ=(((((fL (fst 34) [.ref L.wd,L.ref n]).set (S "behind") (.ref bq)).set (S "found") (.ref f)).set (S "count") (.int (olE s.mx s.ah 2 n).length)).put (S "place") op).put (S "one") oo):madeI L s n bq f l τ i rest ρ τ'
set_option maxHeartbeats 2000000 in
theorem c_made (kit:Kit prog w K B) {k d:Nat} {n:Nd} (IH:LineOK prog w B L Z k) (g:GI L Z s σ) (hn:pkG n < k + 1) (hd:2 * k + 6≤d)
 (h:∀q τ kept,GI L Z { s with kept:=kept } τ→Kx (MD L) σ τ→τ q=some (.list ((lineG s n).map L.ref))→σ q=none→Q (.ref q) τ):CallOK prog w B (d + 1) 385 [.ref L.wd,L.ref n] σ Q X:=by
 refine callFn (n:=20) kit.gd kit.snd (kit.fns 8) ?_
 have s3:∀bq f op oo l τ kept,GI L Z { s with kept:=kept } τ→Kx (MD L) σ τ→τ bq=some (.list ((behG s n).map L.ref))→τ f=some (.list ((mfold (behG s n) (pts s.mx s.ah 2 n) []).map L.ref))→fS prog w B (fst 34) d X 17 3 ((((((fL (fst 34) [.ref L.wd,L.ref n]).set (S "behind") (.ref bq)).set (S "found") (.ref f)).set (S "count") l).put (S "place") op).put (S "one") oo) τ Q:=by
  intro bq f op oo l τ kept g k1 hb hf
  have lf:(mfold (behG s n) (pts s.mx s.ah 2 n) []).length≤21:=by have:=mfold_len (behG s n) (pts s.mx s.ah 2 n) [];have:=pts_len g.sok n;simp at *;lia
  have lb:=beh_len g.sok n
  refine .inl ⟨_,rd_of hb,by refine rE (List.length_map _) ?_;exact Nat.le_trans lb (dE rfl),?_⟩
  refine comp_map (f:=L.ref) (xs:=behG s n) (λds=>(ds.filter λx=>!(mfold (behG s n) (pts s.mx s.ah 2 n) []).contains x).map L.ref) (λo=>[(S ".0",none),(S "one",o),(S "has_thing",none),(S "found",some (.ref f))]) (λ_ _ τ'=>τ=τ') none rfl (by rfl) rfl rfl (λo τ' c=>?_) λds b bs o τ' h2 c=>?_
  ·subst c
   refine ⟨rd_of hb,?_⟩
   intro c τ₂ hc e
   have kc:Kx NoS τ τ₂:=e▸(Kx.refl _ _).up (.inr hc.no)
   have tc:τ₂ c=some (.list (((behG s n).filter λx=>!(mfold (behG s n) (pts s.mx s.ah 2 n) []).contains x).map L.ref)):=by refine rE e ?_;exact up_self ..
   have lc:=List.length_filter_le (λx=>!(mfold (behG s n) (pts s.mx s.ah 2 n) []).contains x) (behG s n)
   have lb:(behG s n).length≤105:=lb
   refine ⟨_,_,?_,.inl ⟨rd_of (kc _ _ hf not_false),rd_of tc,?_⟩⟩
   ·rw[List.length_map,List.length_map];lia
   ·intro q τ₃ hq e
    have kq:Kx NoS τ₂ τ₃:=e▸(Kx.refl _ _).up (.inr hq.no)
    refine h q τ₃ kept ((g.keep kc).keep kq) (k1.trans ((kc.trans kq).mono λ_ z=>z.elim)) ?_ (fresh_of g k1 (kc.none hq.no not_false))
    rw[e,up_self,lineG_eq,over,List.map_append]
  ·subst c
   refine ⟨rd_of hb,?_⟩
   have ld:ds.length≤105:=by have:=congrArg List.length h2;rw[List.length_append] at this;have lb:(behG s n).length≤105:=lb;lia
   refine CallOK.more (d:=3) ?_ (show 3≤d by lia)
   refine c_has kit (ns:=mfold (behG s n) (pts s.mx s.ah 2 n) []) (y:=b) g (rd_of hf) (by lia) ?_
   induction e:(mfold (behG s n) (pts s.mx s.ah 2 n) []).contains b with
   |true=>exact CMap.next h2 (some (L.ref b)) (by rfl) (by rw[List.filter_append,List.filter_cons_of_neg (by rw[e];exact dE rfl),List.filter_nil,List.append_nil]) rfl
   |false=>
    refine ⟨?_,CMap.next h2 (some (L.ref b)) (by rfl) (by rw[List.filter_append,List.filter_cons_of_pos (by rw[e];rfl),List.filter_nil,List.map_append];rfl) rfl⟩
    refine rE (List.length_map _) ?_
    exact Nat.le_trans (List.length_filter_le _ _) (Nat.le_trans ld (dE rfl))
 have s1:∀bq τ kept,GI L Z { s with kept:=kept } τ→Kx (MD L) σ τ→τ bq=some (.list ((behG s n).map L.ref))→fS prog w B (fst 34) d X 19 1 ((fL (fst 34) [.ref L.wd,L.ref n]).set (S "behind") (.ref bq)) τ Q:=by
  intro bq τ kept g k1 hb
  intro f τ₁ hf e
  have kf:Kx NoS τ τ₁:=e▸(Kx.refl _ _).up (.inr hf.no)
  have tf:τ₁ f=some (.list (([]:List Nd).map L.ref)):=by refine rE e ?_;exact up_self ..
  clear e
  refine CallOK.more (d:=5) ?_ (show 5≤d by lia)
  refine c_ahead kit (g.keep kf) λτ₂ k2=>?_
  have kf:=kf.trans k2
  have tf:=k2 _ _ tf not_false
  clear k2
  refine c_own kit (g.keep kf) (show 4≤d by lia) λl τ₃ k3 nl hl=>?_
  have nfl:f≠l:=λz=>by rw[←z,tf] at nl;exact nS nl
  have kf:=kf.trans k3
  have tf:=k3 _ _ tf not_false
  clear k3
  have l3:(ol s.mx s.ah 3 n).length≤21:=ol_len g.sok 3 n
  refine ⟨_,rd_of hl,by refine rE (List.length_map _) ?_;exact Nat.le_trans l3 (dE rfl),madeI L s n bq f l τ,?_,?_,?_⟩
  ·exact ⟨[],none,none,by rw[List.drop_zero,pts_map],rfl,Nat.zero_le _,kf,tf,hl,by rfl⟩
  ·rintro i ρ τ' ⟨acc,op,oo,h1,h2,h3,h4,h5,h6,rfl⟩
   refine ⟨rd_of h6,?_⟩
   have:(pts s.mx s.ah 2 n).drop i=[]:=by
    generalize (pts s.mx s.ah 2 n).drop i=z at h1
    induction z using List.casesOn with
    |nil=>rfl
    |cons _ _=>cases h1
   rw[this] at h2
   refine s3 bq f op oo _ τ' kept (g.keep h4) (k1.trans (h4.mono λ_ z=>z.elim)) (h4 _ _ hb not_false) ?_
   refine rL h2 ?_;exact h5
  ·rintro i x rest ρ τ' ⟨acc,op,oo,h1,h2,h3,h4,h5,h6,rfl⟩
   refine ⟨rd_of h6,?_⟩
   obtain ⟨b,e,r,hp⟩:∃b e r,(pts s.mx s.ah 2 n).drop i=(b,e) :: r:=by
    generalize (pts s.mx s.ah 2 n).drop i=z at h1
    induction z using List.casesOn with
    |nil=>cases h1
    |cons p r=>exact ⟨p.1,p.2,r,rfl⟩
   have hr:(pts s.mx s.ah 2 n).drop (i + 1)=r:=by (refine rL List.drop_drop ?_;refine rE hp ?_);rfl
   have he:e=decide (i < (olE s.mx s.ah 2 n).length):=pts_at hp
   have hi:i < 21:=by
    have p:=pts_len g.sok n
    have p:(pts s.mx s.ah 2 n).length≤21:=p
    have:=congrArg List.length hp
    rw[List.length_drop,List.length_cons] at this
    lia
   rw[hp,List.map_cons,List.map_cons] at h1
   obtain ⟨h1,h1'⟩:=List.cons.inj h1
   subst h1 h1'
   rw[hp] at h2
   rw[mfold_cons] at h2
   have skip:∀τ'',τ''=τ'→mfold (behG s n) r acc=mfold (behG s n) (pts s.mx s.ah 2 n) []→madeI L s n bq f l τ (i + 1) ((r.map (·.1)).map L.ref) ((((((((fL (fst 34) [.ref L.wd,L.ref n]).set (S "behind") (.ref bq)).set (S "found") (.ref f)).set (S "count") (.int (olE s.mx s.ah 2 n).length)).put (S "place") op).put (S "one") oo).set (S "place") (.int i)).set (S "one") (L.ref b)) τ'':=by
    rintro _ rfl h2
    exact ⟨acc,some (.int i),some (L.ref b),by exact rE hr rfl,by rw[hr];exact h2,Nat.le_succ_of_le h3,h4,h5,h6,by rfl⟩
   have gk:=g.keep h4
   refine CallOK.more (d:=3) ?_ (show 3≤d by lia)
   refine c_has kit (ns:=acc) (y:=b) gk (rd_of h5) (by lia) ?_
   induction ec:acc.contains b with
   |true=>rw[ec] at h2;exact skip _ rfl h2
   |false=>
    rw[ec] at h2
    have la:(acc.map L.ref).length≤100000:=by refine rE (List.length_map _) ?_;exact Nat.le_trans h3 (Nat.le_trans (Nat.le_of_lt hi) (dE rfl))
    have take:(e || !(behG s n).contains b)=true→madeI L s n bq f l τ (i + 1) ((r.map (·.1)).map L.ref) ((((((((fL (fst 34) [.ref L.wd,L.ref n]).set (S "behind") (.ref bq)).set (S "found") (.ref f)).set (S "count") (.int (olE s.mx s.ah 2 n).length)).put (S "place") op).put (S "one") oo).set (S "place") (.int i)).set (S "one") (L.ref b)) (up τ' f (.list (acc.map L.ref ++ [L.ref b]))):=by
     intro z
     rw[z] at h2
     refine ⟨acc ++ [b],some (.int i),some (L.ref b),by exact rE hr rfl,by rw[hr];exact h2,by rw[List.length_append];exact Nat.succ_le_succ h3,h4.upr hf.no,?_,(up_ne nfl.symm).trans h6,by rfl⟩
     rw[up_self,List.map_append];rfl
    conv=>whnf
    refine rE (show decide ((i:Int) < ((olE s.mx s.ah 2 n).length:Int))=e by rw[he];exact decide_eq_decide.mpr Int.ofNat_lt) ?_
    clear he hp hr h1
    induction e with
    |true=>exact ⟨⟨_,rd_of h5⟩,_,h5,la,take rfl⟩
    |false=>
     refine CallOK.more (d:=3) ?_ (show 3≤d by lia)
     refine c_has kit (ns:=behG s n) (y:=b) gk (rd_of (h4 _ _ hb not_false)) (Nat.le_trans (beh_len g.sok n) (dE rfl)) ?_
     induction eb:(behG s n).contains b with
     |true=>
      rw[eb] at h2
      exact skip _ rfl h2
     |false=>exact ⟨⟨_,rd_of h5⟩,_,h5,la,take (by refine rE eb ?_;rfl)⟩
 refine at1 (g.mod n) (by rfl) (congrArg some (g.lok.par n)) ?_
 induction e:parG n with
 |none=>
  intro bq τ hb e'
  have kb:Kx NoS σ τ:=e'▸(Kx.refl _ _).up (.inr hb.no)
  refine s1 bq τ s.kept (g.keep kb) (kb.mono λ_ z=>z.elim) ?_
  rw[e',up_self];unfold behG;refine rE e ?_;rfl
 |some p=>
  refine at1 (g.mod n) (by rfl) (congrArg some (g.lok.par n)) ?_
  refine rE e ?_
  refine IH g (Nat.lt_of_lt_of_le (pk_lt e) (Nat.le_of_lt_succ hn)) hd λq τ kept g' k' hq _ _=>?_
  refine s1 q τ kept g' k' ?_
  unfold behG;refine rE e ?_;exact hq
theorem mf_kept (m:MF) (v:AV):kput (MF.fs m) "kept" v=MF.fs { m with kept:=v }:=by rfl
theorem nilS {n:Nat} {Γ:Cx} {ρ:Loc} {K:SPost} (h:K .next ρ σ):(awp (n + 1)).S Γ [] ρ σ K:=h
noncomputable def upd {β:Type} (f:Nd→β) (n:Nd) (v:β):Nd→β:=λm=>if m=n then v else f m
theorem upd_self {β:Type} (f:Nd→β) (n:Nd) (v:β):upd f n v n=v:=if_pos rfl
theorem upd_ne {β:Type} {f:Nd→β} {n m:Nd} {v:β} (h:m≠n):upd f n v m=f m:=if_neg h
theorem c_line1 (kit:Kit prog w K B) {k d:Nat} {n:Nd} (IH:LineOK prog w B L Z k) (g:GI L Z s σ) (hn:pkG n < k + 1) (hd:2 * (k + 1) + 6≤d + 2)
 (h:∀q τ kept,GI L Z { s with kept:=kept } τ→Kx (MD L) σ τ→τ q=some (.list ((lineG s n).map L.ref))→¬Z q→¬GA L s q→Q (.ref q) τ):CallOK prog w B (d + 2) 392 [.ref L.wd,L.ref n] σ Q X:=by
 have fin:∀q τ kept t,GI L Z { s with kept:=kept } τ→Kx (MD L) σ τ→τ q=some (.list ((lineG s n).map L.ref))→σ q=none→Fresh τ t→fS prog w B (fst 35) (d + 1) X 19 1 (fL (fst 35) [.ref L.wd,L.ref n]) (up (up τ t (.tup [.int s.g.ver,.ref q])) (L.at_ n) (.inst 228 (L.dx n) (MF.fs (Gs.mf L { s with kept:=upd kept n (.ref t) } n)))) Q:=by
  intro q τ kept t g' k' hq nq ht
  have kt:Kx NoS τ (up τ t (.tup [.int s.g.ver,.ref q])):=(Kx.refl _ _).up (.inr ht.no)
  have tt:up τ t (.tup [.int s.g.ver,.ref q]) t=some (.tup [.int s.g.ver,.ref q]):=up_self ..
  have zq:¬Z q:=λz=>by obtain ⟨o,e⟩:=g.zs q z;rw[nq] at e;exact nn e
  have gq:¬GA L s q:=λz=>by refine xEA (g.kind z) λo e _=>?_;rw[nq] at e;exact nn e
  generalize up τ t (.tup [.int s.g.ver,.ref q])=τ₁ at kt tt ⊢
  have g₁:=g'.keep kt
  have hq:=kt _ _ hq not_false
  have g₂:=g₁.setMod n (fz:=s.fz) (kept:=upd kept n (.ref t)) (λm hm=>⟨rfl,upd_ne hm⟩) (.inr ⟨t,_,q,upd_self ..,tt,Int.le_refl _,λ_=>⟨hq,zq,gq⟩⟩)
  refine at1 (g₂.mod n) (by rfl) (x:=.ref t) (by show some (Gs.mf L { s with kept:=upd kept n (.ref t) } n).kept=_;unfold Gs.mf;dsimp only;rw[upd_self]) ?_
  have ne:∀{b o},τ₁ b=some o→(∀d fs,o≠.inst 228 d fs)→b≠L.at_ n:=λh n' z=>by rw[z,g₁.mod n] at h;injection h with h;exact n' _ _ h.symm
  have hq2:=(up_ne (ne hq (λ_ _ z=>(by exact nC AO.ctorIdx z rfl))) (o:=.inst 228 (L.dx n) (MF.fs (Gs.mf L { s with kept:=upd kept n (.ref t) } n)))).trans hq
  refine .inl ⟨_,.inr (rd_of ((up_ne (ne tt (λ_ _ z=>(by exact nC AO.ctorIdx z rfl)))).trans tt)),dE rfl,dE rfl,_,rfl,?_⟩
  exact h q _ _ g₂ (((k'.trans (kt.mono λ_ z=>z.elim))).up (.inl ⟨n,rfl⟩)) hq2 zq gq
 have put:∀kept t,kput (MF.fs (Gs.mf L { s with kept:=kept } n)) (S "kept") (.ref t)=MF.fs (Gs.mf L { s with kept:=upd kept n (.ref t) } n):=λkept t=>(mf_kept _ _).trans (congrArg MF.fs (by unfold Gs.mf;dsimp only;rw[upd_self]))
 refine callFn (n:=20) (d:=d + 1) kit.gd kit.snd (kit.fns 9) ?_
 rcases g.kp n with e|⟨t,v,q,e,ht,hv,hk⟩
 ·have e':kget (MF.fs (s.mf L n)) "kept"=some .none:=congrArg some e
  refine at1 (g.mod n) (by rfl) e' ?_
  refine at1 g.bw.w (by rfl) (wf_ver _) ?_
  refine c_made kit IH g hn (by lia) λq τ kept g' k' hq nq=>?_
  rintro t _ ht rfl
  exact st1 ((g'.keep ((Kx.refl _ _).up (.inr ht.no))).mod n) (by rfl) (by exact Nat.le_of_ble_eq_true rfl) (put kept t) (nilS (fin q τ kept t g' k' hq nq ht))
 ·have e':kget (MF.fs (s.mf L n)) "kept"=some (.ref t):=congrArg some e
  refine at1 (g.mod n) (by rfl) e' ?_
  refine at1 (g.mod n) (by rfl) e' ?_
  refine .inl ⟨_,.inr (rd_of ht),dE rfl,dE rfl,_,rfl,?_⟩
  refine at1 g.bw.w (by rfl) (wf_ver _) ?_
  refine eq1 (r:=decide (v=s.g.ver)) (by rfl) ?_
  by_cases z:v=s.g.ver
  ·refine rE (decide_eq_true z) ?_
   refine at1 (g.mod n) (by rfl) e' ?_
   refine .inl ⟨_,.inr (rd_of ht),dE rfl,dE rfl,_,rfl,?_⟩
   exact h q σ s.kept g (Kx.refl _ _) (hk z).1 (hk z).2.1 (hk z).2.2
  ·refine rE (decide_eq_false z) ?_
   refine at1 g.bw.w (by rfl) (wf_ver _) ?_
   refine c_made kit IH g hn (by lia) λq τ kept g' k' hq nq=>?_
   rintro t _ ht rfl
   exact st1 ((g'.keep ((Kx.refl _ _).up (.inr ht.no))).mod n) (by rfl) (by exact Nat.le_of_ble_eq_true rfl) (put kept t) (nilS (fin q τ kept t g' k' hq nq ht))
theorem c_line (kit:Kit prog w K B):∀k,LineOK prog w B L Z k:=by
 intro k
 induction k with
 |zero=>intro _ _ _ _ _ _ _ hn _ _;exact absurd hn (Nat.not_lt_zero _)
 |succ k ih=>
  intro _ _ _ _ _ d g hn hd h
  rcases d with _|_|d
  ·lia
  ·lia
  ·exact c_line1 kit ih g hn hd h
noncomputable abbrev LD:Nat:=16
theorem c_lineof (kit:Kit prog w K B) {n:Nd} {d:Nat} (g:GI L Z s σ) (hd:LD≤d)
 (h:∀q τ kept,GI L Z { s with kept:=kept } τ→Kx (MD L) σ τ→τ q=some (.list ((lineG s n).map L.ref))→¬Z q→¬GA L s q→Q (.ref q) τ):CallOK prog w B d 392 [.ref L.wd,L.ref n] σ Q X:=
 c_line kit 5 g (by induction n<;>exact dE rfl) hd h
theorem natn (g:GI L Z s σ) (n:Nd):kget (MF.fs (s.mf L n)) "native"=some (natG n):=congrArg some (g.lok.nat n)
theorem c_given (kit:Kit prog w K B) {d:Nat} {n:Nd} {nm x:Str} (g:GI L Z s σ) (hn:natG n=.str nm) (h:∀τ,Kx NoS σ τ→Q .none τ):CallOK prog w B (d + 1) 420 [.ref L.wd,L.ref n,.str x] σ Q X:=by
 refine callFn (n:=20) kit.gd kit.snd (kit.fns 10) ?_
 refine at1 g.bw.w (by rfl) (wf_nat _) ?_
 refine ⟨⟨_,rd_of g.bw.nat⟩,?_⟩
 refine at1 (g.mod n) (by rfl) (natn g n) ?_
 refine rE hn ?_
 intro e τ he eq
 have k1:Kx NoS σ τ:=eq▸(Kx.refl _ _).up (.inr he.no)
 have t1:τ e=some (.sdict []):=by refine rE eq ?_;exact up_self ..
 clear eq
 have g1:=g.keep k1
 refine ⟨_,rd_of g1.bw.nat,?_⟩
 refine ⟨⟨_,rd_of t1⟩,_,rd_of t1,?_⟩
 refine at1 g1.bw.w (by rfl) (wf_pre _) ?_
 refine ⟨⟨_,rd_of g1.bw.pre⟩,?_⟩
 refine at1 (g1.mod n) (by rfl) (natn g1 n) ?_
 refine rE hn ?_
 intro e τ₂ he eq
 have k2:Kx NoS τ τ₂:=eq▸(Kx.refl _ _).up (.inr he.no)
 have t2:τ₂ e=some (.sdict []):=by refine rE eq ?_;exact up_self ..
 clear eq
 refine ⟨_,rd_of (g1.keep k2).bw.pre,?_⟩
 refine ⟨⟨_,rd_of t2⟩,_,rd_of t2,?_⟩
 exact h _ (k1.trans k2)
noncomputable def atR (L:Ly) (σ:AH) (o:Option (Option En)) (v:AV):Prop:=match o with
 |none=>v=.none
 |some o=>deR L σ o v
theorem DictR.get {R:Option En→AV→Prop} {kvs:List (Str×AV)} {df:Str→Option (Option En)} (h:DictR R kvs df) (k:Str):match df k with
 |none=>(kget kvs k).getD .none=.none
 |some o=>R o ((kget kvs k).getD .none):=by
 rcases h.at_ k with ⟨a,b⟩|⟨o,v,a,b,c⟩
 ·(refine rE a ?_;refine rE b ?_);rfl
 ·(refine rE a ?_;refine rE b ?_);exact c
theorem deR.sort {o:Option En} {v:AV} (h:deR L σ o v):NoAt σ v (if o.isSome then "tree" else "none"):=by
 induction o with
 |none=>exact h
 |some E=>obtain ⟨e,d,nest,a,b⟩:=h;exact ⟨e,d,_,a,b,rfl⟩
theorem c_entry_at (kit:Kit prog w K B) {d:Nat} {n:Nd} {x:Str} (g:GI L Z s σ) (h:∀v τ,Kx NoS σ τ→atR L τ (s.df n x) v→Q v τ):CallOK prog w B (d + 2) 427 [.ref L.wd,L.ref n,.str x] σ Q X:=by
 refine callFn (n:=20) (d:=d + 1) kit.gd kit.snd (kit.fns 11) ?_
 obtain ⟨kvs,hm,dr⟩:=g.met n
 refine at1 (g.mod n) (by rfl) (x:=.ref (L.mf n).meths) (by rfl) ?_
 refine ⟨⟨_,rd_of hm⟩,_,rd_of hm,?_⟩
 have z:=dr.get x
 induction e:s.df n x with
 |some o=>
  rw[e] at z h
  generalize (kget kvs x).getD .none=v at z
  obtain ⟨e,d,fs,rfl,h1,h2⟩:=z.sort
  refine at1 h1 (by rfl) h2 ?_
  refine eq1 (r:=false) (by induction o<;>rfl) ?_
  exact h _ _ (Kx.refl _ _) z
 |none=>
  rw[e] at z h
  generalize (kget kvs x).getD .none=v at z
  have z:v=.none:=z
  subst z
  refine at1 (g.mod n) (by rfl) (natn g n) ?_
  have fin:natG n=.none∨∃c,natG n=.str c:=by induction n<;>first|exact .inl rfl|exact .inr ⟨_,rfl⟩
  rcases fin with e'|⟨c,e'⟩
  ·refine rE e' ?_
   exact h _ _ (Kx.refl _ _) rfl
  ·refine rE e' ?_
   refine c_given kit g e' λτ k=>?_
   exact h _ _ k rfl
noncomputable def seek (df:Nd→Str→Option (Option En)) (x:Str):List Nd→Option En
 |[]=>none
 |n :: r=>match df n x with
  |some o=>o
  |none=>seek df x r
theorem seek_c {df:Nd→Str→Option (Option En)} {x:Str} {n:Nd} {r:List Nd}:seek df x (n :: r)=match df n x with|some o=>o|none=>seek df x r:=rfl
theorem c_first (kit:Kit prog w K B) {d:Nat} {l:Addr} {ns:List Nd} {x:Str} (g:GI L Z s σ) (hl:σ l=some (.list (ns.map L.ref))) (hb:ns.length≤1000) (h:∀v τ,Kx NoS σ τ→enR L τ (seek s.df x ns) v→Q v τ):CallOK prog w B (d + 3) 434 [.ref L.wd,.ref l,.str x] σ Q X:=by
 refine callFn (n:=20) (d:=d + 2) kit.gd kit.snd (kit.fns 12) ?_
 refine .inl ⟨_,rd_of hl,by refine rE (List.length_map _) ?_;exact Nat.le_trans hb (dE rfl),?_⟩
 refine for_map (f:=L.ref) (xs:=ns) (λo o'=>((fL (fst 42) [.ref L.wd,.ref l,.str x]).put (S "module") o).put (S "found") o') (λ_ ms τ=>Kx NoS σ τ∧seek s.df x ns=seek s.df x ms) none none rfl (by rfl) ⟨Kx.refl _ _,rfl⟩ (λo o' τ c=>?_) λds b bs o o' τ hx c=>?_
 ·obtain ⟨k,h2⟩:=c
  refine ⟨rd_of (k _ _ hl not_false),h _ _ k ?_⟩
  refine rE h2 ?_;rfl
 ·obtain ⟨k,h2⟩:=c
  refine ⟨rd_of (k _ _ hl not_false),?_⟩
  have h2:seek s.df x ns=match s.df b x with|some o=>o|none=>seek s.df x bs:=h2
  refine c_entry_at kit (g.keep k) λv τ₂ k2 hv=>?_
  induction e:s.df b x with
  |none=>
   rw[e] at h2 hv
   have hv:v=.none:=hv
   subst hv
   exact FMap.next hx (some (L.ref b)) (some .none) (by rfl) ⟨k.trans k2,h2⟩
  |some o=>
   rw[e] at h2 hv
   obtain ⟨e,d,fs,rfl,h3,h4⟩:=hv.sort
   refine at1 h3 (by rfl) h4 ?_
   induction o with
   |none=>
    refine eq1 (r:=true) (by rfl) ?_
    exact h _ _ (k.trans k2) (by refine rE h2 ?_;rfl)
   |some E=>
    refine eq1 (r:=false) (by rfl) ?_
    exact h _ _ (k.trans k2) (by refine rE h2 ?_;exact hv)
theorem lineG_len (h:SOK s) (n:Nd):(lineG s n).length≤105:=line_len h 5 n
theorem c_find (kit:Kit prog w K B) {d:Nat} {n:Nd} {x:Str} (g:GI L Z s σ) (hd:17≤d)
 (h:∀v τ kept,GI L Z { s with kept:=kept } τ→Kx (MD L) σ τ→enR L τ (seek s.df x (lineG s n)) v→Q v τ):CallOK prog w B d 441 [.ref L.wd,L.ref n,.str x] σ Q X:=by
 obtain ⟨d,rfl⟩:∃e,d=e + 17:=⟨d - 17,by lia⟩
 refine callFn (n:=20) (d:=d + 16) kit.gd kit.snd (kit.fns 13) ?_
 refine c_lineof kit g (Nat.le_add_left _ _) λq τ kept g1 k1 hq zq gq=>?_
 exact c_first kit (d:=d + 13) g1 hq (Nat.le_trans (lineG_len g.sok n) (dE rfl)) λv τ₂ k2 hv=>h v τ₂ kept (g1.keep k2) (k1.trans (k2.mono λ_ z=>z.elim)) hv
noncomputable def aft (m:Nd):List Nd→List Nd
 |[]=>[]
 |n :: r=>if n=m then r else aft m r
theorem aft_c {m n:Nd} {r:List Nd}:aft m (n :: r)=if n=m then r else aft m r:=rfl
inductive h8I (L:Ly) (s:Gs) (n m:Nd) (x:Str) (q:Addr) (τ:AH) (i:Nat) (rest:List AV) (ρ:Loc) (τ':AH):Prop
 |mk (o o') (h1:rest=((lineG s n).drop i).map L.ref) (h2:aft m (lineG s n)=aft m ((lineG s n).drop i)) (h3:τ'=τ) (h4:ρ=(((fL (fst 44) [.ref L.wd,L.ref n,L.ref m,.str x]).set (S "line") (.ref q)).put (S "place") o).put (S "one") o'):h8I L s n m x q τ i rest ρ τ'
theorem c_behind (kit:Kit prog w K B) {d:Nat} {n m:Nd} {x:Str} (g:GI L Z s σ) (hd:17≤d)
 (h:∀v τ kept,GI L Z { s with kept:=kept } τ→Kx (MD L) σ τ→enR L τ (seek s.df x (aft m (lineG s n))) v→Q v τ):CallOK prog w B d 448 [.ref L.wd,L.ref n,L.ref m,.str x] σ Q X:=by
 obtain ⟨d,rfl⟩:∃e,d=e + 17:=⟨d - 17,by lia⟩
 refine callFn (n:=20) (d:=d + 16) kit.gd kit.snd (kit.fns 14) ?_
 refine c_lineof kit g (Nat.le_add_left _ _) λq τ kept g1 k1 hq zq gq=>?_
 have ll:(lineG s n).length≤105:=lineG_len g.sok n
 refine ⟨_,rd_of hq,by refine rE (List.length_map _) ?_;exact Nat.le_trans ll (dE rfl),h8I L s n m x q τ,?_,?_,?_⟩
 ·exact ⟨none,none,by exact rE List.drop_zero rfl,rfl,rfl,by rfl⟩
 ·rintro i ρ τ' ⟨o,o',h1,h2,rfl,rfl⟩
  refine ⟨rd_of hq,?_⟩
  have:(lineG s n).drop i=[]:=by
   generalize (lineG s n).drop i=z at h1
   induction z using List.casesOn with
   |nil=>rfl
   |cons _ _=>cases h1
  rw[this] at h2
  exact h _ _ kept g1 k1 (by refine rE h2 ?_;rfl)
 ·rintro i y rest ρ τ' ⟨o,o',h1,h2,rfl,rfl⟩
  refine ⟨rd_of hq,?_⟩
  obtain ⟨b,r,hp⟩:∃b r,(lineG s n).drop i=b :: r:=by
   generalize (lineG s n).drop i=z at h1
   induction z using List.casesOn with
   |nil=>cases h1
   |cons b r=>exact ⟨b,r,rfl⟩
  have hr:(lineG s n).drop (i + 1)=r:=by (refine rL List.drop_drop ?_;refine rE hp ?_);rfl
  have hi:i < 105:=by
   have:=congrArg List.length hp
   rw[List.length_drop,List.length_cons] at this
   lia
  rw[hp,List.map_cons] at h1
  obtain ⟨h1,h1'⟩:=List.cons.inj h1
  subst h1 h1'
  rw[hp] at h2
  have h2:aft m (lineG s n)=if b=m then r else aft m r:=h2
  refine c_same kit (d:=d + 14) g1 ?_
  by_cases e:b=m
  ·refine rE (decide_eq_true e) ?_
   rw[if_pos e] at h2
   refine ⟨by lia,by lia,_,by refine rE (List.length_map _) ?_;exact Nat.le_trans ll (dE rfl),rd_of hq,?_⟩
   intro c τ₂ hc eq
   have kc:Kx NoS τ' τ₂:=eq▸(Kx.refl _ _).up (.inr hc.no)
   have tc:τ₂ c=some (.list (r.map L.ref)):=by
    rw[eq,up_self,show ((i:Int) + 1).toNat=i + 1 from by lia,←List.map_drop,hr]
   refine c_first kit (d:=d + 13) (g1.keep kc) tc ?_ λv τ₃ k3 hv=>?_
   ·(refine rL hr ?_;refine rE List.length_drop ?_)
    exact Nat.le_trans (Nat.sub_le _ _) (Nat.le_trans ll (dE rfl))
   ·refine h v τ₃ kept ((g1.keep kc).keep k3) (k1.trans ((kc.trans k3).mono λ_ z=>z.elim)) ?_
    refine rE h2 ?_;exact hv
  ·refine rE (decide_eq_false e) ?_
   rw[if_neg e] at h2
   exact ⟨some (.int i),some (L.ref b),by exact rE hr rfl,by rw[hr];exact h2,rfl,by rfl⟩
theorem c_kind (kit:Kit prog w K B) {d:Nat} {n:Nd} (g:GI L Z s σ) (h:∀x:Str,x.length≤10→Q (.str x) σ):CallOK prog w B (d + 1) 490 [L.ref n] σ Q X:=by
 refine callFn (n:=20) kit.gd kit.snd (kit.fns 20) ?_
 refine at1 (g.mod n) (by rfl) (x:=.bool (iscG n)) (congrArg (λb=>some (AV.bool b)) (g.lok.isc n)) ?_
 induction iscG n with
 |true=>exact h _ (dE rfl)
 |false=>exact h _ (dE rfl)
theorem c_fullA (kit:Kit prog w K B) {d:Nat} {n:Nd} (hn:n≠.T) (g:GI L Z s σ) (h:∀x:Str,x.length≤20→Q (.str x) σ):CallOK prog w B (d + 1) 308 [L.ref n] σ Q X:=by
 refine callFn (n:=20) kit.gd kit.snd (kit.fns 2) ?_
 refine at1 (g.mod n) (by rfl) (x:=.none) (congrArg some ((g.lok.att n).trans (if_neg hn))) ?_
 refine at1 (g.mod n) (by rfl) (congrArg some (g.lok.nam n)) ?_
 have nm:∃x:Str,namG n=.str x∧x.length≤20:=by
  induction n with
  |T=>exact absurd rfl hn
  |_=>exact iEA _ rfl (dE rfl)
 refine xEA nm λx e hx=>?_
 refine rE e ?_
 refine at1 (g.mod n) (by rfl) (congrArg some (g.lok.out n)) ?_
 refine at1 (g.mod n) (by rfl) (congrArg some (g.lok.nam n)) ?_
 refine rE e ?_
 exact h x hx
theorem c_full (kit:Kit prog w K B) {d:Nat} {n:Nd} (g:GI L Z s σ) (h:∀x:Str,x.length≤100→Q (.str x) σ):CallOK prog w B (d + 4) 308 [L.ref n] σ Q X:=by
 by_cases hn:n=.T
 ·subst hn
  obtain ⟨dt,i,f,ht⟩:=g.thg
  have sh:∀{Q:Post},(∀x:Str,x.length≤50→Q (.str x) σ)→CallOK prog w B (d + 3) 361 [.ref L.th] σ Q X:=by
   intro Q h
   refine callFn (n:=20) (d:=d + 2) kit.gd kit.snd (kit.fns 4) ?_
   refine c_sort kit (d:=d + 1) ht (by rfl) ?_
   refine eq1 (r:=true) (by rfl) ?_
   refine callFn (n:=20) (d:=d + 1) kit.gd kit.snd (kit.fns 3) ?_
   refine isi1 ht (r:=false) (by rfl) ?_
   refine isi1 ht (r:=false) (by rfl) ?_
   refine isi1 ht (r:=false) (by rfl) ?_
   refine isi1 ht (r:=false) (by rfl) ?_
   refine isi1 ht (r:=false) (by rfl) ?_
   refine at1 ht (by rfl) (x:=L.ref .B) (by rfl) ?_
   refine c_fullA kit (dE rfl) g λx hx=>?_
   refine isi1 ht (r:=false) (by rfl) ?_
   refine isi1 ht (r:=false) (by rfl) ?_
   have e2:(Str.ofString "#<").length=2:=dE rfl
   have e1:(Str.ofString ">").length=1:=dE rfl
   refine ⟨by refine rE e2 ?_;lia,?_⟩
   refine ⟨by rw[e1,Str.length_append,e2];lia,?_⟩
   exact h _ (by rw[Str.length_append,Str.length_append,e1,e2];lia)
  refine callFn (n:=20) (d:=d + 3) kit.gd kit.snd (kit.fns 2) ?_
  refine at1 (g.mod .T) (by rfl) (x:=.ref L.th) (congrArg some ((g.lok.att .T).trans (if_pos rfl))) ?_
  refine at1 (g.mod .T) (by rfl) (x:=.ref L.th) (congrArg some ((g.lok.att .T).trans (if_pos rfl))) ?_
  refine sh λx hx=>?_
  have e2:(Str.ofString "#<Class:").length=8:=dE rfl
  have e1:(Str.ofString ">").length=1:=dE rfl
  refine ⟨by refine rE e2 ?_;lia,?_⟩
  refine ⟨by rw[e1,Str.length_append,e2];lia,?_⟩
  exact h _ (by rw[Str.length_append,Str.length_append,e1,e2];lia)
 ·exact c_fullA kit hn g λx hx=>h x (Nat.le_trans hx (dE rfl))
noncomputable abbrev Fails (L:Ly) (s:Gs) (σ:AH) (nm:Str) (X:Post):Prop:=∀v τ g' kvs',BP σ τ L.wd L.dw s.g s.made g' kvs'→(∀P:Post,P (.str nm) τ→attrA "owner" v τ λc σ=>attrA "name" c σ P)→X v τ
theorem c_failG (kit:Kit prog w K B) {d:Nat} {nm:Str} {tx:AV} (hn:nm∈bnm) (g:GI L Z s σ) (h:Fails L s σ nm X):CallOK prog w B (d + 32) 858 [.ref L.wd,.str nm,tx] σ Q X:=
 c_fail kit g.bw hn λv τ g' kvs' _ b e=>h v τ g' kvs' b e
theorem c_unfrozen (kit:Kit prog w K B) {d:Nat} {n:Nd} (g:GI L Z s σ) (h0:s.fz n=false→Q .none σ) (h1:s.fz n=true→Fails L s σ "FrozenError" X):CallOK prog w B (d + 33) 462 [.ref L.wd,L.ref n] σ Q X:=by
 refine callFn (n:=20) (d:=d + 32) kit.gd kit.snd (kit.fns 16) ?_
 refine at1 (g.mod n) (by rfl) (x:=.bool (s.fz n)) (by rfl) ?_
 induction e:s.fz n with
 |false=>exact h0 e
 |true=>
  refine meth1 g.bw.w (by rfl) (wf_none _ (dE rfl)) ?_
  refine c_kind kit g λx hx=>?_
  have e1:(Str.ofString "can't modify frozen ").length=20:=dE rfl
  have e2:(Str.ofString ": ").length=2:=dE rfl
  refine ⟨by refine rE e1 ?_;lia,?_⟩
  refine ⟨by rw[e2,Str.length_append,e1];lia,?_⟩
  refine c_full kit (d:=d + 28) g λy hy=>?_
  refine ⟨by rw[Str.length_append,Str.length_append,e1,e2];lia,?_⟩
  exact c_failG kit (dE rfl) g (h1 e)
theorem c_raise (kit:Kit prog w K B) {d:Nat} {wd dw:Addr} {g:WF} (h:σ wd=some (.inst 924 dw (WF.fs g))) (q:Q .none (up σ wd (.inst 924 dw (WF.fs { g with ver:=g.ver + 1 })))):CallOK prog w B (d + 1) 455 [.ref wd] σ Q X:=by
 refine callFn (n:=20) kit.gd kit.snd (kit.fns 15) ?_
 refine at1 h (by rfl) (wf_ver g) ?_
 exact st1 h (by rfl) (wf_len g) (wf_setVer g _) q
theorem kget_kput {kvs:List (Str×AV)} {n k:Str} {v:AV}:kget (kput kvs n v) k=if k=n then some v else kget kvs k:=by
 unfold kput
 split
 ·rename_i h
  unfold kget
  rw[List.find?_map]
  have e:((λkv:Str×AV=>decide (kv.1=k))∘λkv=>if kv.1=n then (kv.1,v) else kv)=λkv=>decide (kv.1=k):=funext λkv=>by
   show decide ((if kv.1=n then (kv.1,v) else kv).1=k)=_
   split<;>rfl
  rw[e,Option.map_map]
  by_cases q:k=n
  ·rw[if_pos q]
   subst q
   induction z:kvs.find? λkv=>decide (kv.1=k) with
   |none=>
    rw[List.find?_eq_none] at z
    rw[List.any_eq_true] at h
    refine xEA h λp hp hq=>?_
    exact absurd hq (z p hp)
   |some p=>
    have:=List.find?_some z
    show some (if p.1=k then (p.1,v) else p).2=_
    exact rE (if_pos (of_decide_eq_true this)) rfl
  ·rw[if_neg q]
   induction z:kvs.find? λkv=>decide (kv.1=k) with
   |none=>rfl
   |some p=>
    have:=List.find?_some z
    show some (if p.1=n then (p.1,v) else p).2=_
    refine rE (if_neg (λz=>q ((of_decide_eq_true this).symm.trans z))) ?_;rfl
 ·rename_i h
  refine kget_snoc (kget_none_iff.mpr λm=>h ?_)
  refine xEA (List.mem_map.mp m) λp hp e=>?_
  exact List.any_eq_true.mpr ⟨p,hp,decide_eq_true e⟩
theorem keys_kput {kvs:List (Str×AV)} {n:Str} {v:AV}:(kput kvs n v).map (·.1)=if n∈kvs.map (·.1) then kvs.map (·.1) else kvs.map (·.1) ++ [n]:=by
 have iff:(kvs.any λkv=>decide (kv.1=n))=true↔n∈kvs.map (·.1):=by
  rw[List.any_eq_true,List.mem_map]
  exact ⟨λz=>xEA z λp a b=>⟨p,a,of_decide_eq_true b⟩,λz=>xEA z λp a b=>⟨p,a,decide_eq_true b⟩⟩
 unfold kput
 split
 ·rename_i h
  (refine rE (if_pos (iff.mp h)) ?_;refine rE List.map_map ?_)
  refine List.map_congr_left λp _=>?_
  show (if p.1=n then (p.1,v) else p).1=_
  split<;>rfl
 ·rename_i h
  (refine rE (if_neg (λz=>h (iff.mpr z))) ?_;refine rE List.map_append ?_);rfl
theorem DictR.put {R:Option En→AV→Prop} {kvs:List (Str×AV)} {df:Str→Option (Option En)} {n:Str} {o:Option En} {v:AV} (h:DictR R kvs df) (hn:n∈fg) (r:R o v):DictR R (kput kvs n v) (λk=>if k=n then some o else df k):=by
 refine ⟨?_,λk hk=>?_,λk=>?_⟩
 ·refine rE keys_kput ?_
  split
  ·exact h.nd
  ·rename_i z
   rw[List.nodup_append]
   refine iAA h.nd (by simp) (λa ha b hb=>?_)
   rw[List.mem_singleton] at hb
   rintro rfl
   exact z (hb▸ha)
 ·rw[keys_kput] at hk
  split at hk
  ·exact h.keys k hk
  ·rcases List.mem_append.mp hk with z|z
   ·exact h.keys k z
   ·refine rE (List.mem_singleton.mp z) ?_;exact hn
 ·refine rE kget_kput ?_
  by_cases z:k=n
  ·(refine rE (if_pos z) ?_;refine rE (if_pos z) ?_);exact .inr ⟨o,v,rfl,rfl,r⟩
  ·(refine rE (if_neg z) ?_;refine rE (if_neg z) ?_);exact h.at_ k
theorem kget_kdel {kvs:List (Str×AV)} {n k:Str}:kget (kdel kvs n) k=if k=n then none else kget kvs k:=by
 unfold kget kdel
 refine rE (List.find?_filter) ?_
 by_cases z:k=n
 ·refine rE (if_pos z) ?_
  subst z
  refine rE (show (kvs.find? λa=>decide (decide (a.1≠k)=true∧decide (a.1=k)=true))=none from List.find?_eq_none.mpr λp _=>by simp) ?_
  rfl
 ·refine rE (if_neg z) ?_
  refine congrArg (Option.map _) (congrArg (λp=>List.find? p kvs) (funext λp=>?_))
  by_cases q:p.1=k
  ·simp[q,z]
  ·simp[q]
theorem DictR.del {R:Option En→AV→Prop} {kvs:List (Str×AV)} {df:Str→Option (Option En)} {n:Str} (h:DictR R kvs df):DictR R (kdel kvs n) (λk=>if k=n then none else df k):=by
 refine ⟨?_,λk hk=>?_,λk=>?_⟩
 ·exact h.nd.sublist (List.Sublist.map _ List.filter_sublist)
 ·refine xEA (List.mem_map.mp hk) λp hp e=>?_
  exact h.keys k (List.mem_map.mpr ⟨p,(List.mem_filter.mp hp).1,e⟩)
 ·refine rE kget_kdel ?_
  by_cases z:k=n
  ·(refine rE (if_pos z) ?_;refine rE (if_pos z) ?_);exact .inl ⟨rfl,rfl⟩
  ·(refine rE (if_neg z) ?_;refine rE (if_neg z) ?_);exact h.at_ k
theorem DictR.len {R:Option En→AV→Prop} {kvs:List (Str×AV)} {df:Str→Option (Option En)} (h:DictR R kvs df):kvs.length≤900:=by
 have:=List.Nodup.length_le_of_subset h.nd h.keys
 rw[List.length_map] at this
 exact Nat.le_trans this (dE rfl)
theorem GI.setDf (g:GI L Z s σ) {n:Nd} (hn:n≠.O∧n≠.K∧n≠.X) {kvs:List (Str×AV)} {df:Str→Option (Option En)} (dr:DictR (deR L σ) kvs df):GI L Z { s with df:=upd s.df n df } (up σ (L.mf n).meths (.sdict kvs)):=by
 obtain ⟨k0,m0,_⟩:=g.met n
 have kk:∀{b o},σ b=some o→b≠(L.mf n).meths→up σ (L.mf n).meths (.sdict kvs) b=some o:=λh z=>(up_ne z).trans h
 have kn:∀{b o},σ b=some o→(∀l,o≠.sdict l)→up σ (L.mf n).meths (.sdict kvs) b=some o:=λ{b o} h z=>kk h λe=>by rw[e,m0] at h;injection h with h;exact z _ h.symm
 have de:∀{o v},deR L σ o v→deR L (up σ (L.mf n).meths (.sdict kvs)) o v:=λh=>h.keep λe d fs he=>kn he (λ_ z=>(by exact nC AO.ctorIdx z rfl))
 have bk:∀{a d m},up σ (L.mf n).meths (.sdict kvs) a=some (.inst 228 d (MF.fs m))→σ a=some (.inst 228 d (MF.fs m)):=λ{a d m} h=>by
  by_cases z:a=(L.mf n).meths
  ·rw[z,up_self] at h;exact nC AO.ctorIdx (sJ h) rfl
  ·rwa [up_ne z] at h
 refine ⟨g.lok,⟨g.sok.1,g.sok.2,g.sok.3,g.sok.4,g.sok.5,λm hm k=>?_⟩,⟨kn g.bw.w (λ_ z=>(by exact nC AO.ctorIdx z rfl)),kk g.bw.md (g.mem n).symm,kk g.bw.nat (g.nap n hn).1.symm,kk g.bw.pre (g.nap n hn).2.symm,g.bw.natp,λc v e=>?_,λc c' a a' d d' m m' e e' i i' q=>g.bw.inj c c' a a' d d' m m' e e' (bk i) (bk i') q,g.bw.nd⟩,g.bo,λm=>kn (g.mod m) (λ_ z=>(by exact nC AO.ctorIdx z rfl)),λm=>kn (g.mxd m) (λ_ z=>(by exact nC AO.ctorIdx z rfl)),λm=>kn (g.ahd m) (λ_ z=>(by exact nC AO.ctorIdx z rfl)),λm=>?_,g.mem,g.nap,λm=>?_,?_,λb z=>?_,g.zg⟩
 ·show upd s.df n df m k=none
  refine rE (upd_ne (λz=>by rcases hm with rfl|rfl|rfl;exact hn.1 z.symm;exact hn.2.1 z.symm;exact hn.2.2 z.symm)) ?_
  exact g.sok.df m hm k
 ·obtain ⟨hn,a,d,m,rfl,i,r,r'⟩:=g.bw.mods c v e
  exact ⟨hn,a,d,m,rfl,kn i (λ_ z=>(by exact nC AO.ctorIdx z rfl)),r,r'⟩
 ·by_cases z:m=n
  ·subst z
   refine ⟨kvs,up_self ..,?_⟩
   show DictR _ kvs (upd s.df m df m)
   rw[upd_self]
   exact dr.mono λo v h=>de h
  ·obtain ⟨k1,h,d⟩:=g.met m
   refine ⟨k1,kk h λe=>z (g.lok.me _ _ hn e),?_⟩
   show DictR _ k1 (upd s.df n df m)
   refine rE (upd_ne z) ?_
   exact d.mono λo v h=>de h
 ·rcases g.kp m with h|⟨t,v,q,h1,h2,h3,h4⟩
  ·exact .inl h
  ·exact .inr ⟨t,v,q,h1,kn h2 (λ_ z=>(by exact nC AO.ctorIdx z rfl)),h3,λe=>⟨kn (h4 e).1 (λ_ z=>(by exact nC AO.ctorIdx z rfl)),(h4 e).2⟩⟩
 ·obtain ⟨d,i,f,h⟩:=g.thg
  exact ⟨d,i,f,kn h (λ_ z=>(by exact nC AO.ctorIdx z rfl))⟩
 ·obtain ⟨o,e⟩:=g.zs b z
  exact ⟨o,kk e λq=>g.zg b z (.inr (.inr ⟨n,.inr (.inl q)⟩))⟩
theorem bnum (bw:BW σ L.wd L.dw s.g s.made) {g':WF} (hg:∃v,g'={ s.g with ver:=v }):BW (up σ L.wd (.inst 924 L.dw (WF.fs g'))) L.wd L.dw g' s.made:=by
 obtain ⟨v,rfl⟩:=hg
 have o1:∀{b o},σ b=some o→(∀d fs,o≠.inst 924 d fs)→up σ L.wd (.inst 924 L.dw (WF.fs { s.g with ver:=v })) b=some o:=λh n=>(up_ne (λz=>by rw[z,bw.w] at h;injection h with h;exact n _ _ h.symm)).trans h
 have bk:∀{a d m},up σ L.wd (.inst 924 L.dw (WF.fs { s.g with ver:=v })) a=some (.inst 228 d (MF.fs m))→σ a=some (.inst 228 d (MF.fs m)):=λ{a d m} h=>by
  by_cases z:a=L.wd
  ·rw[z,up_self] at h;cases h
  ·rwa [up_ne z] at h
 refine ⟨up_self ..,o1 bw.md (λ_ _ z=>(by exact nC AO.ctorIdx z rfl)),o1 bw.nat (λ_ _ z=>(by exact nC AO.ctorIdx z rfl)),o1 bw.pre (λ_ _ z=>(by exact nC AO.ctorIdx z rfl)),bw.natp,λc v e=>?_,λc c' a a' d d' m m' e e' i i' q=>bw.inj c c' a a' d d' m m' e e' (bk i) (bk i') q,bw.nd⟩
 obtain ⟨hn,a,d,m,rfl,i,r,r'⟩:=bw.mods c v e
 exact ⟨hn,a,d,m,rfl,o1 i (λ_ _ z=>(by cases z)),r,r'⟩
theorem GI.raise (g:GI L Z s σ) {mx ah:Nd→List Nd} (sok:SOK { s with mx:=mx,ah:=ah }) (kx:Kx (λb=>∃n,b=(L.mf n).mixed∨b=(L.mf n).ahead) σ τ) (hm:∀n,τ (L.mf n).mixed=some (.list ((mx n).map L.ref))) (ha:∀n,τ (L.mf n).ahead=some (.list ((ah n).map L.ref))) :
 GI L Z { s with mx:=mx,ah:=ah,g:={ s.g with ver:=s.g.ver + 1 } } (up τ L.wd (.inst 924 L.dw (WF.fs { s.g with ver:=s.g.ver + 1 }))):=by
 have kk:∀{b o},σ b=some o→(∀l,o≠.list l)→τ b=some o:=λ{b o} h z=>kx _ _ h λzz=>zz.elim λn e=>by
  rcases e with e|e
  ·rw[e,g.mxd n] at h;injection h with h;exact z _ h.symm
  ·rw[e,g.ahd n] at h;injection h with h;exact z _ h.symm
 have kw:∀{b o},τ b=some o→(∀d fs,o≠.inst 924 d fs)→up τ L.wd (.inst 924 L.dw (WF.fs { s.g with ver:=s.g.ver + 1 })) b=some o:=λh n=>(up_ne (λz=>by rw[z,kk g.bw.w (λ_ z=>(by exact nC AO.ctorIdx z rfl))] at h;injection h with h;exact n _ _ h.symm)).trans h
 have kb:∀{b o},σ b=some o→(∀l,o≠.list l)→(∀d fs,o≠.inst 924 d fs)→up τ L.wd (.inst 924 L.dw (WF.fs { s.g with ver:=s.g.ver + 1 })) b=some o:=λh z n=>kw (kk h z) n
 have bt:BW τ L.wd L.dw s.g s.made:=by
  refine ⟨kk g.bw.w (λ_ z=>(by exact nC AO.ctorIdx z rfl)),kk g.bw.md (λ_ z=>(by exact nC AO.ctorIdx z rfl)),kk g.bw.nat (λ_ z=>(by exact nC AO.ctorIdx z rfl)),kk g.bw.pre (λ_ z=>(by exact nC AO.ctorIdx z rfl)),g.bw.natp,λc v e=>?_,λc c' a a' d d' m m' e e' i i' q=>?_,g.bw.nd⟩
  ·obtain ⟨hn,a,d,m,rfl,i,r,r'⟩:=g.bw.mods c v e
   exact ⟨hn,a,d,m,rfl,kk i (λ_ z=>(by exact nC AO.ctorIdx z rfl)),r,r'⟩
  ·obtain ⟨_,b,_,m1,eb,j,_⟩:=g.bw.mods c _ e
   (have eb:=rJ eb;subst eb)
   obtain ⟨_,b',_,m2,eb,j',_⟩:=g.bw.mods c' _ e'
   (have eb:=rJ eb;subst eb)
   have u:=(inst_inj (kk j (λ_ z=>(by exact nC AO.ctorIdx z rfl))) i).1
   have u':=(inst_inj (kk j' (λ_ z=>(by exact nC AO.ctorIdx z rfl))) i').1
   exact g.bw.inj c c' a a' _ _ _ _ e e' j j' (u.trans (q.trans u'.symm))
 refine ⟨g.lok,⟨sok.1,sok.2,sok.3,sok.4,sok.5,sok.6⟩,bnum (s:=s) bt ⟨_,rfl⟩,g.bo,λn=>kb (g.mod n) (λ_ z=>(by exact nC AO.ctorIdx z rfl)) (λ_ _ z=>(by cases z)),λn=>kw (hm n) (λ_ _ z=>(by exact nC AO.ctorIdx z rfl)),λn=>kw (ha n) (λ_ _ z=>(by exact nC AO.ctorIdx z rfl)),λn=>?_,g.mem,g.nap,λn=>?_,?_,λb z=>?_,g.zg⟩
 ·obtain ⟨k1,h,d⟩:=g.met n
  exact ⟨k1,kb h (λ_ z=>(by exact nC AO.ctorIdx z rfl)) (λ_ _ z=>(by exact nC AO.ctorIdx z rfl)),d.mono λo v h=>h.keep λe d fs he=>kb he (λ_ z=>(by exact nC AO.ctorIdx z rfl)) (λ_ _ z=>(by cases z))⟩
 ·rcases g.kp n with h|⟨t,v,q,h1,h2,h3,h4⟩
  ·exact .inl h
  ·refine .inr ⟨t,v,q,h1,kb h2 (λ_ z=>(by exact nC AO.ctorIdx z rfl)) (λ_ _ z=>(by exact nC AO.ctorIdx z rfl)),Int.le_trans h3 (Int.le_add_of_nonneg_right (dE rfl)),λe=>?_⟩
   have e:v=s.g.ver + 1:=e
   lia
 ·obtain ⟨d,i,f,h⟩:=g.thg
  exact ⟨d,i,f,kb h (λ_ z=>(by exact nC AO.ctorIdx z rfl)) (λ_ _ z=>(by cases z))⟩
 ·obtain ⟨o,e⟩:=g.zs b z
  have e':=kx _ _ e λzz=>zz.elim λn q=>g.zg b z (.inr (.inr ⟨n,.inr (.inr q)⟩))
  exact ⟨o,(up_ne (λq=>g.zg b z (.inl q))).trans e'⟩
noncomputable def eff (nm ow so pa bo si ne:AV):List (Str×AV):=[("name",nm),("owner",ow),("sort",so),("params",pa),("body",bo),("sight",si),("nesting",ne),("code",.none)]
theorem c_newEntry (kit:Kit prog w K B) {d:Nat} {nm ow so pa bo si:AV} (h:∀x dx t τ,σ x=none→Kx NoS σ τ→τ x=some (.inst 256 dx (eff nm ow so pa bo si (.ref t)))→Q (.ref x) τ):CallOK prog w B (d + 2) 256 [nm,ow,so,pa,bo,si] σ Q X:=by
 refine callCls kit.gd kit.ini (dE rfl) λx dx hx _ _=>callFn (n:=20) kit.gd kit.snd (kit.fns 36) ?_
 refine st1n (by rfl) (Nat.zero_le _) (by rfl) ?_
 refine st1n (by rfl) (Nat.le_of_ble_eq_true rfl) (by rfl) ?_
 refine st1n (by rfl) (Nat.le_of_ble_eq_true rfl) (by rfl) ?_
 refine st1n (by rfl) (Nat.le_of_ble_eq_true rfl) (by rfl) ?_
 refine st1n (by rfl) (Nat.le_of_ble_eq_true rfl) (by rfl) ?_
 refine st1n (by rfl) (Nat.le_of_ble_eq_true rfl) (by rfl) ?_
 intro t τ ht e
 (refine xAA (under ht e) λht ne=>?_;rintro rfl)
 refine st1n (by rfl) (Nat.le_of_ble_eq_true rfl) (by rfl) ?_
 refine st1n (by rfl) (Nat.le_of_ble_eq_true rfl) (by rfl) ?_
 refine ⟨rfl,h x dx t _ hx.no (((Kx.refl _ _).up (.inr ht.no)).up (.inr ?_)) (up_self ..)⟩
 refine rE (up_ne ne.symm) ?_;exact hx.no
theorem c_copied (kit:Kit prog w K B) {d:Nat} {e de:Addr} {E:En} {nest:AV} {sg:Str} (he:σ e=some (.inst 256 de (efs L E nest))) (h:∀x dx τ,Kx NoS σ τ→τ x=some (.inst 256 dx (efs L { E with sight:=sg } nest))→Q (.ref x) τ):CallOK prog w B (d + 4) 518 [.ref e,.str sg] σ Q X:=by
 refine callFn (n:=20) (d:=d + 3) kit.gd kit.snd (kit.fns 24) ?_
 refine meth1 he (by rfl) (by rfl) ?_
 refine at1 he (by rfl) (by rfl) ?_
 refine at1 he (by rfl) (by rfl) ?_
 refine callFn (n:=20) (d:=d + 2) kit.gd kit.snd (kit.fns 37) ?_
 refine at1 he (by rfl) (by rfl) ?_
 refine at1 he (by rfl) (by rfl) ?_
 refine at1 he (by rfl) (by rfl) ?_
 refine c_newEntry kit λx dx t τ nx k hx=>?_
 have ne:e≠x:=λz=>by rw[z,nx] at he;exact nn he
 have he':=k _ _ he not_false
 refine at1 he' (by rfl) (by rfl) ?_
 refine st1 hx (by rfl) (by exact Nat.le_of_ble_eq_true rfl) (fs':=efs L { E with sight:=sg } nest) (by rfl) ?_
 refine at1 ((up_ne ne).trans he') (by rfl) (by rfl) ?_
 refine st1 (up_self ..) (by rfl) (by exact Nat.le_of_ble_eq_true rfl) (fs':=efs L { E with sight:=sg } nest) (by rfl) ?_
 refine h x dx _ ((k.upr nx).upr nx) (up_self ..)
noncomputable abbrev dfU (s:Gs) (n:Nd) (x:Str) (o:Option (Option En)):Nd→Str→Option (Option En):=upd s.df n λk=>if k=x then o else s.df n k
noncomputable abbrev Turned (L:Ly) (Z:Addr→Prop) (s:Gs) (df:Nd→Str→Option (Option En)) (τ:AH):Prop:=GI L Z { s with df:=df,g:={ s.g with ver:=s.g.ver + 1 } } τ
theorem MD.ga {b:Addr} (h:MD L b):GA L s b:=.inr (.inr (h.imp λn e=>.inl e))
theorem GI.raise0 (g:GI L Z s σ):GI L Z { s with g:={ s.g with ver:=s.g.ver + 1 } } (up σ L.wd (.inst 924 L.dw (WF.fs { s.g with ver:=s.g.ver + 1 }))):=g.raise (mx:=s.mx) (ah:=s.ah) g.sok (Kx.refl _ _) g.mxd g.ahd
theorem sia {a:Addr} {kvs kvs':List (Str×AV)} {k:Str} {v:AV} {P:AH→Prop} (h:σ a=some (.sdict kvs)) (z:kvs.length≤900) (e:kput kvs k v=kvs') (q:P (up σ a (.sdict kvs'))):setItemA (.ref a) (.str k) v σ P:=si1 h z e q
theorem c_put (kit:Kit prog w K B) {d:Nat} {n:Nd} {x:Str} {o:Option En} {v:AV} (g:GI L Z s σ) (hn:spot n) (hx:x∈fg) (hv:deR L σ o v) (h:∀τ,Kx (GA L s) σ τ→Turned L Z s (dfU s n x (some o)) τ→Q .none τ) :
 setItemA (.ref (L.mf n).meths) (.str x) v σ λσ=>CallOK prog w B (d + 1) 455 [.ref L.wd] σ Q X:=by
 obtain ⟨kvs,hm,dr⟩:=g.met n
 refine sia hm dr.len rfl ?_
 have g1:=g.setDf hn (dr.put hx hv)
 refine c_raise kit g1.bw.w ?_
 exact h _ (((Kx.refl _ _).up (.inl (.inr (.inr ⟨n,.inr (.inl rfl)⟩)))).up (.inl (.inl rfl))) g1.raise0
theorem c_place (kit:Kit prog w K B) {d:Nat} {n:Nd} {x:Str} {o:Option En} {v:AV} (g:GI L Z s σ) (hn:spot n) (hx:x∈fg) (hv:deR L σ o v) (h0:s.fz n=false→∀τ,Kx (GA L s) σ τ→Turned L Z s (dfU s n x (some o)) τ→Q .none τ)
 (h1:s.fz n=true→Fails L s σ "FrozenError" X):CallOK prog w B (d + 34) 483 [.ref L.wd,L.ref n,.str x,v] σ Q X:=by
 refine callFn (n:=20) (d:=d + 33) kit.gd kit.snd (kit.fns 19) ?_
 refine c_unfrozen kit g (λe=>?_) h1
 refine at1 (g.mod n) (by rfl) (x:=.ref (L.mf n).meths) (by rfl) ?_
 exact c_put (d:=d + 32) kit g hn hx hv (h0 e)
theorem c_define (kit:Kit prog w K B) {d:Nat} {n:Nd} {E:En} {e de:Addr} {nest:AV} (g:GI L Z s σ) (hn:spot n) (hx:E.name∈fg) (he:σ e=some (.inst 256 de (efs L E nest))) (h0:s.fz n=false→∀τ,Kx (GA L s) σ τ→Turned L Z s (dfU s n E.name (some (some E))) τ→Q .none τ)
 (h1:s.fz n=true→Fails L s σ "FrozenError" X):CallOK prog w B (d + 34) 476 [.ref L.wd,L.ref n,.ref e] σ Q X:=by
 refine callFn (n:=20) (d:=d + 33) kit.gd kit.snd (kit.fns 18) ?_
 refine c_unfrozen kit g (λz=>?_) h1
 refine at1 (g.mod n) (by rfl) (x:=.ref (L.mf n).meths) (by rfl) ?_
 refine at1 he (by rfl) (by rfl) ?_
 exact c_put (d:=d + 32) (o:=some E) kit g hn hx ⟨e,de,nest,rfl,he⟩ (h0 z)
noncomputable abbrev Gs.alt (s:Gs) (kept:Nd→AV) (l:Int) (made:List (Str×AV)):Gs:={ s with kept:=kept,g:={ s.g with last:=l },made:=made }
noncomputable abbrev FailsG (L:Ly) (Z:Addr→Prop) (s:Gs) (σ:AH) (nm:Str) (X:Post):Prop:=∀v τ kept l made,GI L Z (s.alt kept l made) τ→Kx (GA L s) σ τ→(∀P:Post,P (.str nm) τ→attrA "owner" v τ λc σ=>attrA "name" c σ P)→X v τ
theorem FailsG.at {σ₁:AH} {nm:Str} {kept:Nd→AV} {l:Int} {made:List (Str×AV)} (f:FailsG L Z s σ nm X) (g:GI L Z (s.alt kept l made) σ₁) (k:Kx (GA L s) σ σ₁):Fails L (s.alt kept l made) σ₁ nm X:=λv τ g' kvs' bp e=>by
 obtain ⟨l',rfl,_⟩:=bp.gs
 exact f v τ kept l' kvs' (g.bp bp) (k.trans (bp.kx.mono λb z=>z.elim .inl λz=>.inr (.inl z))) e
theorem lineO (h:SOK s):lineG s .O=[.O,.K,.X]:=by
 have k:=h.kx
 unfold subs at k
 obtain ⟨k1,k2⟩:=List.append_eq_nil_iff.mp k.1
 obtain ⟨k3,k4⟩:=List.append_eq_nil_iff.mp k.2
 have p1:pts s.mx s.ah 2 .X=[(.X,false)]:=by show (((s.ah .X).reverse.flatMap _).map _ ++ (NdP.X :: (s.mx .X).reverse.flatMap _).map _)=_;rw[k3,k4];rfl
 have o1:ol s.mx s.ah 2 .K=[.K]:=by show (s.ah .K).reverse.flatMap _ ++ NdP.K :: (s.mx .K).reverse.flatMap _=_;rw[k1,k2];rfl
 have p2:pts s.mx s.ah 2 .O=[(.O,false),(.K,false)]:=by show (((s.ah .O).reverse.flatMap _).map _ ++ (NdP.O :: (s.mx .O).reverse.flatMap (ol s.mx s.ah 2)).map _)=_;rw[h.o.1,h.o.2];show (NdP.O,false) :: (ol s.mx s.ah 2 .K ++ []).map _=_;rw[o1];rfl
 have b:line parG s.mx s.ah 4 .X=[.X]:=by show over (mfold [] (pts s.mx s.ah 2 .X) []) []=_;rw[p1];rfl
 show over (mfold (line parG s.mx s.ah 4 .X) (pts s.mx s.ah 2 .O) []) (line parG s.mx s.ah 4 .X)=_
 rw[b,p2];rfl
theorem seekO (h:SOK s) (x:Str):seek s.df x (lineG s .O)=none:=by
 refine rE (lineO h) ?_
 rw[seek_c,h.df .O (.inl rfl)]
 refine rE seek_c ?_;refine rE (h.df .K (.inr (.inl rfl)) _) ?_
 refine rE seek_c ?_;refine rE (h.df .X (.inr (.inr rfl)) _) ?_
 rfl
theorem fg_len {x:Str} (h:x∈fg):x.length=1:=by
 revert x;decide
theorem c_need (kit:Kit prog w K B) {d:Nat} {n:Nd} {x:Str} (g:GI L Z s σ) (hx:x∈fg) (h:∀E v τ kept,seek s.df x (lineG s n)=some E→GI L Z { s with kept:=kept } τ→Kx (MD L) σ τ→enR L τ (some E) v→Q v τ)
 (hf:seek s.df x (lineG s n)=none→FailsG L Z s σ "NameError" X):CallOK prog w B (d + 33) 497 [.ref L.wd,L.ref n,.str x] σ Q X:=by
 refine callFn (n:=20) (d:=d + 32) kit.gd kit.snd (kit.fns 21) ?_
 refine c_find kit g (Nat.le_trans (dE rfl:17≤32) (Nat.le_add_left _ _)) λv τ kept g1 k1 hv=>?_
 induction e:seek s.df x (lineG s n) with
 |some E=>
  rw[e] at hv
  have hv':=hv
  obtain ⟨a,da,nest,rfl,ha⟩:=hv
  exact h E _ τ kept e g1 k1 hv'
 |none=>
  rw[e] at hv
  have hv:v=.none:=hv
  subst hv
  have fl:∀ρ τ kept l made,ρ=(fL (fst 51) [.ref L.wd,L.ref n,.str x]).set (S "found") .none→GI L Z (s.alt kept l made) τ→Kx (GA L s) σ τ→fS prog w B (fst 51) (d + 32) X 18 2 ρ τ Q:=by
   rintro ρ τ kept l made rfl g2 k2
   refine meth1 g2.bw.w (by rfl) (wf_none _ (dE rfl)) ?_
   have e0:=fg_len hx
   have e1:(Str.ofString "undefined method '").length=18:=dE rfl
   have e2:(Str.ofString "' for ").length=6:=dE rfl
   have e3:(Str.ofString " '").length=2:=dE rfl
   have e4:(Str.ofString "'").length=1:=dE rfl
   refine ⟨by (refine rE e0 ?_;refine rE e1 ?_);decide,?_⟩
   refine ⟨by rw[Str.length_append,e0,e1,e2];decide,?_⟩
   refine c_kind kit (d:=d + 31) g2 λy hy=>?_
   refine ⟨by rw[Str.length_append,Str.length_append,e0,e1,e2];lia,?_⟩
   refine ⟨by rw[Str.length_append,Str.length_append,Str.length_append,e0,e1,e2,e3];lia,?_⟩
   refine c_full kit (d:=d + 28) g2 λz hz=>?_
   refine ⟨by rw[Str.length_append,Str.length_append,Str.length_append,Str.length_append,e0,e1,e2,e3];lia,?_⟩
   refine ⟨by rw[Str.length_append,Str.length_append,Str.length_append,Str.length_append,Str.length_append,e0,e1,e2,e3,e4];lia,?_⟩
   exact c_failG kit (dE rfl) g2 ((hf e).at g2 k2)
  have k1':Kx (GA L s) σ τ:=k1.mono λb z=>z.ga
  refine at1 (g1.mod n) (by rfl) (x:=.bool (iscG n)) (congrArg (λb=>some (AV.bool b)) (g1.lok.isc n)) ?_
  induction iscG n with
  |true=>exact nilS (n:=17) (fl _ τ kept s.g.last s.made (by rfl) g1 k1')
  |false=>
   refine meth1 g1.bw.w (by rfl) (wf_none _ (dE rfl)) ?_
   refine c_blt kit g1.bw (dE rfl) (Nat.le_trans (dE rfl:BD≤32) (Nat.le_add_left _ _)) λa τ₂ g' kvs' _ bp ea=>?_
   have eO:=bp.ext _ _ g1.bo
   rw[eO] at ea
   injection ea with ea
   refine rL ea ?_
   have g2:=g1.bp bp
   obtain ⟨l,rfl,_⟩:=bp.gs
   refine c_find kit g2 (Nat.le_trans (dE rfl:17≤32) (Nat.le_add_left _ _)) λv τ₃ kept₃ g3 k3 hv=>?_
   rw[show lineG _ NdP.O=lineG s .O from rfl,show seek _ x (lineG s .O)=seek s.df x (lineG s .O) from rfl,seekO g.sok] at hv
   have hv:v=.none:=hv
   subst hv
   exact nilS (n:=16) (fl _ τ₃ kept₃ l kvs' (by rfl) g3 ((k1'.trans (bp.kx.mono λb z=>z.elim .inl λz=>.inr (.inl z))).trans (k3.mono λb z=>z.ga)))
noncomputable abbrev DoneG (L:Ly) (Z:Addr→Prop) (s:Gs) (df:Nd→Str→Option (Option En)) (σ:AH) (Q:Post):Prop:=∀τ kept,GI L Z { s with df:=df,kept:=kept,g:={ s.g with ver:=s.g.ver + 1 } } τ→Kx (GA L s) σ τ→Q .none τ
theorem c_undef (kit:Kit prog w K B) {d:Nat} {n:Nd} {x:Str} (g:GI L Z s σ) (hn:spot n) (hx:x∈fg) (hN:seek s.df x (lineG s n)=none→FailsG L Z s σ "NameError" X)
 (hF:∀E,seek s.df x (lineG s n)=some E→s.fz n=true→FailsG L Z s σ "FrozenError" X) (hQ:∀E,seek s.df x (lineG s n)=some E→s.fz n=false→DoneG L Z s (dfU s n x (some none)) σ Q):CallOK prog w B (d + 35) 504 [.ref L.wd,L.ref n,.str x] σ Q X:=by
 refine callFn (n:=20) (d:=d + 34) kit.gd kit.snd (kit.fns 22) ?_
 refine c_need kit (d:=d + 1) g hx (λE v τ kept hs g1 k1 hv=>?_) hN
 refine c_newEntry kit (d:=d + 32) λy dy t τ₂ ny k2 hy=>?_
 have kk:Kx (GA L s) σ τ₂:=(k1.mono λb z=>z.ga).trans (k2.mono λ_ z=>z.elim)
 have g2:=g1.keep k2
 refine c_place kit (o:=none) g2 hn hx ⟨y,dy,_,rfl,hy,by rfl⟩ (λe τ₃ k3 g3=>?_) λe=>(hF E hs e).at (kept:=kept) (l:=s.g.last) (made:=s.made) g2 kk
 exact hQ E hs e τ₃ kept g3 (kk.trans k3)
theorem c_alias (kit:Kit prog w K B) {d:Nat} {n:Nd} {x y:Str} (g:GI L Z s σ) (hn:spot n) (hx:x∈fg) (hy:y∈fg) (hN:seek s.df x (lineG s n)=none→FailsG L Z s σ "NameError" X)
 (hF:∀E,seek s.df x (lineG s n)=some E→s.fz n=true→FailsG L Z s σ "FrozenError" X) (hQ:∀E,seek s.df x (lineG s n)=some E→s.fz n=false→DoneG L Z s (dfU s n y (some (some E))) σ Q):CallOK prog w B (d + 35) 525 [.ref L.wd,L.ref n,.str y,.str x] σ Q X:=by
 refine callFn (n:=20) (d:=d + 34) kit.gd kit.snd (kit.fns 25) ?_
 refine c_need kit (d:=d + 1) g hx (λE v τ kept hs g1 k1 hv=>?_) hN
 obtain ⟨e,de,nest,rfl,he⟩:=hv
 refine at1 he (by rfl) (by rfl) ?_
 refine c_copied kit (d:=d + 30) he λc dc τ₂ k2 hc=>?_
 have kk:Kx (GA L s) σ τ₂:=(k1.mono λb z=>z.ga).trans (k2.mono λ_ z=>z.elim)
 have g2:=g1.keep k2
 refine c_place kit (o:=some E) g2 hn hy ⟨c,dc,nest,rfl,hc⟩ (λe τ₃ k3 g3=>?_) λe=>(hF E hs e).at (kept:=kept) (l:=s.g.last) (made:=s.made) g2 kk
 exact hQ E hs e τ₃ kept g3 (kk.trans k3)
theorem c_remove (kit:Kit prog w K B) {d:Nat} {n:Nd} {x:Str} (g:GI L Z s σ) (hn:spot n) (hx:x∈fg) (hN:(∀E,s.df n x≠some (some E))→FailsG L Z s σ "NameError" X)
 (hF:∀E,s.df n x=some (some E)→s.fz n=true→FailsG L Z s σ "FrozenError" X) (hQ:∀E,s.df n x=some (some E)→s.fz n=false→DoneG L Z s (dfU s n x none) σ Q):CallOK prog w B (d + 35) 511 [.ref L.wd,L.ref n,.str x] σ Q X:=by
 refine callFn (n:=20) (d:=d + 34) kit.gd kit.snd (kit.fns 23) ?_
 refine c_entry_at kit (d:=d + 32) g λv τ k1 hv=>?_
 have g1:=g.keep k1
 have k1':Kx (GA L s) σ τ:=k1.mono λ_ z=>z.elim
 have e0:=fg_len hx
 have e1:(Str.ofString "method '").length=8:=dE rfl
 have e2:(Str.ofString "' not defined in ").length=17:=dE rfl
 have gt:∀{Q X:Post},((∀y:Str,y.length≤100→Q (.str y) τ))→CallOK prog w B (d + 34) 308 [L.ref n] τ Q X:=λh=>c_full kit (d:=d + 30) g1 h
 induction e:s.df n x with
 |none=>
  rw[e] at hv
  have hv:v=.none:=hv
  subst hv
  refine meth1 g1.bw.w (by rfl) (wf_none _ (dE rfl)) ?_
  refine ⟨by (refine rE e0 ?_;refine rE e1 ?_);decide,?_⟩
  refine ⟨by rw[Str.length_append,e0,e1,e2];decide,?_⟩
  refine gt λy hy=>?_
  refine ⟨by rw[Str.length_append,Str.length_append,e0,e1,e2];lia,?_⟩
  exact c_failG kit (d:=d + 2) (dE rfl) g1 ((hN (λE=>by refine rE e ?_;intro z;exact nn z)).at (kept:=s.kept) (l:=s.g.last) (made:=s.made) g1 k1')
 |some o=>
  rw[e] at hv
  obtain ⟨a,da,fs,rfl,ha,hs⟩:=hv.sort
  refine at1 ha (by rfl) hs ?_
  induction o with
  |none=>
   refine eq1 (r:=true) (by rfl) ?_
   refine meth1 g1.bw.w (by rfl) (wf_none _ (dE rfl)) ?_
   refine ⟨by (refine rE e0 ?_;refine rE e1 ?_);decide,?_⟩
   refine ⟨by rw[Str.length_append,e0,e1,e2];decide,?_⟩
   refine gt λy hy=>?_
   refine ⟨by rw[Str.length_append,Str.length_append,e0,e1,e2];lia,?_⟩
   exact c_failG kit (d:=d + 2) (dE rfl) g1 ((hN (λE=>by refine rE e ?_;intro z;exact nn (sJ z))).at (kept:=s.kept) (l:=s.g.last) (made:=s.made) g1 k1')
  |some E=>
   refine eq1 (r:=false) (by rfl) ?_
   refine c_unfrozen kit (d:=d + 1) g1 (λz=>?_) λz=>(hF E e z).at (kept:=s.kept) (l:=s.g.last) (made:=s.made) g1 k1'
   refine at1 (g1.mod n) (by rfl) (natn g1 n) ?_
   have en:natG n=.none:=by
    induction n with
    |O=>exact absurd rfl hn.1
    |K=>exact absurd rfl hn.2.1
    |X=>exact absurd rfl hn.2.2
    |_=>rfl
   refine rE en ?_
   obtain ⟨kvs,hm,dr⟩:=g1.met n
   refine at1 (g1.mod n) (by rfl) (x:=.ref (L.mf n).meths) (by rfl) ?_
   refine ⟨⟨_,rd_of hm⟩,?_⟩
   obtain ⟨v',hv'⟩:∃v',kget kvs x=some v':=by
    rcases dr.at_ x with ⟨q,_⟩|⟨o,v',_,q,_⟩
    ·have q:s.df n x=none:=q
     rw[q] at e;exact nn e
    ·exact ⟨v',q⟩
   refine ⟨kvs,v',hm,hv',dr.len,?_⟩
   have g2:=g1.setDf (n:=n) hn (dr.del (n:=x))
   refine c_raise kit (d:=d + 33) g2.bw.w ?_
   exact hQ E e z _ s.kept g2.raise0 (k1'.trans (((Kx.refl _ _).up (.inl (.inr (.inr ⟨n,.inr (.inl rfl)⟩)))).up (.inl (.inl rfl))))
theorem c_sight (kit:Kit prog w K B) {d:Nat} {n:Nd} {x sg:Str} {ln:Addr} (g:GI L Z s σ) (hn:spot n) (hx:x∈fg) (hl:σ ln=some (.list [.str x])) (hln:¬GA L s ln) (hN:seek s.df x (lineG s n)=none→FailsG L Z s σ "NameError" X)
 (hF:∀E,seek s.df x (lineG s n)=some E→(E.sight≠sg∨s.df n x=none)→s.fz n=true→FailsG L Z s σ "FrozenError" X)
 (hQ:∀E,seek s.df x (lineG s n)=some E→(E.sight≠sg∨s.df n x=none)→s.fz n=false→DoneG L Z s (dfU s n x (some (some { E with sight:=sg }))) σ Q)
 (hK:∀E,seek s.df x (lineG s n)=some E→¬(E.sight≠sg∨s.df n x=none)→∀τ kept,GI L Z { s with kept:=kept } τ→Kx (GA L s) σ τ→Q .none τ):CallOK prog w B (d + 35) 532 [.ref L.wd,L.ref n,.ref ln,.str sg] σ Q X:=by
 refine callFn (n:=20) (d:=d + 34) kit.gd kit.snd (kit.fns 26) ?_
 refine .inl ⟨_,rd_of hl,(dE rfl:1≤100000),?_⟩
 refine ⟨λrest ρ τ=>(rest=[.str x]∧τ=σ∧ρ=fL (fst 56) [.ref L.wd,L.ref n,.ref ln,.str sg])∨(rest=[]∧Q .none τ∧τ ln=some (.list [.str x])),.inl ⟨rfl,rfl,by rfl⟩,?_,?_⟩
 ·rintro ρ τ (⟨h,_⟩|⟨_,q,h⟩)
  ·exact nC List.ctorIdx h rfl
  ·exact ⟨rd_of h,q⟩
 ·rintro y rest ρ τ (⟨h,rfl,rfl⟩|⟨h,_⟩)
  ·refine ⟨rd_of hl,?_⟩
   obtain ⟨h1,h2⟩:=List.cons.inj h
   subst h1 h2
   refine c_need kit (d:=d + 1) g hx (λE v τ₁ kept hs g1 k1 hv=>?_) hN
   obtain ⟨e,de,nest,rfl,he⟩:=hv
   have k1':Kx (GA L s) τ τ₁:=k1.mono λb z=>z.ga
   have go:∀τ₂,Kx NoS τ₁ τ₂→(E.sight≠sg∨s.df n x=none)→CallOK prog w B (d + 34) 518 [.ref e,.str sg] τ₂ (λv τ=>CallOK prog w B (d + 34) 483 [.ref L.wd,L.ref n,.str x,v] τ (λ_ τ=>Q .none τ∧τ ln=some (.list [.str x])) X) X:=by
    intro τ₂ k2 hc
    have g2:=g1.keep k2
    refine c_copied kit (d:=d + 30) (k2 _ _ he not_false) λc dc τ₃ k3 he3=>?_
    have kk:Kx (GA L s) τ τ₃:=k1'.trans ((k2.trans k3).mono λ_ z=>z.elim)
    have g3:=g2.keep k3
    refine c_place kit (o:=some { E with sight:=sg }) g3 hn hx ⟨c,dc,nest,rfl,he3⟩ (λef τ₄ k4 g4=>⟨?_,?_⟩) λef=>(hF E hs hc ef).at (kept:=kept) (l:=s.g.last) (made:=s.made) g3 kk
    ·exact hQ E hs hc ef τ₄ kept g4 (kk.trans k4)
    ·exact kk.trans k4 _ _ hl hln
   refine at1 he (by rfl) (by rfl) ?_
   refine eq1 (r:=decide (E.sight=sg)) (by rfl) ?_
   by_cases es:E.sight=sg
   ·refine rE (decide_eq_true es) ?_
    refine c_entry_at kit (d:=d + 32) g1 λv τ₂ k2 hv=>?_
    induction ed:s.df n x with
    |none=>
     have ed':Gs.df { s with kept:=kept } n x=none:=ed
     rw[ed'] at hv
     have hv:v=.none:=hv
     subst hv
     exact (go τ₂ k2 (.inr ed)).mono (λv τ h=>h.mono (λ_ τ h=>.inr ⟨rfl,h⟩) λ_ _ h=>h) λ_ _ h=>h
    |some o=>
     have ed':Gs.df { s with kept:=kept } n x=some o:=ed
     rw[ed'] at hv
     obtain ⟨a,da,fs,rfl,_,_⟩:=hv.sort
     refine Or.inr ⟨rfl,?_,?_⟩
     ·exact hK E hs (λz=>z.elim (λq=>q es) λq=>by rw[ed] at q;exact nS q) τ₂ kept (g1.keep k2) (k1'.trans (k2.mono λ_ z=>z.elim))
     ·exact (k1'.trans (k2.mono λ_ z=>z.elim)) _ _ hl hln
   ·refine rE (decide_eq_false es) ?_
    exact (go τ₁ (Kx.refl _ _) (.inl es)).mono (λv τ h=>h.mono (λ_ τ h=>.inr ⟨rfl,h⟩) λ_ _ h=>h) λ_ _ h=>h
  ·exact nC List.ctorIdx h rfl
theorem ol_self {mx ah:Nd→List Nd} (k:Nat) (n:Nd):n∈ol mx ah (k + 1) n:=List.mem_append_right _ (.head _)
theorem ol_sub {n c:Nd} (h:c∈subs s n) (k:Nat):c∈ol s.mx s.ah (k + 2) n:=by
 rcases List.mem_append.mp h with h|h
 ·exact List.mem_append_left _ (List.mem_flatMap.mpr ⟨c,List.mem_reverse.mpr h,ol_self k c⟩)
 ·exact List.mem_append_right _ (.tail _ (List.mem_flatMap.mpr ⟨c,List.mem_reverse.mpr h,ol_self k c⟩))
theorem SOK.add (h:SOK s) {n m:Nd} (hn:spot n) (hm:m=.M∨m=.N) (hc:n∉ol s.mx s.ah 3 m) {mx ah:Nd→List Nd} (e:∀k,k≠n→mx k=s.mx k∧ah k=s.ah k) (e':∀c,c∈ah n ++ mx n→c∈subs s n∨c=m) (nd:(mx n).Nodup∧(ah n).Nodup) :
 SOK { s with mx:=mx,ah:=ah }:=by
 have sb:∀k,k≠n→subs { s with mx:=mx,ah:=ah } k=subs s k:=λk z=>by unfold subs;dsimp only;(refine rE ((e k z).1) ?_;exact rE ((e k z).2) rfl)
 have sn:∀c,c∈subs { s with mx:=mx,ah:=ah } n→c∈subs s n∨c=m:=e'
 have nm:n≠m:=λz=>hc (z▸ol_self 2 n)
 have inm:n∉subs s m:=λz=>hc (ol_sub z 1)
 refine ⟨λk c hk=>?_,λk=>?_,⟨?_,?_,?_⟩,?_,?_,h.df⟩
 ·by_cases z:k=n
  ·subst z
   rcases sn c hk with q|q
   ·exact h.sub _ _ q
   ·rcases hm with hm|hm
    ·exact .inl (q.trans hm)
    ·exact .inr (.inl (q.trans hm))
  ·rw[sb k z] at hk;exact h.sub _ _ hk
 ·by_cases z:k=n
  ·subst z;exact nd
  ·show (mx k).Nodup∧(ah k).Nodup
   (refine rE ((e k z).1) ?_;refine rE ((e k z).2) ?_);exact h.nd k
 ·intro hk
  by_cases z:NdP.M=n
  ·subst z
   exact (sn _ hk).elim h.acy.1 λq=>nm q
  ·rw[sb _ z] at hk;exact h.acy.1 hk
 ·intro hk
  by_cases z:NdP.N=n
  ·subst z
   exact (sn _ hk).elim h.acy.2.1 λq=>nm q
  ·rw[sb _ z] at hk;exact h.acy.2.1 hk
 ·by_cases z:NdP.M=n
  ·subst z
   refine rE (sb .N (dE rfl)) ?_
   rcases hm with rfl|rfl
   ·exact absurd rfl nm
   ·exact .inr inm
  ·by_cases z':NdP.N=n
   ·subst z'
    refine rE (sb .M (dE rfl)) ?_
    rcases hm with rfl|rfl
    ·exact .inl inm
    ·exact absurd rfl nm
   ·(refine rE (sb _ z) ?_;refine rE (sb _ z') ?_);exact h.acy.2.2
 ·show mx .O=_∧ah .O=_
  (refine rE ((e .O hn.1.symm).1) ?_;refine rE ((e .O hn.1.symm).2) ?_);exact h.o
 ·(refine rE (sb _ hn.2.1.symm) ?_;refine rE (sb _ hn.2.2.symm) ?_);exact h.kx
theorem c_mixin (kit:Kit prog w K B) {d:Nat} {n m:Nd} (g:GI L Z s σ) (hm:m=.M∨m=.N) (hf:n∈ol s.mx s.ah 3 m→FailsG L Z s σ "ArgumentError" X) (h:n∉ol s.mx s.ah 3 m→∀τ,Kx NoS σ τ→Q .none τ):CallOK prog w B (d + 33) 539 [.ref L.wd,L.ref n,L.ref m] σ Q X:=by
 refine callFn (n:=20) (d:=d + 32) kit.gd kit.snd (kit.fns 27) ?_
 refine isi1 (g.mod m) (r:=true) (by rfl) ?_
 have ei:iscG m=false:=by rcases hm with rfl|rfl<;>rfl
 refine at1 (g.mod m) (by rfl) (x:=.bool false) (congrArg (λb=>some (AV.bool b)) ((g.lok.isc m).trans ei)) ?_
 refine c_own kit g (Nat.le_trans (dE rfl:4≤32) (Nat.le_add_left _ _)) λl τ k1 _ hl=>?_
 have g1:=g.keep k1
 have l3:(ol s.mx s.ah 3 m).length≤21:=ol_len g.sok 3 m
 refine c_has kit (d:=d + 29) (ns:=ol s.mx s.ah 3 m) (y:=n) g1 (rd_of hl) (Nat.le_trans l3 (dE rfl)) ?_
 induction e:(ol s.mx s.ah 3 m).contains n with
 |true=>
  refine meth1 g1.bw.w (by rfl) (wf_none _ (dE rfl)) ?_
  exact c_failG kit (dE rfl) g1 ((hf (List.contains_iff_mem.mp e)).at (kept:=s.kept) (l:=s.g.last) (made:=s.made) g1 (k1.mono λ_ z=>z.elim))
 |false=>exact h (λz=>by rw[List.contains_iff_mem.mpr z] at e;exact Bool.noConfusion e) τ k1
theorem c_include (kit:Kit prog w K B) {d:Nat} {n m:Nd} (g:GI L Z s σ) (hn:spot n) (hm:m=.M∨m=.N) (hA:n∈ol s.mx s.ah 3 m→FailsG L Z s σ "ArgumentError" X)
 (hF:n∉ol s.mx s.ah 3 m→s.fz n=true→FailsG L Z s σ "FrozenError" X)
 (hK:n∉ol s.mx s.ah 3 m→s.fz n=false→m∈s.mx n→∀τ,Kx NoS σ τ→Q .none τ)
 (hQ:n∉ol s.mx s.ah 3 m→s.fz n=false→m∉s.mx n→∀τ,Kx (GA L s) σ τ→GI L Z { s with mx:=upd s.mx n (s.mx n ++ [m]),g:={ s.g with ver:=s.g.ver + 1 } } τ→Q .none τ):CallOK prog w B (d + 34) 546 [.ref L.wd,L.ref n,L.ref m] σ Q X:=by
 refine callFn (n:=20) (d:=d + 33) kit.gd kit.snd (kit.fns 28) ?_
 refine c_mixin kit (d:=d) g hm hA λhc τ k1=>?_
 have g1:=g.keep k1
 have k1':Kx (GA L s) σ τ:=k1.mono λ_ z=>z.elim
 refine c_unfrozen kit (d:=d) g1 (λef=>?_) λef=>(hF hc ef).at (kept:=s.kept) (l:=s.g.last) (made:=s.made) g1 k1'
 refine at1 (g1.mod n) (by rfl) (x:=.ref (L.mf n).mixed) (by rfl) ?_
 have two:=g.sok.two n
 refine c_has kit (d:=d + 30) (ns:=s.mx n) (y:=m) g1 (rd_of (g1.mxd n)) (Nat.le_trans two.1 (dE rfl)) ?_
 induction e:(s.mx n).contains m with
 |true=>exact nilS (nilS (hK hc ef (List.contains_iff_mem.mp e) τ k1))
 |false=>
  have e':m∉s.mx n:=λz=>by rw[List.contains_iff_mem.mpr z] at e;exact Bool.noConfusion e
  refine at1 (g1.mod n) (by rfl) (x:=.ref (L.mf n).mixed) (by rfl) ?_
  refine ⟨⟨_,rd_of (g1.mxd n)⟩,_,g1.mxd n,by refine rE (List.length_map _) ?_;exact Nat.le_trans two.1 (dE rfl),?_⟩
  have sok:SOK { s with mx:=upd s.mx n (s.mx n ++ [m]),ah:=s.ah }:=by
   refine g.sok.add hn hm hc (λk z=>⟨upd_ne z,rfl⟩) (λc hcc=>?_) ⟨?_,(g.sok.nd n).2⟩
   ·rw[upd_self] at hcc
    rcases List.mem_append.mp hcc with q|q
    ·exact .inl (List.mem_append_left _ q)
    ·rcases List.mem_append.mp q with q|q
     ·exact .inl (List.mem_append_right _ q)
     ·exact .inr (List.mem_singleton.mp q)
   ·rw[upd_self,List.nodup_append]
    refine iAA ((g.sok.nd n).1) (by simp) (λa ha b hb=>?_)
    rw[List.mem_singleton] at hb
    rintro rfl
    exact e' (hb▸ha)
  have kx:Kx (λb=>∃n,b=(L.mf n).mixed∨b=(L.mf n).ahead) τ (up τ (L.mf n).mixed (.list ((s.mx n).map L.ref ++ [L.ref m]))):=(Kx.refl _ _).up (.inl ⟨n,.inl rfl⟩)
  have g2:=g1.raise sok kx (λc=>?_) (λc=>(up_ne (g.lok.mxah n c (.inl hn)).symm).trans (g1.ahd c))
  ·refine c_raise kit (d:=d + 32) (kx _ _ g1.bw.w λzz=>zz.elim λc z=>?_) ?_
   ·rcases z with z|z
    ·have:=g1.mxd c;rw[←z,g1.bw.w] at this;exact nC AO.ctorIdx (sJ this) rfl
    ·have:=g1.ahd c;rw[←z,g1.bw.w] at this;exact nC AO.ctorIdx (sJ this) rfl
   ·exact nilS (nilS (hQ hc ef e' _ ((k1'.up (.inl (.inr (.inr ⟨n,.inr (.inr (.inl rfl))⟩)))).up (.inl (.inl rfl))) g2))
  ·by_cases z:c=n
   ·subst z
    rw[up_self,upd_self,List.map_append];rfl
   ·(refine rE (up_ne (λq=>z (g.lok.mx _ _ hn q))) ?_;refine rE (upd_ne z) ?_);exact g1.mxd c
theorem c_prepend (kit:Kit prog w K B) {d:Nat} {n m:Nd} (g:GI L Z s σ) (hn:spot n) (hm:m=.M∨m=.N) (hA:n∈ol s.mx s.ah 3 m→FailsG L Z s σ "ArgumentError" X)
 (hF:n∉ol s.mx s.ah 3 m→s.fz n=true→FailsG L Z s σ "FrozenError" X)
 (hK:n∉ol s.mx s.ah 3 m→s.fz n=false→m∈s.ah n→∀τ,Kx NoS σ τ→Q .none τ)
 (hQ:n∉ol s.mx s.ah 3 m→s.fz n=false→m∉s.ah n→∀τ,Kx (GA L s) σ τ→GI L Z { s with ah:=upd s.ah n (s.ah n ++ [m]),g:={ s.g with ver:=s.g.ver + 1 } } τ→Q .none τ):CallOK prog w B (d + 34) 553 [.ref L.wd,L.ref n,L.ref m] σ Q X:=by
 refine callFn (n:=20) (d:=d + 33) kit.gd kit.snd (kit.fns 29) ?_
 refine c_mixin kit (d:=d) g hm hA λhc τ k1=>?_
 have g1:=g.keep k1
 have k1':Kx (GA L s) σ τ:=k1.mono λ_ z=>z.elim
 refine c_unfrozen kit (d:=d) g1 (λef=>?_) λef=>(hF hc ef).at (kept:=s.kept) (l:=s.g.last) (made:=s.made) g1 k1'
 refine at1 (g1.mod n) (by rfl) (x:=.ref (L.mf n).ahead) (by rfl) ?_
 have two:=g.sok.two n
 refine c_has kit (d:=d + 30) (ns:=s.ah n) (y:=m) g1 (rd_of (g1.ahd n)) (Nat.le_trans two.2 (dE rfl)) ?_
 induction e:(s.ah n).contains m with
 |true=>exact nilS (nilS (hK hc ef (List.contains_iff_mem.mp e) τ k1))
 |false=>
  have e':m∉s.ah n:=λz=>by rw[List.contains_iff_mem.mpr z] at e;exact Bool.noConfusion e
  refine at1 (g1.mod n) (by rfl) (x:=.ref (L.mf n).ahead) (by rfl) ?_
  refine ⟨⟨_,rd_of (g1.ahd n)⟩,_,g1.ahd n,by refine rE (List.length_map _) ?_;exact Nat.le_trans two.2 (dE rfl),?_⟩
  have sok:SOK { s with mx:=s.mx,ah:=upd s.ah n (s.ah n ++ [m]) }:=by
   refine g.sok.add hn hm hc (λk z=>⟨rfl,upd_ne z⟩) (λc hcc=>?_) ⟨(g.sok.nd n).1,?_⟩
   ·rw[upd_self] at hcc
    rcases List.mem_append.mp hcc with q|q
    ·rcases List.mem_append.mp q with q|q
     ·exact .inl (List.mem_append_left _ q)
     ·exact .inr (List.mem_singleton.mp q)
    ·exact .inl (List.mem_append_right _ q)
   ·rw[upd_self,List.nodup_append]
    refine iAA ((g.sok.nd n).2) (by simp) (λa ha b hb=>?_)
    rw[List.mem_singleton] at hb
    rintro rfl
    exact e' (hb▸ha)
  have kx:Kx (λb=>∃n,b=(L.mf n).mixed∨b=(L.mf n).ahead) τ (up τ (L.mf n).ahead (.list ((s.ah n).map L.ref ++ [L.ref m]))):=(Kx.refl _ _).up (.inl ⟨n,.inr rfl⟩)
  have g2:=g1.raise sok kx (λc=>(up_ne (g.lok.mxah c n (.inr hn))).trans (g1.mxd c)) (λc=>?_)
  ·refine c_raise kit (d:=d + 32) (kx _ _ g1.bw.w λzz=>zz.elim λc z=>?_) ?_
   ·rcases z with z|z
    ·have:=g1.mxd c;rw[←z,g1.bw.w] at this;exact nC AO.ctorIdx (sJ this) rfl
    ·have:=g1.ahd c;rw[←z,g1.bw.w] at this;exact nC AO.ctorIdx (sJ this) rfl
   ·exact nilS (nilS (hQ hc ef e' _ ((k1'.up (.inl (.inr (.inr ⟨n,.inr (.inr (.inr rfl))⟩)))).up (.inl (.inl rfl))) g2))
  ·by_cases z:c=n
   ·subst z
    rw[up_self,upd_self,List.map_append];rfl
   ·(refine rE (up_ne (λq=>z (g.lok.ah _ _ hn q))) ?_;refine rE (upd_ne z) ?_);exact g1.ahd c
theorem c_extend (kit:Kit prog w K B) {d:Nat} {m:Nd} (g:GI L Z s σ) (hm:m=.M∨m=.N) (hA:NdP.T∈ol s.mx s.ah 3 m→FailsG L Z s σ "ArgumentError" X)
 (hF:NdP.T∉ol s.mx s.ah 3 m→s.fz .T=true→FailsG L Z s σ "FrozenError" X)
 (hK:NdP.T∉ol s.mx s.ah 3 m→s.fz .T=false→m∈s.mx .T→∀τ,Kx NoS σ τ→Q .none τ)
 (hQ:NdP.T∉ol s.mx s.ah 3 m→s.fz .T=false→m∉s.mx .T→∀τ,Kx (GA L s) σ τ→GI L Z { s with mx:=upd s.mx .T (s.mx .T ++ [m]),g:={ s.g with ver:=s.g.ver + 1 } } τ→Q .none τ):CallOK prog w B (d + 35) 560 [.ref L.wd,.ref L.th,L.ref m] σ Q X:=by
 refine callFn (n:=20) (d:=d + 34) kit.gd kit.snd (kit.fns 30) ?_
 obtain ⟨dt,i,f,ht⟩:=g.thg
 have own:∀{Q:Post},Q (L.ref .T) σ→CallOK prog w B (d + 34) 469 [.ref L.wd,.ref L.th] σ Q X:=by
  intro Q q
  refine callFn (n:=20) (d:=d + 33) kit.gd kit.snd (kit.fns 17) ?_
  refine isi0 ht (by rfl) ?_
  refine isi1 ht (r:=true) (by rfl) ?_
  refine at1 ht (by rfl) (x:=L.ref .T) (by rfl) ?_
  exact at1 ht (by rfl) (x:=L.ref .T) (by rfl) q
 refine own ?_
 exact c_include kit g ⟨dE rfl,dE rfl,dE rfl⟩ hm hA hF hK hQ
noncomputable def bfs (v n:Int) (nm en:AV) (h m:Int):List (Str×AV):=[("version",.int v),("number",.int n),("name",nm),("entry",en),("hits",.int h),("misses",.int m)]
structure Bx where
 key:Option (Int×Nd×Str)
 val:Option En
 hits:Int
 miss:Int
noncomputable def bxK (L:Ly) (o:Option (Int×Nd×Str)) (v n:Int) (nm:AV):Prop:=match o with
 |none=>v=-1
 |some (v',k,y)=>v=v'∧n=(L.mf k).num∧nm=.str y
inductive BxR (L:Ly) (σ:AH) (b:Addr) (x:Bx):Prop
 |mk (d:Addr) (v n:Int) (nm en:AV) (h:σ b=some (.inst 612 d (bfs v n nm en x.hits x.miss))) (r:enR L σ x.val en) (k:bxK L x.key v n nm):BxR L σ b x
theorem c_newBox (kit:Kit prog w K B) {d:Nat} (h:∀x τ,σ x=none→Kx NoS σ τ→BxR L τ x ⟨none,none,0,0⟩→Q (.ref x) τ):CallOK prog w B (d + 2) 612 [] σ Q X:=by
 refine callCls kit.gd kit.ini (dE rfl) λx dx hx _ _=>callFn (n:=20) kit.gd kit.snd (kit.fns 40) ?_
 refine st1n (by rfl) (Nat.zero_le _) (by rfl) ?_
 refine st1n (by rfl) (Nat.le_of_ble_eq_true rfl) (by rfl) ?_
 refine st1n (by rfl) (Nat.le_of_ble_eq_true rfl) (by rfl) ?_
 refine st1n (by rfl) (Nat.le_of_ble_eq_true rfl) (by rfl) ?_
 refine st1n (by rfl) (Nat.le_of_ble_eq_true rfl) (by rfl) ?_
 refine st1n (by rfl) (Nat.le_of_ble_eq_true rfl) (by rfl) ?_
 exact ⟨rfl,h x _ hx.no ((Kx.refl _ _).up (.inr hx.no)) ⟨dx,-1,-1,.none,.none,up_self ..,rfl,rfl⟩⟩
theorem GI.upInst (g:GI L Z s σ) {b C d:Addr} {fs:List (Str×AV)} {o:AO} (h:σ b=some (.inst C d fs)) (hC:C≠228∧C≠256∧C≠924∧C≠40):GI L Z s (up σ b o):=by
 have kk:∀{a o'},σ a=some o'→(∀d fs,o'≠.inst C d fs)→up σ b o a=some o':=λe n=>(up_ne (λz=>by rw[z,h] at e;injection e with e;exact n _ _ e.symm)).trans e
 have ne:∀{D:Addr},C≠D→∀{d' fs' d fs},AO.inst D d' fs'≠.inst C d fs:=by intro D n d' fs' d fs z;injection z with z;exact n z.symm
 have kx:∀{a d m},σ a=some (.inst 228 d (MF.fs m))→up σ b o a=some (.inst 228 d (MF.fs m)):=λe=>kk e λ_ _=>ne hC.1
 refine ⟨g.lok,g.sok,⟨kk g.bw.w λ_ _=>ne hC.2.2.1,kk g.bw.md (λ_ _ z=>(by exact nC AO.ctorIdx z rfl)),kk g.bw.nat (λ_ _ z=>(by exact nC AO.ctorIdx z rfl)),kk g.bw.pre (λ_ _ z=>(by exact nC AO.ctorIdx z rfl)),g.bw.natp,λn v e=>?_,λn n' a a' d d' m m' e e' i i' q=>?_,g.bw.nd⟩,g.bo,λn=>kx (g.mod n),λn=>kk (g.mxd n) (λ_ _ z=>(by exact nC AO.ctorIdx z rfl)),λn=>kk (g.ahd n) (λ_ _ z=>(by exact nC AO.ctorIdx z rfl)),λn=>?_,g.mem,g.nap,λn=>?_,?_,λc z=>?_,g.zg⟩
 ·obtain ⟨hn,a,d,m,rfl,i,r,r'⟩:=g.bw.mods n v e
  exact ⟨hn,a,d,m,rfl,kx i,r,r'⟩
 ·obtain ⟨_,c,_,m1,eb,j,_⟩:=g.bw.mods n _ e
  (have eb:=rJ eb;subst eb)
  obtain ⟨_,c',_,m2,eb,j',_⟩:=g.bw.mods n' _ e'
  (have eb:=rJ eb;subst eb)
  have u:=(inst_inj (kx j) i).1
  have u':=(inst_inj (kx j') i').1
  exact g.bw.inj n n' a a' _ _ _ _ e e' j j' (u.trans (q.trans u'.symm))
 ·obtain ⟨kvs,h,d⟩:=g.met n
  exact ⟨kvs,kk h (λ_ _ z=>(by exact nC AO.ctorIdx z rfl)),d.mono λo v h=>h.keep λe d fs he=>kk he λ_ _=>ne hC.2.1⟩
 ·rcases g.kp n with h|⟨t,v,q,h1,h2,h3,h4⟩
  ·exact .inl h
  ·exact .inr ⟨t,v,q,h1,kk h2 (λ_ _ z=>(by exact nC AO.ctorIdx z rfl)),h3,λe=>⟨kk (h4 e).1 (λ_ _ z=>(by exact nC AO.ctorIdx z rfl)),(h4 e).2⟩⟩
 ·obtain ⟨d,i,f,h⟩:=g.thg
  exact ⟨d,i,f,kk h λ_ _=>ne hC.2.2.2⟩
 ·obtain ⟨o',e⟩:=g.zs c z
  by_cases q:c=b
  ·exact ⟨_,by refine rE q ?_;exact up_self ..⟩
  ·exact ⟨o',(up_ne q).trans e⟩
theorem c_look (kit:Kit prog w K B) {d:Nat} {b:Addr} {bx:Bx} {n:Nd} {y:Str} (g:GI L Z s σ) (hb:BxR L σ b bx) (hv:0≤s.g.ver)
 (h1:bx.key=some (s.g.ver,n,y)→∀v τ,Kx (λc=>c=b) σ τ→GI L Z s τ→BxR L τ b { bx with hits:=bx.hits + 1 }→enR L τ bx.val v→Q v τ)
 (h2:bx.key≠some (s.g.ver,n,y)→∀v τ kept,Kx (λc=>MD L c∨c=b) σ τ→GI L Z { s with kept:=kept } τ→BxR L τ b ⟨some (s.g.ver,n,y),seek s.df y (lineG s n),bx.hits,bx.miss + 1⟩→enR L τ (seek s.df y (lineG s n)) v→Q v τ):CallOK prog w B (d + 18) 609 [.ref b,.ref L.wd,L.ref n,.str y] σ Q X:=by
 refine callFn (n:=20) (d:=d + 17) kit.gd kit.snd (kit.fns 41) ?_
 obtain ⟨db,v,nu,nm,en,hs,he,hk⟩:=hb
 have nb:∀{D:Addr} {o:AO},D≠612→o=.inst 612 db (bfs v nu nm en bx.hits bx.miss)→∀d fs,o≠.inst D d fs:=λn e d fs z=>by rw[e] at z;injection z with z;exact n z.symm
 have miss:bx.key≠some (s.g.ver,n,y)→fS prog w B (mst 62 1) (d + 17) X 19 1 (fL (mst 62 1) [.ref b,.ref L.wd,L.ref n,.str y]) σ Q:=by
  intro hne
  refine at1 hs (by rfl) (x:=.int bx.miss) (by rfl) ?_
  refine st1 hs (by rfl) (by exact Nat.le_of_ble_eq_true rfl) (fs':=bfs v nu nm en bx.hits (bx.miss + 1)) (by rfl) ?_
  have g1:=g.upInst hs (o:=.inst 612 db (bfs v nu nm en bx.hits (bx.miss + 1))) ⟨dE rfl,dE rfl,dE rfl,dE rfl⟩
  have b1:up σ b (.inst 612 db (bfs v nu nm en bx.hits (bx.miss + 1))) b=some (.inst 612 db (bfs v nu nm en bx.hits (bx.miss + 1))):=up_self ..
  have k1:Kx (λc=>MD L c∨c=b) σ (up σ b (.inst 612 db (bfs v nu nm en bx.hits (bx.miss + 1)))):=(Kx.refl _ _).up (.inl (.inr rfl))
  generalize up σ b (.inst 612 db (bfs v nu nm en bx.hits (bx.miss + 1)))=σ₁ at g1 b1 k1 ⊢
  refine c_find kit g1 (Nat.le_add_left _ _) λr τ kept g2 k2 hr=>?_
  have b2:=k2 _ _ b1 (nomd g1 b1 λ_ _ z=>by injection z with z;revert z;exact dE rfl)
  refine st1 b2 (by rfl) (by exact Nat.le_of_ble_eq_true rfl) (fs':=bfs v nu nm r bx.hits (bx.miss + 1)) (by rfl) ?_
  have g3:=g2.upInst b2 (o:=.inst 612 db (bfs v nu nm r bx.hits (bx.miss + 1))) ⟨dE rfl,dE rfl,dE rfl,dE rfl⟩
  have b3:up τ b (.inst 612 db (bfs v nu nm r bx.hits (bx.miss + 1))) b=some (.inst 612 db (bfs v nu nm r bx.hits (bx.miss + 1))):=up_self ..
  have k3:Kx (λc=>MD L c∨c=b) σ (up τ b (.inst 612 db (bfs v nu nm r bx.hits (bx.miss + 1)))):=(k1.trans (k2.mono λ_ z=>.inl z)).up (.inl (.inr rfl))
  have r3:enR L (up τ b (.inst 612 db (bfs v nu nm r bx.hits (bx.miss + 1)))) (seek s.df y (lineG s n)) r:=hr.keep λe d fs he=>(up_ne (λz=>by rw[z,b2] at he;injection he with he;injection he with he;revert he;exact dE rfl)).trans he
  clear b2 g2 hr k2
  generalize up τ b (.inst 612 db (bfs v nu nm r bx.hits (bx.miss + 1)))=σ₃ at g3 b3 k3 r3 ⊢
  refine at1 g3.bw.w (by rfl) (wf_ver _) ?_
  refine at1 (g3.mod n) (by rfl) (x:=.int (L.mf n).num) (by rfl) ?_
  refine st1 b3 (by rfl) (by exact Nat.le_of_ble_eq_true rfl) (fs':=bfs s.g.ver nu nm r bx.hits (bx.miss + 1)) (by rfl) ?_
  refine st1 (up_self ..) (by rfl) (by exact Nat.le_of_ble_eq_true rfl) (fs':=bfs s.g.ver (L.mf n).num nm r bx.hits (bx.miss + 1)) (by rfl) ?_
  refine st1 (up_self ..) (by rfl) (by exact Nat.le_of_ble_eq_true rfl) (fs':=bfs s.g.ver (L.mf n).num (.str y) r bx.hits (bx.miss + 1)) (by rfl) ?_
  (refine rE up_up ?_;refine rE up_up ?_)
  refine at1 (up_self ..) (by rfl) (x:=r) (by rfl) ?_
  have r4:=r3.keep (τ:=up σ₃ b (.inst 612 db (bfs s.g.ver (L.mf n).num (.str y) r bx.hits (bx.miss + 1)))) λe d fs he=>(up_ne (λz=>by rw[z,b3] at he;injection he with he;injection he with he;revert he;exact dE rfl)).trans he
  exact h2 hne r _ kept (k3.up (.inl (.inr rfl))) (g3.upInst b3 ⟨dE rfl,dE rfl,dE rfl,dE rfl⟩) ⟨db,_,_,_,_,up_self ..,r4,rfl,rfl,rfl⟩ r4
 refine at1 hs (by rfl) (x:=.int v) (by rfl) ?_
 refine at1 g.bw.w (by rfl) (wf_ver _) ?_
 refine eq1 (r:=decide (v=s.g.ver)) (by rfl) ?_
 induction ek:bx.key with
 |none=>
  rw[ek] at hk
  have hk:v=-1:=hk
  refine rE (decide_eq_false (show ¬v=s.g.ver by lia)) ?_
  exact nilS (miss (by refine rE ek ?_;intro z;exact nn z))
 |some p=>
  obtain ⟨v',k,y'⟩:=p
  rw[ek] at hk
  (refine xAA hk ?_;rintro rfl rfl rfl)
  by_cases z:v=s.g.ver
  ·refine rE (decide_eq_true z) ?_
   refine at1 hs (by rfl) (x:=.int (L.mf k).num) (by rfl) ?_
   refine at1 (g.mod n) (by rfl) (x:=.int (L.mf n).num) (by rfl) ?_
   refine eq1 (r:=decide ((L.mf k).num=(L.mf n).num)) (by rfl) ?_
   by_cases z2:(L.mf k).num=(L.mf n).num
   ·refine rE (decide_eq_true z2) ?_
    refine at1 hs (by rfl) (x:=.str y') (by rfl) ?_
    refine eq1 (r:=decide (y'=y)) (by rfl) ?_
    by_cases z3:y'=y
    ·refine rE (decide_eq_true z3) ?_
     have ek':bx.key=some (s.g.ver,n,y):=by (refine rE ek ?_;refine rE z ?_;refine rE (g.lok.num _ _ z2) ?_;exact rE z3 rfl)
     refine at1 hs (by rfl) (x:=.int bx.hits) (by rfl) ?_
     refine st1 hs (by rfl) (by exact Nat.le_of_ble_eq_true rfl) (fs':=bfs v (L.mf k).num (.str y') en (bx.hits + 1) bx.miss) (by rfl) ?_
     refine at1 (up_self ..) (by rfl) (x:=en) (by rfl) ?_
     have r4:=he.keep (τ:=up σ b (.inst 612 db (bfs v (L.mf k).num (.str y') en (bx.hits + 1) bx.miss))) λe d fs he=>(up_ne (λz=>by rw[z,hs] at he;injection he with he;injection he with he;revert he;exact dE rfl)).trans he
     exact h1 ek' en _ ((Kx.refl _ _).up (.inl rfl)) (g.upInst hs ⟨dE rfl,dE rfl,dE rfl,dE rfl⟩) ⟨db,_,_,_,_,up_self ..,r4,by refine rE ek ?_;exact ⟨rfl,rfl,rfl⟩⟩ r4
    ·refine rE (decide_eq_false z3) ?_
     exact nilS (miss (by refine rE ek ?_;intro e;injection e with e;injection e with _ e;injection e with _ e;exact z3 e))
   ·refine rE (decide_eq_false z2) ?_
    exact nilS (miss (by rw[ek];intro e;injection e with e;injection e with _ e;injection e with e _;exact z2 (by exact rE e rfl)))
  ·refine rE (decide_eq_false z) ?_
   exact nilS (miss (by refine rE ek ?_;intro e;injection e with e;injection e with e _;exact z e))
theorem c_noLook (kit:Kit prog w K B) {d:Nat} {n:Nd} {y:Str} {b db:Addr} {m:Int} (g:GI L Z s σ) (hb:σ b=some (.inst 584 db [("hits",.int 0),("misses",.int m)]))
 (h:∀v τ kept,Kx (λc=>MD L c∨c=b) σ τ→GI L Z { s with kept:=kept } τ→enR L τ (seek s.df y (lineG s n)) v→Q v τ):CallOK prog w B (d + 18) 581 [.ref b,.ref L.wd,L.ref n,.str y] σ Q X:=by
 refine callFn (n:=20) (d:=d + 17) kit.gd kit.snd (kit.fns 39) ?_
 refine at1 hb (by rfl) (x:=.int m) (by rfl) ?_
 refine st1 hb (by rfl) (by exact Nat.le_of_ble_eq_true rfl) (fs':=[("hits",.int 0),("misses",.int (m + 1))]) (by rfl) ?_
 refine c_find kit (g.upInst hb ⟨dE rfl,dE rfl,dE rfl,dE rfl⟩) (Nat.le_add_left _ _) λr τ kept g2 k2 hr=>?_
 exact h r τ kept (((Kx.refl _ _).up (.inl (.inr rfl))).trans (k2.mono λ_ z=>.inl z)) g2 hr
theorem c_newNo (kit:Kit prog w K B) {d:Nat} (h:∀x dx τ,σ x=none→Kx NoS σ τ→τ x=some (.inst 584 dx [("hits",.int 0),("misses",.int 0)])→Q (.ref x) τ):CallOK prog w B (d + 2) 584 [] σ Q X:=by
 refine callCls kit.gd kit.ini (dE rfl) λx dx hx _ _=>callFn (n:=20) kit.gd kit.snd (kit.fns 38) ?_
 refine st1n (by rfl) (Nat.zero_le _) (by rfl) ?_
 refine st1n (by rfl) (Nat.le_of_ble_eq_true rfl) (by rfl) ?_
 exact ⟨rfl,h x dx _ hx.no ((Kx.refl _ _).up (.inr hx.no)) (up_self ..)⟩
end
section
variable {prog:Program} {w:World} {K:Frag} {B:Heap} {σ τ:AH} {Q X:Post}
theorem consS {n:Nat} {Γ:Cx} {st:Stmt} {rest:List Stmt} {ρ:Loc} {K:SPost} (h:stepSt (awp n) Γ st ρ σ (seqK (awp n) rest Γ K)):(awp (n + 1)).S Γ (st :: rest) ρ σ K:=h
structure NM (σ τ:AH) (g:WF) (x dx:Addr) (m:MF) (nm pa att:AV) (ic:Bool):Prop where
 inst:τ x=some (.inst 228 dx (MF.fs m))
 num:m.num=g.last
 shape:m.name=nm∧m.isc=ic∧m.parent=pa∧m.outer=.none∧m.own=.none∧m.frozen=false∧m.native=.none∧m.kept=.none∧m.attached=att
 mt:τ m.meths=some (.sdict [])∧σ m.meths=none
 mx:τ m.mixed=some (.list [])∧σ m.mixed=none
 ah:τ m.ahead=some (.list [])∧σ m.ahead=none
 mxah:m.mixed≠m.ahead
 new:σ x=none
theorem BP.none {wd dw:Addr} {g g':WF} {kvs kvs':List (Str×AV)} (b:BP σ τ wd dw g kvs g' kvs') {a:Addr} (h:τ a=none):σ a=none:=by
 induction e:σ a with
 |none=>rfl
 |some o=>
  by_cases z:WM wd g a
  ·rcases z with rfl|rfl
   ·rw[b.bw.w] at h;exact nS h
   ·obtain ⟨l,rfl,_⟩:=b.gs
    have:=b.bw.md
    rw[this] at h;exact nS h
  ·rw[b.kx _ _ e z] at h;exact nS h
theorem c_newModB (kit:Kit prog w K B) {d:Nat} {wd dw:Addr} {g:WF} {kvs:List (Str×AV)} {nm pa pa' att:AV} {ic:Bool} (bw:BW σ wd dw g kvs) (hpa:(ic=true∧pa=.none∧kget kvs "Object"=some pa')∨(pa'=pa∧(ic=false∨∃a,pa=.ref a)))
 (h:∀x dx m τ g' kvs',Clean τ→BP σ τ wd dw g kvs g' kvs'→g.last < g'.last→NM σ τ g' x dx m nm pa' att ic→Q (.ref x) τ) :
 (awp 20).S (ΓF prog w B (fscope (mst 71 9)) (d + 30) X none) (fbody (mst 71 9)) (locOf (fscope (mst 71 9)) (fparams (mst 71 9)) [.ref wd,nm,.bool ic,pa,.none,att]) σ (endK Q):=by
 have mem:∀b:Bool,(if b then Str.ofString "Class" else Str.ofString "Module")∈bnm:=by decide +kernel
 have s2:∀ow ρ τ g₁ kvs₁,ρ=((fL (mst 71 9) [.ref wd,nm,.bool ic,pa,.none,att]).set (S "owner") ow).set (S "parent") pa'→BP σ τ wd dw g kvs g₁ kvs₁→fS prog w B (mst 71 9) (d + 30) X 18 2 ρ τ Q:=by
  rintro ow ρ τ g₁ kvs₁ rfl b₁
  refine meth1 b₁.bw.w (by rfl) (wf_none _ (dE rfl)) ?_
  refine c_num kit (d:=d + 29) b₁.bw λτ₂ c₂ b₂=>?_
  refine CallOK.post ?_
  refine c_newMod7 kit (d:=d + 27) λx dx f me co mi ah τ₃ nmod c₃=>?_
  refine st1 nmod.inst (by rfl) (by exact Nat.le_of_ble_eq_true rfl) (fs':=MF.fs ⟨g₁.last + 1,ow,f,.none,false,.none,nm,ic,pa',.none,me,co,mi,ah,att,.none,.none⟩) (by rfl) ?_
  have bb:=b₁.trans b₂
  obtain ⟨l,rfl,hl⟩:=b₁.gs
  have kx:∀{o},Kx NoS τ₂ (up τ₃ x o):=λ{o}=>nmod.kx.upr nmod.fr.no
  have ne:∀{a o},τ₃ a=some o→(∀d fs,o≠.inst 228 d fs)→a≠x:=λe n z=>by rw[z,nmod.inst] at e;injection e with e;exact n _ _ e.symm
  refine h x dx ⟨_,ow,f,.none,false,.none,nm,ic,pa',.none,me,co,mi,ah,att,.none,.none⟩ _ _ _ (c₃.up nmod.inst) (bb.trans (.of b₂.bw kx)) ?_ ⟨up_self ..,rfl,⟨rfl,rfl,rfl,rfl,rfl,rfl,rfl,rfl,rfl⟩,⟨(up_ne (ne nmod.mt.1 (λ_ _ z=>(by exact nC AO.ctorIdx z rfl)))).trans nmod.mt.1,bb.none nmod.mt.2.no⟩,⟨(up_ne (ne nmod.mx.1 (λ_ _ z=>(by exact nC AO.ctorIdx z rfl)))).trans nmod.mx.1,bb.none nmod.mx.2.no⟩,⟨(up_ne (ne nmod.ah.1 (λ_ _ z=>(by exact nC AO.ctorIdx z rfl)))).trans nmod.ah.1,bb.none nmod.ah.2.no⟩,nmod.mxah,bb.none nmod.fr.no⟩
  show g.last < l + 1
  lia
 have s1:∀ow τ g₁ kvs₁,BP σ τ wd dw g kvs g₁ kvs₁→fS prog w B (mst 71 9) (d + 30) X 19 1 ((fL (mst 71 9) [.ref wd,nm,.bool ic,pa,.none,att]).set (S "owner") ow) τ Q:=by
  intro ow τ g₁ kvs₁ b₁
  rcases hpa with ⟨rfl,rfl,ho⟩|⟨rfl,hh⟩
  ·refine meth1 b₁.bw.w (by rfl) (wf_none _ (dE rfl)) ?_
   refine c_blt kit b₁.bw (dE rfl) (Nat.le_trans (dE rfl:BD≤30) (Nat.le_add_left _ _)) λa τ₂ g₂ kvs₂ _ b₂ e=>?_
   have e':=b₂.ext _ _ (b₁.ext _ _ ho)
   rw[e'] at e
   injection e with e
   refine nilS (n:=16) ?_;exact s2 ow _ τ₂ g₂ kvs₂ (by exact rE e rfl) (b₁.trans b₂)
  ·refine consS ?_
   rcases hh with rfl|⟨a,rfl⟩
   ·conv=>whnf
    exact s2 ow _ τ g₁ kvs₁ (by rfl) b₁
   ·induction ic with
    |true=>(conv=>whnf);exact s2 ow _ τ g₁ kvs₁ (by rfl) b₁
    |false=>(conv=>whnf);exact s2 ow _ τ g₁ kvs₁ (by rfl) b₁
 refine meth1 bw.w (by rfl) (wf_none _ (dE rfl)) ?_
 have go:∀b:Bool,CallOK prog w B (d + 30) 726 [.ref wd,.str (if b then "Class" else "Module")] σ (λv τ=>fS prog w B (mst 71 9) (d + 30) X 19 1 ((fL (mst 71 9) [.ref wd,nm,.bool ic,pa,.none,att]).set (S "owner") v) τ Q) X:=λb=>
  c_blt kit bw (mem b) (Nat.le_trans (dE rfl:BD≤30) (Nat.le_add_left _ _)) λa τ g' kvs' _ b' _=>s1 _ τ g' kvs' b'
 induction ic with
 |true=>exact go true
 |false=>exact go false
theorem c_newMod3 (kit:Kit prog w K B) {d:Nat} {wd dw:Addr} {g:WF} {kvs:List (Str×AV)} {nm pa':AV} {ic:Bool} (bw:BW σ wd dw g kvs) (hpa:(ic=true∧kget kvs "Object"=some pa')∨(pa'=.none∧ic=false))
 (h:∀x dx m τ g' kvs',Clean τ→BP σ τ wd dw g kvs g' kvs'→g.last < g'.last→NM σ τ g' x dx m nm pa' .none ic→Q (.ref x) τ):CallOK prog w B (d + 31) 746 [.ref wd,nm,.bool ic] σ Q X:=
 callFn (n:=20) (d:=d + 30) kit.gd kit.snd (kit.fns 47) (c_newModB kit bw (hpa.imp (λz=>⟨z.1,rfl,z.2⟩) λz=>⟨z.1,.inl z.2⟩) h)
theorem c_newMod4 (kit:Kit prog w K B) {d:Nat} {wd dw:Addr} {g:WF} {kvs:List (Str×AV)} {nm:AV} {a:Addr} (bw:BW σ wd dw g kvs)
 (h:∀x dx m τ g' kvs',Clean τ→BP σ τ wd dw g kvs g' kvs'→g.last < g'.last→NM σ τ g' x dx m nm (.ref a) .none true→Q (.ref x) τ):CallOK prog w B (d + 31) 746 [.ref wd,nm,.bool true,.ref a] σ Q X:=
 callFn (n:=20) (d:=d + 30) kit.gd kit.snd (kit.fns 48) (c_newModB kit bw (.inr ⟨rfl,.inr ⟨a,rfl⟩⟩) h)
theorem c_newMod6 (kit:Kit prog w K B) {d:Nat} {wd dw:Addr} {g:WF} {kvs:List (Str×AV)} {nm att:AV} {a:Addr} (bw:BW σ wd dw g kvs)
 (h:∀x dx m τ g' kvs',Clean τ→BP σ τ wd dw g kvs g' kvs'→g.last < g'.last→NM σ τ g' x dx m nm (.ref a) att true→Q (.ref x) τ):CallOK prog w B (d + 31) 746 [.ref wd,nm,.bool true,.ref a,.none,att] σ Q X:=
 callFn (n:=20) (d:=d + 30) kit.gd kit.snd (kit.fns 49) (c_newModB kit bw (.inr ⟨rfl,.inr ⟨a,rfl⟩⟩) h)
theorem BW.setW {wd dw:Addr} {g g':WF} {kvs:List (Str×AV)} (bw:BW σ wd dw g kvs) (e:g'.made=g.made∧g'.nat=g.nat∧g'.pre=g.pre∧g'.last=g.last):BW (up σ wd (.inst 924 dw (WF.fs g'))) wd dw g' kvs:=by
 refine xAAA e λe1 e2 e3 e4=>?_
 have o1:∀{b o},σ b=some o→(∀d fs,o≠.inst 924 d fs)→up σ wd (.inst 924 dw (WF.fs g')) b=some o:=λh n=>(up_ne (λz=>by rw[z,bw.w] at h;injection h with h;exact n _ _ h.symm)).trans h
 have bk:∀{a d m},up σ wd (.inst 924 dw (WF.fs g')) a=some (.inst 228 d (MF.fs m))→σ a=some (.inst 228 d (MF.fs m)):=λ{a d m} h=>by
  by_cases z:a=wd
  ·rw[z,up_self] at h;cases h
  ·rwa [up_ne z] at h
 refine ⟨up_self ..,by refine rE e1 ?_;exact o1 bw.md (λ_ _ z=>(by exact nC AO.ctorIdx z rfl)),by refine rE e2 ?_;exact o1 bw.nat (λ_ _ z=>(by exact nC AO.ctorIdx z rfl)),by refine rE e3 ?_;exact o1 bw.pre (λ_ _ z=>(by exact nC AO.ctorIdx z rfl)),by (refine rE e1 ?_;refine rE e2 ?_;refine rE e3 ?_);exact bw.natp,λc v e=>?_,λc c' a a' d d' m m' e e' i i' q=>bw.inj c c' a a' d d' m m' e e' (bk i) (bk i') q,bw.nd⟩
 obtain ⟨hn,a,d,m,rfl,i,r,l⟩:=bw.mods c v e
 exact ⟨hn,a,d,m,rfl,o1 i (λ_ _ z=>(by cases z)),r,by refine rE e4 ?_;exact l⟩
theorem BFull.made {g g':WF} {kvs:List (Str×AV)} {n:Str} {a d:Addr} {m:MF} (f:BFull σ g kvs n a d m) (e:g'.made=g.made):BFull σ g' kvs n a d m:=⟨f.1,f.2,f.3,f.4,f.5,f.6,f.7,⟨f.8.1,by refine rE e ?_;exact f.8.2⟩,f.9,f.10⟩
theorem c_worldE (kit:Kit prog w K B) {d:Nat} {x dx:Addr} {ar:List AV} {g:WF} {kvs:List (Str×AV)} (bw:BW σ x dx g kvs) (hr:ar=[.ref x,.ref g.nat,.none,.none,.int 20000])
 (h:∀τ,BW τ x dx { g with ready:=true } kvs→Kx (λc=>c=x) σ τ→Q .none τ):fS prog w B (mst 71 0) (d + 30) X 5 15 (fL (mst 71 0) ar) σ Q:=by
 subst hr
 refine st1 bw.w (by rfl) (wf_len g) (fs':=WF.fs { g with ready:=true }) (by unfold WF.fs;induction g.main<;>rfl) ?_
 have b1:=bw.setW (g':={ g with ready:=true }) ⟨rfl,rfl,rfl,rfl⟩
 have k1:Kx (λc=>c=x) σ (up σ x (.inst 924 dx (WF.fs { g with ready:=true }))):=(Kx.refl _ _).up (.inl rfl)
 generalize up σ x (.inst 924 dx (WF.fs { g with ready:=true }))=τ at b1 k1 ⊢
 refine at1 b1.w (by rfl) (wf_made _) ?_
 refine ⟨kvs,rd_of b1.md,bw_len b1,?_⟩
 intro l τ₂ hl e
 have k2:Kx NoS τ τ₂:=e▸(Kx.refl _ _).up (.inr hl.no)
 have t2:τ₂ l=some (.list (kvs.map λkv=>AV.str kv.1)):=by refine rE e ?_;exact up_self ..
 have b2:=b1.keep k2
 have kl:=bw_len b1
 refine .inl ⟨_,rd_of t2,by refine rE (List.length_map _) ?_;exact Nat.le_trans kl (dE rfl),?_⟩
 refine for_map (f:=AV.str) (xs:=kvs.map (·.1)) (λo _=>(fL (mst 71 0) [.ref x,.ref g.nat,.none,.none,.int 20000]).put (S "name") o) (λ_ _ τ'=>τ₂=τ') none none (by refine rE List.map_map ?_;rfl) (by rfl) rfl (λo _ τ' c=>?_) λds n ns o _ τ' hx c=>?_
 ·subst c
  exact ⟨rd_of t2,h τ₂ b2 (k1.trans (k2.mono λ_ z=>z.elim))⟩
 ·subst c
  refine ⟨rd_of t2,?_⟩
  have hn:n∈bnm:=by
   induction e:kget kvs n with
   |none=>exact absurd (hx▸List.mem_append_right _ (.head _)) (kget_none_iff.mp e)
   |some v=>exact (bw.mods n v e).1
  refine meth1 b2.w (by rfl) (wf_none _ (dE rfl)) ?_
  refine c_giveOwn kit (d:=d + 29) b2 hn ?_
  exact FMap.next hx (some (.str n)) none (by rfl) rfl
theorem c_worldI (kit:Kit prog w K B) {d:Nat} {x dx nat:Addr} (hx:Fresh σ x) (hn:σ nat=some (.sdict []))
 (h:∀g kvs τ,BW τ x dx g kvs→g.ver=0→(∀n∈[Str.ofString "Object",Str.ofString "BasicObject",Str.ofString "Kernel"],(kget kvs n).isSome=true)→(∀n,(kget kvs n).isSome=true→∃a d m,BFull τ g kvs n a d m)→Kx NoS σ τ→σ g.made=none→Q .none τ) :
 CallOK prog w B (d + 31) 684 [.ref x,.ref nat] (up σ x (.inst 924 dx [])) Q X:=by
 refine callFn (n:=20) (d:=d + 30) kit.gd kit.snd (kit.fns 42) ?_
 refine st1n (by rfl) (Nat.zero_le _) (by rfl) ?_
 intro pr τ hp e
 (refine xAA (under hp e) λhp np=>?_;rintro rfl)
 refine st1n (by rfl) (Nat.le_of_ble_eq_true rfl) (by rfl) ?_
 refine st1n (by rfl) (Nat.le_of_ble_eq_true rfl) (by rfl) ?_
 refine st1n (by rfl) (Nat.le_of_ble_eq_true rfl) (by rfl) ?_
 refine st1n (by rfl) (Nat.le_of_ble_eq_true rfl) (by rfl) ?_
 refine st1n (by rfl) (Nat.le_of_ble_eq_true rfl) (by rfl) ?_
 refine st1n (by rfl) (Nat.le_of_ble_eq_true rfl) (by rfl) ?_
 intro sy τ hs e
 (refine xAA (under hs e) λhs ns=>?_;rintro rfl)
 refine st1n (by rfl) (Nat.le_of_ble_eq_true rfl) (by rfl) ?_
 intro ma τ hm e
 (refine xAA (under hm e) λhm nm=>?_;rintro rfl)
 refine st1n (by rfl) (Nat.le_of_ble_eq_true rfl) (by rfl) ?_
 refine st1n (by rfl) (Nat.le_of_ble_eq_true rfl) (by rfl) ?_
 refine st1n (by rfl) (Nat.le_of_ble_eq_true rfl) (by rfl) ?_
 intro gl τ hg e
 (refine xAA (under hg e) λhg ng=>?_;rintro rfl)
 refine st1n (by rfl) (Nat.le_of_ble_eq_true rfl) (by rfl) ?_
 intro ou τ ho e
 (refine xAA (under ho e) λho no=>?_;rintro rfl)
 refine st1n (by rfl) (Nat.le_of_ble_eq_true rfl) (by rfl) ?_
 refine st1n (by rfl) (Nat.le_of_ble_eq_true rfl) (by rfl) ?_
 have key:∀σe,σe=up (up (up (up (up (up σ pr (.sdict [])) sy (.sdict [])) ma (.sdict [])) gl (.sdict [])) ou (.list [])) x (.inst 924 dx (WF.fs ⟨nat,pr,0,sy,ma,0,gl,ou,false,none⟩))→fS prog w B (mst 71 0) (d + 30) X 6 14 (fL (mst 71 0) [.ref x,.ref nat,.none,.none,.int 20000]) σe Q:=by
  intro σe e
  have hs:Fresh (up σ pr (.sdict [])) sy:=hs
  have hm:Fresh (up (up σ pr (.sdict [])) sy (.sdict [])) ma:=hm
  have hg:Fresh (up (up (up σ pr (.sdict [])) sy (.sdict [])) ma (.sdict [])) gl:=hg
  have ho:Fresh (up (up (up (up σ pr (.sdict [])) sy (.sdict [])) ma (.sdict [])) gl (.sdict [])) ou:=ho
  have k0:Kx NoS σ (up σ pr (.sdict [])):=(Kx.refl _ _).up (.inr hp.no)
  have p1:up σ pr (.sdict []) pr=some (.sdict []):=up_self ..
  have x1:up σ pr (.sdict []) x=none:=(up_ne np.symm).trans hx.no
  generalize up σ pr (.sdict [])=s1 at hs hm hg ho e k0 p1 x1
  have k1:Kx NoS s1 (up s1 sy (.sdict [])):=(Kx.refl _ _).up (.inr hs.no)
  have x2:up s1 sy (.sdict []) x=none:=(up_ne ns.symm).trans x1
  generalize up s1 sy (.sdict [])=s2 at hm hg ho e k1 x2
  have k2:Kx NoS s2 (up s2 ma (.sdict [])):=(Kx.refl _ _).up (.inr hm.no)
  have m3:up s2 ma (.sdict []) ma=some (.sdict []):=up_self ..
  have x3:up s2 ma (.sdict []) x=none:=(up_ne nm.symm).trans x2
  have mn:ma≠nat:=hm.ne (k1 _ _ (k0 _ _ hn not_false) not_false)
  have mp:ma≠pr:=hm.ne (k1 _ _ p1 not_false)
  have ma0:σ ma=none:=(k0.trans k1).none hm.no not_false
  generalize up s2 ma (.sdict [])=s3 at hg ho e k2 m3 x3
  have k3:Kx NoS s3 (up s3 gl (.sdict [])):=(Kx.refl _ _).up (.inr hg.no)
  have x4:up s3 gl (.sdict []) x=none:=(up_ne ng.symm).trans x3
  generalize up s3 gl (.sdict [])=s4 at ho e k3 x4
  have k4:Kx NoS s4 (up s4 ou (.list [])):=(Kx.refl _ _).up (.inr ho.no)
  have x5:up s4 ou (.list []) x=none:=(up_ne no.symm).trans x4
  generalize up s4 ou (.list [])=s5 at e k4 x5
  have k5:Kx NoS s5 σe:=e▸(Kx.refl _ _).up (.inr x5)
  have we:σe x=some (.inst 924 dx (WF.fs ⟨nat,pr,0,sy,ma,0,gl,ou,false,none⟩)):=by refine rE e ?_;exact up_self ..
  have k35:Kx NoS s3 σe:=(k3.trans k4).trans k5
  have k15:Kx NoS s1 σe:=(k1.trans k2).trans k35
  have kx:Kx NoS σ σe:=k0.trans k15
  have bw:BW σe x dx ⟨nat,pr,0,sy,ma,0,gl,ou,false,none⟩ []:=⟨we,k35 _ _ m3 not_false,kx _ _ hn not_false,k15 _ _ p1 not_false,⟨mn.symm,mp.symm⟩,λn v e=>by (exact nn e),λn n' a a' d d' m m' e=>by (exact nn e),.nil⟩
  refine meth1 bw.w (by rfl) (wf_none _ (dE rfl)) ?_
  refine c_num kit (d:=d + 29) bw λτ₁ c₁ b₁=>?_
  refine meth1 b₁.bw.w (by rfl) (wf_none _ (dE rfl)) ?_
  refine c_blt kit b₁.bw (dE rfl) (Nat.le_trans (dE rfl:BD≤30) (Nat.le_add_left _ _)) λa τ₂ g₂ kvs₂ c₂ b₂ e₂=>?_
  refine CallOK.post ?_
  refine callCls kit.gd kit.ini (dE rfl) (d:=d + 29) λt dt ht _ _=>c_thingI kit (d:=d + 28) (.head _) λf hf nf=>⟨rfl,λc₃=>?_⟩
  have k3':Kx NoS τ₂ (up (up τ₂ f (.sdict [])) t (.inst 40 dt (tfs (0 + 1) (.ref a) f))):=((Kx.refl _ _).up (.inr hf.no)).up (.inr ((up_ne nf.symm).trans ht.no))
  have bb:=b₁.trans b₂
  generalize up (up τ₂ f (.sdict [])) t (.inst 40 dt (tfs (0 + 1) (.ref a) f))=τ₃ at k3' c₃ ⊢
  have b3:=b₂.bw.keep k3'
  obtain ⟨l,rfl,hl⟩:=bb.gs
  refine st1 b3.w (by rfl) (wf_len _) (fs':=WF.fs ⟨nat,pr,l,sy,ma,0,gl,ou,false,some (.ref t)⟩) (by rfl) ?_
  have b4:=b3.setW (g':=⟨nat,pr,l,sy,ma,0,gl,ou,false,some (.ref t)⟩) ⟨rfl,rfl,rfl,rfl⟩
  have k4':Kx (λc=>c=x) τ₃ (up τ₃ x (.inst 924 dx (WF.fs ⟨nat,pr,l,sy,ma,0,gl,ou,false,some (.ref t)⟩))):=(Kx.refl _ _).up (.inl rfl)
  refine c_worldE kit b4 rfl λτ₅ b5 k5'=>?_
  have k25:Kx (λc=>c=x) τ₂ τ₅:=((k3'.mono λ_ z=>z.elim).trans k4').trans k5'
  have full:∀n,(kget kvs₂ n).isSome=true→∃a d m,BFull τ₅ ⟨nat,pr,l,sy,ma,0,gl,ou,true,some (.ref t)⟩ kvs₂ n a d m:=λn hn=>by
   obtain ⟨a,d,m,f⟩:=bb.full n rfl hn
   have f':BFull τ₂ ⟨nat,pr,l,sy,ma,0,gl,ou,false,none⟩ kvs₂ n a d m:=f.made rfl
   exact ⟨a,d,m,(f'.step b₂.bw.w ⟨_,b₂.bw.md⟩ (k25.mono λ_ z=>.inl z) λ_ _ e=>e).made rfl⟩
  refine xEEE (full (Str.ofString "Object") (by refine rE e₂ ?_;rfl)) λa0 d0 m0 f0=>?_
  refine h _ kvs₂ τ₅ b5 rfl (λn hn=>?_) full (λb o hb _=>?_) ma0
  ·simp only[List.mem_cons,List.not_mem_nil,or_false] at hn
   rcases hn with rfl|rfl|rfl
   ·refine rE e₂ ?_;rfl
   ·exact f0.par.2 _ (by decide +kernel)
   ·exact f0.mx.2 _ (by decide +kernel)
  ·have nx:b≠x:=λz=>by rw[z,hx.no] at hb;exact nn hb
   exact k25 _ _ (bb.kx _ _ (kx _ _ hb not_false) λz=>z.elim nx λz=>by rw[z,ma0] at hb;exact nn hb) nx
 exact key _ rfl
end
section
variable {s:Gs}
noncomputable def parL:Nd→Option Nd
 |.B=>some .A
 |.T=>some .B
 |_=>none
noncomputable abbrev lineL (s:Gs) (n:Nd):List Nd:=line parL s.mx s.ah 5 n
noncomputable abbrev OKX:List Nd:=[.O,.K,.X]
theorem spot_sub (h:SOK s) {n m:Nd} (hn:spot n) (hm:m∈subs s n):spot m:=by
 rcases h.sub _ _ hm with rfl|rfl|⟨z,_⟩
 ·exact ⟨dE rfl,dE rfl,dE rfl⟩
 ·exact ⟨dE rfl,dE rfl,dE rfl⟩
 ·exact absurd z hn.1
theorem ol_spot (h:SOK s):∀(k:Nat) (n:Nd),spot n→∀m∈ol s.mx s.ah k n,spot m
 |0,_,_,m,hm=>by cases hm
 |k + 1,n,hn,m,hm=>by
  rcases List.mem_append.mp hm with q|q
  ·refine xEA (List.mem_flatMap.mp q) λc hc hm=>?_
   exact ol_spot h k c (spot_sub h hn (List.mem_append_left _ (List.mem_reverse.mp hc))) m hm
  ·rcases List.mem_cons.mp q with rfl|q
   ·exact hn
   ·refine xEA (List.mem_flatMap.mp q) λc hc hm=>?_
    exact ol_spot h k c (spot_sub h hn (List.mem_append_right _ (List.mem_reverse.mp hc))) m hm
theorem mfold_app {b t:List Nd}:∀{l:List (Nd×Bool)} {f:List Nd},(∀p∈l,p.1∉t)→mfold (b ++ t) l f=mfold b l f:=by
 intro l
 induction l with
 |nil=>
  intro f _
  exact rfl
 |cons p0 r ih=>
  obtain ⟨x,e⟩:=p0
  intro f h
  rw[mfold_cons,mfold_cons]
  have hx:t.contains x=false:=by
   induction q:t.contains x with
   |false=>rfl
   |true=>exact absurd (List.contains_iff_mem.mp q) (h _ (.head _))
  have:(b ++ t).contains x=b.contains x:=by
   induction q:b.contains x with
   |true=>exact List.contains_iff_mem.mpr (List.mem_append_left _ (List.contains_iff_mem.mp q))
   |false=>
    induction q':(b ++ t).contains x with
    |false=>rfl
    |true=>
     rcases List.mem_append.mp (List.contains_iff_mem.mp q') with z|z
     ·rw[List.contains_iff_mem.mpr z] at q;exact Bool.noConfusion q
     ·rw[List.contains_iff_mem.mpr z] at hx;exact Bool.noConfusion hx
  (refine rE this ?_;refine rE (ih λp hp=>h p (.tail _ hp)) ?_;exact rE (ih λp hp=>h p (.tail _ hp)) rfl)
theorem mfold_mem {b:List Nd}:∀{l:List (Nd×Bool)} {f:List Nd} {x:Nd},x∈mfold b l f→x∈f∨x∈l.map (·.1):=by
 intro l
 induction l with
 |nil=>
  intro f x h
  exact .inl h
 |cons p0 r ih=>
  obtain ⟨y,e⟩:=p0
  intro f x h
  rw[mfold_cons] at h
  split at h
  ·rcases ih h with z|z
   ·rcases List.mem_append.mp z with z|z
    ·exact .inl z
    ·exact .inr (by refine rE (List.mem_singleton.mp z) ?_;exact .head _)
   ·exact .inr (.tail _ z)
  ·exact (ih h).imp id (.tail _)
theorem over_app {f b t:List Nd} (h:∀x∈t,x∉f):over f (b ++ t)=over f b ++ t:=by
 unfold over
 (rewrite [List.filter_append,List.append_assoc,show t.filter (λx=>!f.contains x)=t from List.filter_eq_self.mpr λx hx=>by
  induction q:f.contains x with
  |false=>rfl
  |true=>exact absurd (List.contains_iff_mem.mp q) (h x hx)];try with_reducible rfl)
theorem step_law (h:SOK s) {n:Nd} (hn:spot n) {b:List Nd}:over (mfold (b ++ OKX) (pts s.mx s.ah 2 n) []) (b ++ OKX)=over (mfold b (pts s.mx s.ah 2 n) []) b ++ OKX:=by
 have no:∀x,spot x→x∉OKX:=λx hx z=>by
  simp only[List.mem_cons,List.not_mem_nil,or_false] at z
  rcases z with z|z|z
  ·exact hx.1 z
  ·exact hx.2.1 z
  ·exact hx.2.2 z
 have pm:∀x,x∈(pts s.mx s.ah 2 n).map (·.1)→spot x:=λx hx=>by rw[pts_map] at hx;exact ol_spot h 3 n hn x hx
 refine rE (mfold_app λp hp=>no _ (pm _ (List.mem_map.mpr ⟨p,hp,rfl⟩))) ?_
 refine over_app λx hx hf=>?_
 rcases mfold_mem hf with z|z
 ·cases z
 ·exact no _ (pm x z) hx
noncomputable def behL (s:Gs) (n:Nd):List Nd:=match parL n with
 |none=>[]
 |some p=>lineL s p
theorem lineL_eq (s:Gs) (n:Nd):lineL s n=over (mfold (behL s n) (pts s.mx s.ah 2 n) []) (behL s n):=by induction n<;>rfl
theorem line_A (h:SOK s):lineG s .A=lineL s .A ++ OKX:=by
 rw[lineG_eq,lineL_eq,show behG s .A=[] ++ OKX from lineO h,show behL s .A=[] from rfl]
 exact step_law h ⟨dE rfl,dE rfl,dE rfl⟩
theorem line_B (h:SOK s):lineG s .B=lineL s .B ++ OKX:=by
 rw[lineG_eq,lineL_eq,show behG s .B=lineL s .A ++ OKX from line_A h,show behL s .B=lineL s .A from rfl]
 exact step_law h ⟨dE rfl,dE rfl,dE rfl⟩
theorem line_T (h:SOK s):lineG s .T=lineL s .T ++ OKX:=by
 rw[lineG_eq,lineL_eq,show behG s .T=lineL s .B ++ OKX from line_B h,show behL s .T=lineL s .B from rfl]
 exact step_law h ⟨dE rfl,dE rfl,dE rfl⟩
theorem seek_app {df:Nd→Str→Option (Option En)} {x:Str} {t:List Nd} (h:∀n∈t,df n x=none):∀l,seek df x (l ++ t)=seek df x l
 |[]=>by
  show seek df x t=none
  induction t with
  |nil=>rfl
  |cons a r ih=>
   rw[seek_c]
   rw[h a (.head _)]
   exact ih λn hn=>h n (.tail _ hn)
 |a :: l=>by
  rw[List.cons_append]
  rw[seek_c]
  exact rE (seek_app h l) rfl
theorem okx_df (h:SOK s) (x:Str):∀n∈OKX,s.df n x=none:=λn hn=>h.df n (by simpa using hn) x
theorem seek_law (h:SOK s) {n:Nd} (hn:spot n) (x:Str):seek s.df x (lineG s n)=seek s.df x (lineL s n):=by
 induction n with
 |M=>rfl
 |N=>rfl
 |A=>rw[line_A h,seek_app (okx_df h x)]
 |B=>rw[line_B h,seek_app (okx_df h x)]
 |T=>rw[line_T h,seek_app (okx_df h x)]
 |O=>exact absurd rfl hn.1
 |K=>exact absurd rfl hn.2.1
 |X=>exact absurd rfl hn.2.2
theorem aft_app {m:Nd} {t:List Nd}:∀{l:List Nd},m∈l→aft m (l ++ t)=aft m l ++ t:=by
 intro l
 induction l with
 |nil=>intro h;cases h
 |cons a l ih=>
  intro h
  refine rE List.cons_append ?_
  rw[aft_c,aft_c]
  by_cases z:a=m
  ·(refine rE (if_pos z) ?_;exact rE (if_pos z) rfl)
  ·(refine rE (if_neg z) ?_;refine rE (if_neg z) ?_)
   exact ih ((List.mem_cons.mp h).resolve_left λq=>z q.symm)
theorem aft_law (h:SOK s) {n m:Nd} (hn:spot n) (hm:m∈lineL s n) (x:Str):seek s.df x (aft m (lineG s n))=seek s.df x (aft m (lineL s n)):=by
 induction n with
 |M=>rfl
 |N=>rfl
 |A=>rw[line_A h,aft_app hm,seek_app (okx_df h x)]
 |B=>rw[line_B h,aft_app hm,seek_app (okx_df h x)]
 |T=>rw[line_T h,aft_app hm,seek_app (okx_df h x)]
 |O=>exact absurd rfl hn.1
 |K=>exact absurd rfl hn.2.1
 |X=>exact absurd rfl hn.2.2
end
section
variable {prog:Program} {w:World} {K:Frag} {B:Heap} {σ τ:AH} {Q X:Post}
noncomputable def tfo (i:Int) (ow:AV) (f:Addr) (own:AV):List (Str×AV):=[("number",.int i),("owner",ow),("fields",.ref f),("own",own),("frozen",.bool false),("ident",.none)]
theorem c_ownNew (kit:Kit prog w K B) {d:Nat} {wd dw th dt b f:Addr} {i:Int} {g:WF} {kvs:List (Str×AV)} (bw:BW σ wd dw g kvs) (ht:σ th=some (.inst 40 dt (tfs i (.ref b) f)))
 (h:∀x dx m τ g' kvs',BP σ τ wd dw g kvs g' kvs'→g.last < g'.last→NM σ τ g' x dx m .none (.ref b) (.ref th) true→Q (.ref x) (up (up τ th (.inst 40 dt (tfo i (.ref b) f (.ref x)))) wd (.inst 924 dw (WF.fs { g' with ver:=g'.ver + 1 })))) :
 CallOK prog w B (d + 32) 469 [.ref wd,.ref th] σ Q X:=by
 refine callFn (n:=20) (d:=d + 31) kit.gd kit.snd (kit.fns 17) ?_
 refine isi0 ht (by rfl) ?_
 refine isi1 ht (r:=true) (by rfl) ?_
 refine at1 ht (by rfl) (x:=.none) (by rfl) ?_
 refine meth1 bw.w (by rfl) (wf_none _ (dE rfl)) ?_
 have cls:∀{Q:Post},Q (.ref b) σ→CallOK prog w B (d + 31) 753 [.ref wd,.ref th] σ Q X:=by
  intro Q q
  refine callFn (n:=20) (d:=d + 30) kit.gd kit.snd (kit.fns 50) ?_
  refine isi0 ht (by rfl) ?_
  refine isi0 ht (by rfl) ?_
  refine isi0 ht (by rfl) ?_
  exact at1 ht (by rfl) (x:=.ref b) (by rfl) q
 refine cls ?_
 refine isi1 ht (r:=false) (by rfl) ?_
 refine meth1 bw.w (by rfl) (wf_none _ (dE rfl)) ?_
 refine c_newMod6 kit (d:=d) bw λx dx m τ g' kvs' ct bp hl nm=>?_
 have nth:¬WM wd g th:=λz=>by
  rcases z with z|z
  ·rw[z,bw.w] at ht;injection ht with ht;injection ht with ht;revert ht;exact dE rfl
  ·rw[z,bw.md] at ht;exact nC AO.ctorIdx (sJ ht) rfl
 have ht':=bp.kx _ _ ht nth
 refine st1 ht' (by rfl) (by exact Nat.le_of_ble_eq_true rfl) (fs':=tfo i (.ref b) f (.ref x)) (by rfl) ?_
 refine isi1 (up_self ..) (r:=false) (by rfl) ?_
 have nw:wd≠th:=λz=>nth (.inl z.symm)
 refine c_raise kit (d:=d + 30) ((up_ne nw).trans bp.bw.w) ?_
 refine at1 ((up_ne nw.symm).trans (up_self ..)) (by rfl) (x:=.ref x) (by rfl) ?_
 exact h x dx m τ g' kvs' bp hl nm
end
section
variable {prog:Program} {w:World} {K:Frag} {B:Heap} {σ τ:AH} {Q X:Post} {L:Ly} {Z:Addr→Prop} {s:Gs}
theorem GI.upZ (g:GI L Z s σ) {b:Addr} {o o':AO} (zb:Z b) (h:σ b=some o) (hk:(∀C d fs,o≠.inst C d fs)∧∀xs,o≠.tup xs) (hn:b≠s.g.nat∧b≠s.g.pre):GI L Z s (up σ b o'):=by
 have kg:∀{a o₁},σ a=some o₁→GA L s a→up σ b o' a=some o₁:=λe q=>(up_ne (λz=>g.zg b zb (by refine rL z ?_;exact q))).trans e
 have ki:∀{a C d fs},σ a=some (.inst C d fs)→up σ b o' a=some (.inst C d fs):=λe=>(up_ne (λz=>by rw[z,h] at e;injection e with e;exact hk.1 _ _ _ e)).trans e
 have kt:∀{a xs},σ a=some (.tup xs)→up σ b o' a=some (.tup xs):=λe=>(up_ne (λz=>by rw[z,h] at e;injection e with e;exact hk.2 _ e)).trans e
 refine ⟨g.lok,g.sok,⟨ki g.bw.w,kg g.bw.md (.inr (.inl rfl)),(up_ne hn.1.symm).trans g.bw.nat,(up_ne hn.2.symm).trans g.bw.pre,g.bw.natp,λn v e=>?_,λn n' a a' d d' m m' e e' i i' q=>?_,g.bw.nd⟩,g.bo,λn=>ki (g.mod n),λn=>kg (g.mxd n) (.inr (.inr ⟨n,.inr (.inr (.inl rfl))⟩)),λn=>kg (g.ahd n) (.inr (.inr ⟨n,.inr (.inr (.inr rfl))⟩)),λn=>?_,g.mem,g.nap,λn=>?_,?_,λc z=>?_,g.zg⟩
 ·obtain ⟨hn,a,d,m,rfl,i,r,r'⟩:=g.bw.mods n v e
  exact ⟨hn,a,d,m,rfl,ki i,r,r'⟩
 ·obtain ⟨_,c,_,m1,eb,j,_⟩:=g.bw.mods n _ e
  (have eb:=rJ eb;subst eb)
  obtain ⟨_,c',_,m2,eb,j',_⟩:=g.bw.mods n' _ e'
  (have eb:=rJ eb;subst eb)
  have u:=(inst_inj (ki j) i).1
  have u':=(inst_inj (ki j') i').1
  exact g.bw.inj n n' a a' _ _ _ _ e e' j j' (u.trans (q.trans u'.symm))
 ·obtain ⟨kvs,h,d⟩:=g.met n
  exact ⟨kvs,kg h (.inr (.inr ⟨n,.inr (.inl rfl)⟩)),d.mono λo v h=>h.keep λe d fs he=>ki he⟩
 ·rcases g.kp n with h|⟨t,v,q,h1,h2,h3,h4⟩
  ·exact .inl h
  ·exact .inr ⟨t,v,q,h1,kt h2,h3,λe=>⟨(up_ne (λz=>(h4 e).2.1 (by refine rE z ?_;exact zb))).trans (h4 e).1,(h4 e).2⟩⟩
 ·obtain ⟨d,i,f,h⟩:=g.thg
  exact ⟨d,i,f,ki h⟩
 ·obtain ⟨o₁,e⟩:=g.zs c z
  by_cases q:c=b
  ·exact ⟨_,by refine rE q ?_;exact up_self ..⟩
  ·exact ⟨o₁,(up_ne q).trans e⟩
end
section
variable {prog:Program} {w:World} {K:Frag} {B:Heap} {σ τ:AH} {Q X:Post}
noncomputable def nmS:Nd→Str
 |.M=>"M"
 |.N=>"N"
 |.A=>"A"
 |.B=>"B"
 |_=>"t"
noncomputable abbrev sv (n:Nd):AV:=.str (nmS n)
theorem nmS_inj {n m:Nd} (hn:spot n) (hm:spot m) (h:nmS n=nmS m):n=m:=by
 have:∀a∈[NdP.M,.N,.A,.B,.T],∀b∈[NdP.M,.N,.A,.B,.T],nmS a=nmS b→a=b:=dE rfl
 have mem:∀a,spot a→a∈[NdP.M,.N,.A,.B,.T]:=λa ha=>by
  induction a with
  |O=>exact absurd rfl ha.1
  |K=>exact absurd rfl ha.2.1
  |X=>exact absurd rfl ha.2.2
  |_=>exact dE rfl
 exact this _ (mem n hn) _ (mem m hm) h
structure Lw where
 md:Addr
 row:Nd→Addr
 df:Nd→Addr
 mx:Nd→Addr
 ah:Nd→Addr
noncomputable def parS:Nd→AV
 |.B=>sv .A
 |.T=>sv .B
 |_=>.none
noncomputable def rowO (W:Lw) (s:Gs) (n:Nd):List (Str×AV):=[("defs",.ref (W.df n)),("mixed",.ref (W.mx n)),("ahead",.ref (W.ah n)),("parent",parS n),("frozen",.bool (s.fz n))]
noncomputable def mdO (W:Lw):List (Str×AV):=[NdP.M,.N,.A,.B,.T].map λn=>(nmS n,.ref (W.row n))
inductive TupAt (σ:AH) (xs:List AV) (v:AV):Prop
 |mk (t:Addr) (q:v=.ref t) (h:σ t=some (.tup xs)):TupAt σ xs v
noncomputable def lwR (σ:AH) (o:Option En) (v:AV):Prop:=match o with
 |none=>v=.none
 |some E=>TupAt σ [.int E.mark,.str E.name,.str (nmS E.owner),.str E.sight] v
structure LI (W:Lw) (s:Gs) (σ:AH):Prop where
 md:σ W.md=some (.sdict (mdO W))
 row:∀n,spot n→σ (W.row n)=some (.sdict (rowO W s n))
 df:∀n,spot n→DfAt (lwR σ) σ (W.df n) (s.df n)
 mx:∀n,spot n→σ (W.mx n)=some (.list ((s.mx n).map sv))
 ah:∀n,spot n→σ (W.ah n)=some (.list ((s.ah n).map sv))
theorem LI.keep {W:Lw} {s:Gs} (h:LI W s σ) (k:Kx NoS σ τ):LI W s τ:=by
 refine ⟨k _ _ h.md not_false,λn hn=>k _ _ (h.row n hn) not_false,λn hn=>?_,λn hn=>k _ _ (h.mx n hn) not_false,λn hn=>k _ _ (h.ah n hn) not_false⟩
 obtain ⟨kvs,a,b⟩:=h.df n hn
 refine ⟨kvs,k _ _ a not_false,b.mono λo v r=>?_⟩
 induction o with
 |none=>exact r
 |some E=>obtain ⟨t,e,q⟩:=r;exact ⟨t,e,k _ _ q not_false⟩
theorem md_get (W:Lw) {n:Nd} (hn:spot n):kget (mdO W) (nmS n)=some (.ref (W.row n)):=by
 induction n with
 |O=>exact absurd rfl hn.1
 |K=>exact absurd rfl hn.2.1
 |X=>exact absurd rfl hn.2.2
 |_=>rfl
theorem c_seekL (kit:Kit prog w K B) {d:Nat} {W:Lw} {s:Gs} {l:Addr} {ns:List Nd} {x:Str} (g:LI W s σ) (hs:∀n∈ns,spot n) (hl:rd σ l=some (.list (ns.map sv))) (hb:ns.length≤1000) (h:∀v,lwR σ (seek s.df x ns) v→Q v σ):CallOK prog w B (d + 1) 945 [.ref W.md,.ref l,.str x] σ Q X:=by
 refine callFn (n:=20) kit.gd kit.snd (kit.fns 56) ?_
 refine .inl ⟨_,hl,by refine rE (List.length_map _) ?_;exact Nat.le_trans hb (dE rfl),?_⟩
 refine for_map (f:=sv) (xs:=ns) (λo _=>(fL (fst 75) [.ref W.md,.ref l,.str x]).put (S "spot") o) (λ_ ms τ=>σ=τ∧seek s.df x ns=seek s.df x ms) none none rfl (by rfl) ⟨rfl,rfl⟩ (λo _ τ c=>?_) λds b bs o _ τ hx c=>?_
 ·obtain ⟨rfl,h2⟩:=c
  exact ⟨hl,h _ (by refine rE h2 ?_;rfl)⟩
 ·obtain ⟨rfl,h2⟩:=c
  refine ⟨hl,?_⟩
  have hb:=hs b (hx▸List.mem_append_right _ (.head _))
  have h2:seek s.df x ns=match s.df b x with|some o=>o|none=>seek s.df x bs:=h2
  obtain ⟨kvs,hk,dr⟩:=g.df b hb
  refine ⟨_,rd_of g.md,_,md_get W hb,?_⟩
  refine ⟨_,rd_of (g.row b hb),_,by rfl,?_⟩
  refine eq1 (r:=(kget kvs x).isSome) (amem_d (rd_of hk)) ?_
  rcases dr.at_ x with ⟨e1,e2⟩|⟨o',v,e1,e2,e3⟩
  ·refine rE e2 ?_
   rw[e1] at h2
   exact FMap.next hx (some (sv b)) none (by rfl) ⟨rfl,h2⟩
  ·refine rE e2 ?_
   rw[e1] at h2
   refine ⟨_,rd_of g.md,_,md_get W hb,?_⟩
   refine ⟨_,rd_of (g.row b hb),_,by rfl,?_⟩
   refine ⟨_,rd_of hk,_,e2,?_⟩
   exact h _ (by refine rE h2 ?_;exact e3)
end
section
variable {prog:Program} {w:World} {K:Frag} {B:Heap} {σ τ:AH} {Q X:Post} {L:Ly} {Z:Addr→Prop} {s:Gs}
inductive KeyR (L:Ly) (σ:AH) (ks:Addr):Prop
 |mk (kd:List (Int×AV)) (h:σ ks=some (.idict kd)) (k:∀n,spot n→kget kd (L.mf n).num=some (sv n)):KeyR L σ ks
theorem c_shown (kit:Kit prog w K B) {d:Nat} {o:Option En} {v:AV} {ks:Addr} (g:GI L Z s σ) (hk:KeyR L σ ks) (hv:enR L σ o v) (ho:∀E,o=some E→spot E.owner) (h:∀r τ,Kx NoS σ τ→lwR τ o r→Q r τ):CallOK prog w B (d + 1) 952 [v,.ref ks] σ Q X:=by
 refine callFn (n:=20) kit.gd kit.snd (kit.fns 57) ?_
 induction o with
 |none=>
  have hv:v=.none:=hv
  subst hv
  exact h _ _ (Kx.refl _ _) rfl
 |some E=>
  obtain ⟨e,de,nest,rfl,he⟩:=hv
  obtain ⟨kd,hkd,hg⟩:=hk
  refine at1 he (by rfl) (x:=.int E.mark) (by rfl) ?_
  refine at1 he (by rfl) (x:=.str E.name) (by rfl) ?_
  refine at1 he (by rfl) (x:=L.ref E.owner) (by rfl) ?_
  refine at1 (g.mod E.owner) (by rfl) (x:=.int (L.mf E.owner).num) (by rfl) ?_
  refine .inr ⟨kd,rd_of hkd,_,hg _ (ho E rfl),?_⟩
  refine at1 he (by rfl) (x:=.str E.sight) (by rfl) ?_
  intro t τ ht e'
  exact h _ τ (e'▸(Kx.refl _ _).up (.inr ht.no)) ⟨t,rfl,by refine rE e' ?_;exact up_self ..⟩
end
section
variable {prog:Program} {w:World} {K:Frag} {B:Heap} {σ τ:AH} {Q X:Post} {s:Gs}
inductive PtR (σ:AH):List AV→List (Nd×Bool)→Prop
 |nil:PtR σ [] []
 |cons {t:Addr} {xs:List AV} {n:Nd} {b:Bool} {ps:List (Nd×Bool)} (h:σ t=some (.tup [sv n,.bool b])) (r:PtR σ xs ps):PtR σ (.ref t :: xs) ((n,b) :: ps)
theorem PtR.keep {xs:List AV} {ps:List (Nd×Bool)} (h:PtR σ xs ps) (k:∀t ys,σ t=some (.tup ys)→τ t=some (.tup ys)):PtR τ xs ps:=by
 induction h with
 |nil=>exact .nil
 |cons h _ ih=>exact .cons (k _ _ h) ih
theorem PtR.len {xs:List AV} {ps:List (Nd×Bool)} (h:PtR σ xs ps):xs.length=ps.length:=by
 induction h with
 |nil=>rfl
 |cons h _ ih=>(refine rE List.length_cons ?_;refine rE List.length_cons ?_;exact rE ih rfl)
theorem PtR.app {xs ys:List AV} {ps qs:List (Nd×Bool)} (h:PtR σ xs ps) (h':PtR σ ys qs):PtR σ (xs ++ ys) (ps ++ qs):=by
 induction h with
 |nil=>exact h'
 |cons h _ ih=>exact .cons h ih
noncomputable def ptsK (s:Gs):Nat→Nd→List (Nd×Bool)
 |0,_=>[]
 |k + 1,n=>(olE s.mx s.ah k n).map (·,true) ++ (olR s.mx s.ah k n).map (·,false)
theorem ptsK_fst (s:Gs):∀(k:Nat) (n:Nd),(ptsK s k n).map (·.1)=ol s.mx s.ah k n
 |0,_=>rfl
 |k + 1,n=>by
  unfold ptsK
  rw[List.map_append,List.map_map,List.map_map,ol_succ]
  exact congr (congrArg _ (List.map_id _)) (List.map_id _)
end
section
variable {prog:Program} {w:World} {K:Frag} {B:Heap} {σ τ:AH} {Q X:Post} {s:Gs} {W:Lw}
noncomputable abbrev PartsOK (prog:Program) (w:World) (B:Heap) (W:Lw) (s:Gs) (k:Nat):Prop:=∀{X:Post} {n:Nd} {σ:AH} {Q:Post} {d:Nat},LI W s σ→spot n→rkG s n < k→k≤d→
 (∀l xs τ,Kx NoS σ τ→σ l=none→τ l=some (.list xs)→PtR τ xs (ptsK s k n)→Q (.ref l) τ)→CallOK prog w B d 933 [.ref W.md,sv n] σ Q X
noncomputable def pL (m:Addr) (a b c:Option AV):Loc:=[(S ".0",none),(S "sub",a),(S "one",b),(S "first",c),(S "_law_parts",none),(S "model",some (.ref m))]
inductive partI (W:Lw) (s:Gs) (k:Nat) (l:List Nd) (b:Bool) (σ:AH) (rest acc:List AV) (ρ:Loc) (τ:AH):Prop
 |mk (ds ms x y z) (h1:rest=ms.map sv) (h2:l=ds ++ ms) (h3:ρ=pL W.md x y z) (h4:Kx NoS σ τ) (h5:PtR τ acc ((ds.flatMap (ol s.mx s.ah k)).map (·,b))):partI W s k l b σ rest acc ρ τ
inductive partJ (W:Lw) (s:Gs) (k:Nat) (ds:List Nd) (c:Nd) (b:Bool) (σ:AH) (rest acc:List AV) (ρ:Loc) (τ:AH):Prop
 |mk (qs ps y z) (h1:PtR τ rest ps) (h2:ol s.mx s.ah k c=qs ++ ps.map (·.1)) (h3:ρ=pL W.md (some (sv c)) y z) (h4:Kx NoS σ τ) (h5:PtR τ acc ((ds.flatMap (ol s.mx s.ah k) ++ qs).map (·,b))):partJ W s k ds c b σ rest acc ρ τ
theorem kxt {xs:List AV} {ps:List (Nd×Bool)} (k:Kx NoS σ τ) (h:PtR σ xs ps):PtR τ xs ps:=h.keep λ_ _ e=>k _ _ e not_false
set_option maxHeartbeats 2000000 in
theorem c_partsK (kit:Kit prog w K B) (sok:SOK s):∀k,k≤3→PartsOK prog w B W s k:=by
 intro k
 induction k with
 |zero=>intro _ X n σ Q d g hn hr hd h;exact absurd hr (Nat.not_lt_zero _)
 |succ k IH0=>
  intro hk X n σ Q d g hn hr hd h
  induction d using Nat.casesOn with
  |zero=>exact absurd hd (Nat.not_lt_zero _)
  |succ d=>
  have IH:PartsOK prog w B W s k:=IH0 (by lia)
  have two:=sok.two n
  have lo:∀m,m∈subs s n→spot m∧rkG s m < k:=λm hm=>⟨spot_sub sok hn hm,Nat.lt_of_lt_of_le (rk_lt sok hm) (by lia)⟩
  have b2:olb k≤5:=(dE rfl:∀k≤2,olb k≤5) k (Nat.le_of_succ_le_succ hk)
  have fl:∀l:List Nd,l.length≤2→(l.flatMap (ol s.mx s.ah k)).length≤10:=λl hl=>by
   have:=flat_len (ol_len sok k) l
   have:=Nat.mul_le_mul hl b2
   lia
  refine callFn (n:=20) kit.gd kit.snd (kit.fns 54) ?_
  have s3:∀e b τ xs ys,Kx NoS σ τ→τ e=some (.list xs)→τ b=some (.list ys)→PtR τ xs ((olE s.mx s.ah k n).map (·,true))→PtR τ ys (((s.mx n).reverse.flatMap (ol s.mx s.ah k)).map (·,false))→
   fS prog w B (fst 73) d X 18 2 (((fL (fst 73) [.ref W.md,sv n]).set (S "early") (.ref e)).set (S "behind") (.ref b)) τ Q:=by
   intro e b τ xs ys k1 he hb px py
   intro t τ₁ ht e1
   have k2:Kx NoS τ τ₁:=e1▸(Kx.refl _ _).up (.inr ht.no)
   have t1:τ₁ t=some (.tup [sv n,.bool false]):=by refine rE e1 ?_;exact up_self ..
   clear e1
   intro u τ₂ hu e2
   have k3:Kx NoS τ₁ τ₂:=e2▸(Kx.refl _ _).up (.inr hu.no)
   have t2:τ₂ u=some (.list [.ref t]):=by refine rE e2 ?_;exact up_self ..
   clear e2
   have lx:xs.length≤10:=by rw[px.len,List.length_map];exact fl _ (by refine rE List.length_reverse ?_;exact two.2)
   have ly:ys.length≤10:=by rw[py.len,List.length_map];exact fl _ (by refine rE List.length_reverse ?_;exact two.1)
   refine ⟨xs,[AV.ref t],by show xs.length + 1≤100000;lia,.inl ⟨rd_of (k3 _ _ (k2 _ _ he not_false) not_false),rd_of t2,?_⟩⟩
   intro v τ₃ hv e3
   have k4:Kx NoS τ₂ τ₃:=e3▸(Kx.refl _ _).up (.inr hv.no)
   have t3:τ₃ v=some (.list (xs ++ [.ref t])):=by refine rE e3 ?_;exact up_self ..
   clear e3
   refine ⟨xs ++ [AV.ref t],ys,by refine rE List.length_append ?_;show xs.length + 1 + _≤100000;lia,.inl ⟨rd_of t3,rd_of (k4 _ _ (k3 _ _ (k2 _ _ hb not_false) not_false) not_false),?_⟩⟩
   intro l τ₄ hl e4
   have k5:Kx NoS τ₃ τ₄:=e4▸(Kx.refl _ _).up (.inr hl.no)
   have t4:τ₄ l=some (.list (xs ++ [.ref t] ++ ys)):=by refine rE e4 ?_;exact up_self ..
   clear e4
   have kk:Kx NoS τ τ₄:=((k2.trans k3).trans k4).trans k5
   refine h l _ τ₄ (k1.trans kk) ((((k1.trans k2).trans k3).trans k4).none hl.no not_false) t4 ?_
   have e:ptsK s (k + 1) n=(olE s.mx s.ah k n).map (·,true) ++ [(n,false)] ++ ((s.mx n).reverse.flatMap (ol s.mx s.ah k)).map (·,false):=by rw[List.append_assoc];rfl
   refine rE e ?_
   exact ((kxt kk px).app (.cons (((k3.trans k4).trans k5) _ _ t1 not_false) .nil)).app (kxt kk py)
  have s2:∀e τ xs,Kx NoS σ τ→τ e=some (.list xs)→PtR τ xs ((olE s.mx s.ah k n).map (·,true))→fS prog w B (fst 73) d X 19 1 ((fL (fst 73) [.ref W.md,sv n]).set (S "early") (.ref e)) τ Q:=by
   intro e τ xs k1 he px
   have g1:=g.keep k1
   refine ⟨_,rd_of g1.md,_,md_get W hn,?_⟩
   refine ⟨_,rd_of (g1.row n hn),_,by rfl,?_⟩
   refine ⟨_,by refine rE (List.length_map _) ?_;exact Nat.le_trans two.1 (dE rfl:2≤100000),rd_of (g1.mx n hn),?_⟩
   intro sl τ₁ hs e1
   have k2:Kx NoS τ τ₁:=e1▸(Kx.refl _ _).up (.inr hs.no)
   have ts:τ₁ sl=some (.list ((s.mx n).map sv).reverse):=by refine rE e1 ?_;exact up_self ..
   clear e1
   refine .inl ⟨_,rd_of ts,by rw[List.length_reverse,List.length_map];exact Nat.le_trans two.1 (dE rfl:2≤100000),?_⟩
   refine ⟨partI W s k (s.mx n).reverse false τ₁,?_,?_,?_⟩
   ·exact ⟨[],(s.mx n).reverse,none,none,none,by refine rE List.map_reverse ?_;rfl,rfl,by rfl,Kx.refl _ _,.nil⟩
   ·rintro acc ρ τ₂ ⟨ds,ms,x,y,z,h1,h2,rfl,k3,p3⟩
    refine ⟨rd_of (k3 _ _ ts not_false),?_⟩
    have:ms=[]:=by induction ms using List.casesOn with|nil=>rfl|cons _ _=>cases h1
    rw[this,List.append_nil] at h2
    subst h2
    intro b τ₃ hb e3
    have k4:Kx NoS τ₂ τ₃:=e3▸(Kx.refl _ _).up (.inr hb.no)
    have t3:τ₃ b=some (.list acc):=by refine rE e3 ?_;exact up_self ..
    clear e3
    have kk:=(k2.trans k3).trans k4
    exact s3 e b τ₃ xs acc (k1.trans kk) (kk _ _ he not_false) t3 (kxt kk px) (kxt k4 p3)
   ·rintro x rest acc ρ τ₂ ⟨ds,ms,x',y,z,h1,h2,rfl,k3,p3⟩
    refine ⟨rd_of (k3 _ _ ts not_false),?_⟩
    obtain ⟨c,cs,rfl⟩:∃b r,ms=b :: r:=by induction ms using List.casesOn with|nil=>cases h1|cons b r=>exact ⟨b,r,rfl⟩
    obtain ⟨h1,h1'⟩:=List.cons.inj h1
    subst h1 h1'
    have hc:=lo c (List.mem_append_right _ (List.mem_reverse.mp (by refine rE h2 ?_;simp)))
    have ld:ds.length≤2:=by have:=congrArg List.length h2;rw[List.length_reverse,List.length_append] at this;lia
    have lf:=fl ds ld
    refine IH (g1.keep (k2.trans k3)) hc.1 hc.2 (show k≤d by lia) λl ys τ₃ k4 nl hl pl=>?_
    have lo:(ol s.mx s.ah k c).length≤5:=Nat.le_trans (ol_len sok k c) b2
    have pe:=ptsK_fst s k c
    have ll:ys.length≤5:=by (refine rE pl.len ?_;refine rL (List.length_map (f:=(·.1))) ?_;refine rE pe ?_);exact lo
    refine .inl ⟨_,rd_of hl,Nat.le_trans ll (dE rfl),?_⟩
    refine ⟨partJ W s k ds c false τ₃,?_,?_,?_⟩
    ·exact ⟨[],_,y,z,pl,by refine rE pe ?_;rfl,by rfl,Kx.refl _ _,by refine rE (List.append_nil _) ?_;exact kxt k4 p3⟩
    ·rintro acc ρ τ₄ ⟨qs,ps,y,z,q1,q2,rfl,k5,p5⟩
     refine ⟨rd_of (k5 _ _ hl not_false),?_⟩
     have:ps=[]:=by cases q1;rfl
     rw[this,List.map_nil,List.append_nil] at q2
     exact ⟨ds ++ [c],cs,_,_,_,rfl,by refine rE h2 ?_;simp,rfl,(k3.trans k4).trans k5,by rw[List.flatMap_append,List.flatMap_singleton,q2];exact p5⟩
    ·rintro x rest acc ρ τ₄ ⟨qs,ps,y,z,q1,q2,rfl,k5,p5⟩
     refine ⟨rd_of (k5 _ _ hl not_false),?_⟩
     cases q1 with
     |@cons t _ o f ps ht hr=>
      refine ⟨_,rd_of ht,rfl,?_⟩
      intro u τ₅ hu e5
      have k6:Kx NoS τ₄ τ₅:=e5▸(Kx.refl _ _).up (.inr hu.no)
      have t5:τ₅ u=some (.tup [sv o,.bool false]):=by refine rE e5 ?_;exact up_self ..
      clear e5
      refine ⟨?_,qs ++ [o],ps,some (sv o),some (.bool f),kxt k6 hr,by refine rE q2 ?_;simp,by rfl,k5.trans k6,?_⟩
      ·rw[p5.len,List.length_map,List.length_append]
       have:=congrArg List.length q2
       rw[List.length_append] at this
       lia
      ·rw[←List.append_assoc,List.map_append]
       exact (kxt k6 p5).app (.cons t5 .nil)
  refine ⟨_,rd_of g.md,_,md_get W hn,?_⟩
  refine ⟨_,rd_of (g.row n hn),_,by rfl,?_⟩
  refine ⟨_,by refine rE (List.length_map _) ?_;exact Nat.le_trans two.2 (dE rfl:2≤100000),rd_of (g.ah n hn),?_⟩
  intro sl τ₁ hs e1
  have k2:Kx NoS σ τ₁:=e1▸(Kx.refl _ _).up (.inr hs.no)
  have ts:τ₁ sl=some (.list ((s.ah n).map sv).reverse):=by refine rE e1 ?_;exact up_self ..
  clear e1
  refine .inl ⟨_,rd_of ts,by rw[List.length_reverse,List.length_map];exact Nat.le_trans two.2 (dE rfl:2≤100000),?_⟩
  refine ⟨partI W s k (s.ah n).reverse true τ₁,?_,?_,?_⟩
  ·exact ⟨[],(s.ah n).reverse,none,none,none,by refine rE List.map_reverse ?_;rfl,rfl,by rfl,Kx.refl _ _,.nil⟩
  ·rintro acc ρ τ₂ ⟨ds,ms,x,y,z,h1,h2,rfl,k3,p3⟩
   refine ⟨rd_of (k3 _ _ ts not_false),?_⟩
   have:ms=[]:=by induction ms using List.casesOn with|nil=>rfl|cons _ _=>cases h1
   rw[this,List.append_nil] at h2
   subst h2
   intro b τ₃ hb e3
   have k4:Kx NoS τ₂ τ₃:=e3▸(Kx.refl _ _).up (.inr hb.no)
   have t3:τ₃ b=some (.list acc):=by refine rE e3 ?_;exact up_self ..
   clear e3
   exact s2 b τ₃ acc ((k2.trans k3).trans k4) t3 (kxt k4 p3)
  ·rintro x rest acc ρ τ₂ ⟨ds,ms,x',y,z,h1,h2,rfl,k3,p3⟩
   refine ⟨rd_of (k3 _ _ ts not_false),?_⟩
   obtain ⟨c,cs,rfl⟩:∃b r,ms=b :: r:=by induction ms using List.casesOn with|nil=>cases h1|cons b r=>exact ⟨b,r,rfl⟩
   obtain ⟨h1,h1'⟩:=List.cons.inj h1
   subst h1 h1'
   have hc:=lo c (List.mem_append_left _ (List.mem_reverse.mp (by refine rE h2 ?_;simp)))
   have ld:ds.length≤2:=by have:=congrArg List.length h2;rw[List.length_reverse,List.length_append] at this;lia
   have lf:=fl ds ld
   refine IH (g.keep (k2.trans k3)) hc.1 hc.2 (show k≤d by lia) λl ys τ₃ k4 nl hl pl=>?_
   have lo:(ol s.mx s.ah k c).length≤5:=Nat.le_trans (ol_len sok k c) b2
   have pe:=ptsK_fst s k c
   have ll:ys.length≤5:=by (refine rE pl.len ?_;refine rL (List.length_map (f:=(·.1))) ?_;refine rE pe ?_);exact lo
   refine .inl ⟨_,rd_of hl,Nat.le_trans ll (dE rfl),?_⟩
   refine ⟨partJ W s k ds c true τ₃,?_,?_,?_⟩
   ·exact ⟨[],_,y,z,pl,by refine rE pe ?_;rfl,by rfl,Kx.refl _ _,by refine rE (List.append_nil _) ?_;exact kxt k4 p3⟩
   ·rintro acc ρ τ₄ ⟨qs,ps,y,z,q1,q2,rfl,k5,p5⟩
    refine ⟨rd_of (k5 _ _ hl not_false),?_⟩
    have:ps=[]:=by cases q1;rfl
    rw[this,List.map_nil,List.append_nil] at q2
    exact ⟨ds ++ [c],cs,_,_,_,rfl,by refine rE h2 ?_;simp,rfl,(k3.trans k4).trans k5,by rw[List.flatMap_append,List.flatMap_singleton,q2];exact p5⟩
   ·rintro x rest acc ρ τ₄ ⟨qs,ps,y,z,q1,q2,rfl,k5,p5⟩
    refine ⟨rd_of (k5 _ _ hl not_false),?_⟩
    cases q1 with
    |@cons t _ o f ps ht hr=>
     refine ⟨_,rd_of ht,rfl,?_⟩
     intro u τ₅ hu e5
     have k6:Kx NoS τ₄ τ₅:=e5▸(Kx.refl _ _).up (.inr hu.no)
     have t5:τ₅ u=some (.tup [sv o,.bool true]):=by refine rE e5 ?_;exact up_self ..
     clear e5
     refine ⟨?_,qs ++ [o],ps,some (sv o),some (.bool f),kxt k6 hr,by refine rE q2 ?_;simp,by rfl,k5.trans k6,?_⟩
     ·rw[p5.len,List.length_map,List.length_append]
      have:=congrArg List.length q2
      rw[List.length_append] at this
      lia
     ·rw[←List.append_assoc,List.map_append]
      exact (kxt k6 p5).app (.cons t5 .nil)
theorem c_parts (kit:Kit prog w K B) {n:Nd} {d:Nat} (sok:SOK s) (g:LI W s σ) (hn:spot n) (hd:3≤d) (h:∀l xs τ,Kx NoS σ τ→σ l=none→τ l=some (.list xs)→PtR τ xs (pts s.mx s.ah 2 n)→Q (.ref l) τ):CallOK prog w B d 933 [.ref W.md,sv n] σ Q X:=
 c_partsK kit sok 3 (Nat.le_refl _) g hn (Nat.lt_succ_of_le (rk_le s n)) hd h
theorem fmemS:∀{ns:List Nd} {o:Nd},(∀n∈ns,spot n)→spot o→fmem (sv o) (ns.map sv)=some (ns.contains o)
 |[],o,_,_=>rfl
 |a :: r,o,h,ho=>by
  (refine rE List.map_cons ?_;refine rE (fmem_cons (a:=decide (nmS a=nmS o)) rfl (fmemS (λn hn=>h n (.tail _ hn)) ho)) ?_;refine rE List.contains_cons ?_)
  show some (decide (nmS a=nmS o) || r.contains o)=some ((o == a) || r.contains o)
  congr 2
  exact decide_eq_decide.mpr ⟨λe=>(nmS_inj (h a (.head _)) ho e).symm,λe=>by exact rE e rfl⟩
theorem amemS {l:Addr} {ns:List Nd} {o:Nd} (hl:rd σ l=some (.list (ns.map sv))) (h:∀n∈ns,spot n) (ho:spot o):amem σ (sv o) (.ref l)=some (ns.contains o):=by
 refine rE (amem_l hl) ?_;exact fmemS h ho
theorem pts_spot (h:SOK s) {n:Nd} (hn:spot n):∀p∈pts s.mx s.ah 2 n,spot p.1:=λp hp=>ol_spot h 3 n hn p.1 (by refine rL (pts_map _ _) ?_;exact List.mem_map.mpr ⟨p,hp,rfl⟩)
theorem mfold_spot {b:List Nd} {l:List (Nd×Bool)} {f:List Nd} (h:∀p∈l,spot p.1) (hf:∀x∈f,spot x):∀x∈mfold b l f,spot x:=λx hx=>by
 rcases mfold_mem hx with z|z
 ·exact hf x z
 ·(refine xEA (List.mem_map.mp z) λp hp=>?_;rintro rfl)
  exact h p hp
theorem over_spot {f b:List Nd} (h:∀x∈f,spot x) (h':∀x∈b,spot x):∀x∈over f b,spot x:=λx hx=>by
 rcases List.mem_append.mp hx with z|z
 ·exact h x z
 ·exact h' x (List.mem_filter.mp z).1
theorem line_spot (h:SOK s):∀(k:Nat) (n:Nd),spot n→∀x∈line parL s.mx s.ah k n,spot x:=by
 intro k
 induction k with
 |zero=>
  intro _ _ x hx
  cases hx
 |succ k ih=>
  intro n hn x hx
  have pp:∀p,parL n=some p→spot p:=λp e=>by induction n<;>cases e<;>exact ⟨dE rfl,dE rfl,dE rfl⟩
  revert x
  rw[line_s]
  induction e:parL n with
  |none=>exact over_spot (mfold_spot (pts_spot h hn) λ_ z=>by cases z) λ_ z=>by cases z
  |some p=>exact over_spot (mfold_spot (pts_spot h hn) λ_ z=>by cases z) (ih p (pp p e))
theorem lineL_spot (h:SOK s) {n:Nd} (hn:spot n):∀x∈lineL s n,spot x:=line_spot h 5 n hn
theorem behL_spot (h:SOK s) {n:Nd} (hn:spot n):∀x∈behL s n,spot x:=by
 unfold behL
 induction e:parL n with
 |none=>exact λ_ z=>by cases z
 |some p=>exact lineL_spot h (by induction n<;>cases e<;>exact ⟨dE rfl,dE rfl,dE rfl⟩)
theorem lineL_len (h:SOK s) (n:Nd):(lineL s n).length≤105:=line_len h 5 n
theorem behL_len (h:SOK s) (n:Nd):(behL s n).length≤105:=by
 unfold behL
 induction parL n with
 |none=>exact Nat.zero_le _
 |some p=>exact lineL_len h p
noncomputable def pkL:Nd→Nat
 |.B=>1
 |.T=>2
 |_=>0
theorem pkL_lt {n p:Nd} (h:parL n=some p):pkL p < pkL n:=by induction n<;>cases h<;>exact dE rfl
theorem parS_L (n:Nd):parS n=(match parL n with|none=>.none|some p=>sv p):=by induction n<;>rfl
noncomputable abbrev LawOK (prog:Program) (w:World) (B:Heap) (W:Lw) (s:Gs) (k:Nat):Prop:=∀{X:Post} {n:Nd} {σ:AH} {Q:Post} {d:Nat},LI W s σ→spot n→pkL n < k→k + 3≤d→
 (∀l τ,Kx NoS σ τ→σ l=none→τ l=some (.list ((lineL s n).map sv))→Q (.ref l) τ)→CallOK prog w B d 938 [.ref W.md,sv n] σ Q X
inductive lawI (W:Lw) (s:Gs) (n:Nd) (pa:AV) (bq f l:Addr) (xs:List AV) (τ:AH) (rest:List AV) (ρ:Loc) (τ':AH):Prop
 |mk (ps acc oo op) (h1:PtR τ' rest ps) (h2:mfold (behL s n) ps acc=mfold (behL s n) (pts s.mx s.ah 2 n) []) (h3:acc.length + ps.length≤21) (h4:(∀x∈acc,spot x)) (h5:(∀p∈ps,spot p.1)) (h6:Kx NoS τ τ') (h7:τ' f=some (.list (acc.map sv))) (h8:τ' l=some (.list xs)) (h9:ρ=(((((fL (fst 74) [.ref W.md,sv n]).set (S "parent") pa).set (S "older") (.ref bq)).set (S "found") (.ref f)).put (S "one") oo).put (S "first") op):lawI W s n pa bq f l xs τ rest ρ τ'
set_option maxHeartbeats 2000000 in
theorem c_lawlineK (kit:Kit prog w K B) (sok:SOK s):∀k,LawOK prog w B W s k:=by
 intro k
 induction k with
 |zero=>intro X n σ Q d g hn hr hd h;exact absurd hr (Nat.not_lt_zero _)
 |succ k IH=>
  intro X n σ Q d g hn hr hd h
  induction d using Nat.casesOn with
  |zero=>lia
  |succ d=>
  refine callFn (n:=20) (d:=d) kit.gd kit.snd (kit.fns 55) ?_
  have lb:=behL_len sok n
  have lp:(pts s.mx s.ah 2 n).length≤21:=pts_len sok n
  have s3:∀pa bq f oo op τ,Kx NoS σ τ→τ bq=some (.list ((behL s n).map sv))→τ f=some (.list ((mfold (behL s n) (pts s.mx s.ah 2 n) []).map sv))→fS prog w B (fst 74) d X 16 4 ((((((fL (fst 74) [.ref W.md,sv n]).set (S "parent") pa).set (S "older") (.ref bq)).set (S "found") (.ref f)).put (S "one") oo).put (S "first") op) τ Q:=by
   intro pa bq f oo op τ k1 hb hf
   have sm:∀x∈mfold (behL s n) (pts s.mx s.ah 2 n) [],spot x:=mfold_spot (pts_spot sok hn) λ_ z=>by cases z
   have lf:(mfold (behL s n) (pts s.mx s.ah 2 n) []).length≤21:=by have:=mfold_len (behL s n) (pts s.mx s.ah 2 n) [];simp at *;lia
   refine .inl ⟨_,rd_of hb,by rw[List.length_map];exact Nat.le_trans lb (dE rfl),?_⟩
   refine comp_map (f:=sv) (xs:=behL s n) (λds=>(ds.filter λx=>!(mfold (behL s n) (pts s.mx s.ah 2 n) []).contains x).map sv) (λo=>[(S ".0",none),(S "one",o),(S "found",some (.ref f))]) (λ_ _ τ'=>τ=τ') none rfl (by rfl) rfl rfl (λo τ' c=>?_) λds b bs o τ' h2 c=>?_
   ·subst c
    refine ⟨rd_of hb,?_⟩
    intro c τ₂ hc e
    have kc:Kx NoS τ τ₂:=e▸(Kx.refl _ _).up (.inr hc.no)
    have tc:τ₂ c=some (.list (((behL s n).filter λx=>!(mfold (behL s n) (pts s.mx s.ah 2 n) []).contains x).map sv)):=by refine rE e ?_;exact up_self ..
    have lc:=List.length_filter_le (λx=>!(mfold (behL s n) (pts s.mx s.ah 2 n) []).contains x) (behL s n)
    refine ⟨_,_,?_,.inl ⟨rd_of (kc _ _ hf not_false),rd_of tc,?_⟩⟩
    ·rw[List.length_map,List.length_map];lia
    ·intro q τ₃ hq e
     have kq:Kx NoS τ₂ τ₃:=e▸(Kx.refl _ _).up (.inr hq.no)
     refine h q τ₃ ((k1.trans kc).trans kq) ((k1.trans kc).none hq.no not_false) ?_
     rw[e,up_self,lineL_eq,over,List.map_append]
   ·subst c
    refine ⟨rd_of hb,?_⟩
    have ld:ds.length≤105:=by have:=congrArg List.length h2;rw[List.length_append] at this;lia
    have hb:spot b:=behL_spot sok hn b (by refine rE h2 ?_;simp)
    refine eq1 (amemS (rd_of hf) sm hb) ?_
    induction e:(mfold (behL s n) (pts s.mx s.ah 2 n) []).contains b with
    |true=>exact CMap.next h2 (some (sv b)) (by rfl) (by rw[List.filter_append,List.filter_cons_of_neg (by rw[e];exact dE rfl),List.filter_nil,List.append_nil]) rfl
    |false=>
     refine ⟨?_,CMap.next h2 (some (sv b)) (by rfl) (by rw[List.filter_append,List.filter_cons_of_pos (by rw[e];rfl),List.filter_nil,List.map_append];rfl) rfl⟩
     refine rE (List.length_map _) ?_
     exact Nat.le_trans (List.length_filter_le _ _) (Nat.le_trans ld (dE rfl))
  have s1:∀pa bq τ,Kx NoS σ τ→τ bq=some (.list ((behL s n).map sv))→fS prog w B (fst 74) d X 18 2 (((fL (fst 74) [.ref W.md,sv n]).set (S "parent") pa).set (S "older") (.ref bq)) τ Q:=by
   intro pa bq τ k1 hb
   intro f τ₁ hf e
   have kf:Kx NoS τ τ₁:=e▸(Kx.refl _ _).up (.inr hf.no)
   have tf:τ₁ f=some (.list (([]:List Nd).map sv)):=by refine rE e ?_;exact up_self ..
   clear e
   refine c_parts kit sok (g.keep (k1.trans kf)) hn (show 3≤d by lia) λl xs τ₂ k2 nl hl hp=>?_
   have nfl:f≠l:=λz=>by rw[←z,tf] at nl;exact nS nl
   have kf:=kf.trans k2
   have tf:=k2 _ _ tf not_false
   refine .inl ⟨_,rd_of hl,by refine rE hp.len ?_;exact Nat.le_trans lp (dE rfl),?_⟩
   refine ⟨lawI W s n pa bq f l xs τ,?_,?_,?_⟩
   ·exact ⟨_,[],none,none,hp,rfl,by rw[List.length_nil,Nat.zero_add];exact lp,(λ_ z=>by cases z),pts_spot sok hn,kf,tf,hl,by rfl⟩
   ·rintro ρ τ' ⟨ps,acc,oo,op,h1,h2,h3,h4,h5,h6,h7,h8,rfl⟩
    refine ⟨rd_of h8,?_⟩
    have:ps=[]:=by cases h1;rfl
    rw[this] at h2
    exact s3 pa bq f oo op τ' (k1.trans h6) (h6 _ _ hb not_false) (h2▸h7)
   ·rintro x rest ρ τ' ⟨ps,acc,oo,op,h1,h2,h3,h4,h5,h6,h7,h8,rfl⟩
    refine ⟨rd_of h8,?_⟩
    cases h1 with
    |@cons t _ b e ps ht hr=>
     have hb':spot b:=h5 _ (.head _)
     have h5':∀p∈ps,spot p.1:=λp hp=>h5 p (.tail _ hp)
     rw[mfold_cons] at h2
     rw[List.length_cons] at h3
     have skip:∀τ'',τ''=τ'→mfold (behL s n) ps acc=mfold (behL s n) (pts s.mx s.ah 2 n) []→lawI W s n pa bq f l xs τ rest (((((((fL (fst 74) [.ref W.md,sv n]).set (S "parent") pa).set (S "older") (.ref bq)).set (S "found") (.ref f)).put (S "one") oo).put (S "first") op).set (S "one") (sv b) |>.set (S "first") (.bool e)) τ'':=by
      rintro _ rfl h2
      exact ⟨ps,acc,some (sv b),some (.bool e),hr,h2,by lia,h4,h5',h6,h7,h8,by rfl⟩
     have take:mfold (behL s n) ps (acc ++ [b])=mfold (behL s n) (pts s.mx s.ah 2 n) []→lawI W s n pa bq f l xs τ rest (((((((fL (fst 74) [.ref W.md,sv n]).set (S "parent") pa).set (S "older") (.ref bq)).set (S "found") (.ref f)).put (S "one") oo).put (S "first") op).set (S "one") (sv b) |>.set (S "first") (.bool e)) (up τ' f (.list (acc.map sv ++ [sv b]))):=by
      intro h2
      refine ⟨ps,acc ++ [b],some (sv b),some (.bool e),hr.keep λt ys e=>(up_ne (λz=>by rw[z,h7] at e;exact nC AO.ctorIdx (sJ e) rfl)).trans e,h2,by refine rE List.length_append ?_;show acc.length + 1 + _≤_;lia,λx hx=>?_,h5',h6.upr hf.no,?_,(up_ne nfl.symm).trans h8,by rfl⟩
      ·rcases List.mem_append.mp hx with z|z
       ·exact h4 x z
       ·refine rE (List.mem_singleton.mp z) ?_;exact hb'
      ·rw[up_self,List.map_append];rfl
     have la:(acc.map sv).length≤100000:=by refine rE (List.length_map _) ?_;lia
     refine ⟨_,rd_of ht,rfl,?_⟩
     refine eq1 (amemS (rd_of h7) h4 hb') ?_
     induction ec:acc.contains b with
     |true=>rw[ec] at h2;exact skip _ rfl h2
     |false=>
      rw[ec] at h2
      induction e with
      |true=>exact ⟨⟨_,rd_of h7⟩,_,h7,la,take h2⟩
      |false=>
       refine eq1 (amemS (rd_of (h6 _ _ hb not_false)) (behL_spot sok hn) hb') ?_
       induction eb:(behL s n).contains b with
       |true=>rw[eb] at h2;exact skip _ rfl h2
       |false=>rw[eb] at h2;exact ⟨⟨_,rd_of h7⟩,_,h7,la,take h2⟩
  refine ⟨_,rd_of g.md,_,md_get W hn,?_⟩
  refine ⟨_,rd_of (g.row n hn),parS n,by rfl,?_⟩
  refine rE (parS_L _) ?_
  induction e:parL n with
  |none=>
   intro bq τ hb e'
   have kb:Kx NoS σ τ:=e'▸(Kx.refl _ _).up (.inr hb.no)
   refine s1 _ bq τ kb ?_
   rw[e',up_self];unfold behL;rw[e];rfl
  |some p=>
   refine IH g (by induction n<;>cases e<;>exact ⟨dE rfl,dE rfl,dE rfl⟩) (Nat.lt_of_lt_of_le (pkL_lt e) (Nat.le_of_lt_succ hr)) (show k + 3≤d by lia) λq τ k' _ hq=>?_
   refine s1 _ q τ k' ?_
   unfold behL;refine rE e ?_;exact hq
theorem c_lawline (kit:Kit prog w K B) {n:Nd} {d:Nat} (sok:SOK s) (g:LI W s σ) (hn:spot n) (hd:6≤d) (h:∀l τ,Kx NoS σ τ→σ l=none→τ l=some (.list ((lineL s n).map sv))→Q (.ref l) τ):CallOK prog w B d 938 [.ref W.md,sv n] σ Q X:=
 c_lawlineK kit sok 3 g hn (by induction n<;>exact dE rfl) hd h
end
set_option genCtorIdx false in
inductive Tg where
 |md|sc|mods|keys|ask|cnt|bxs|mk
 |row (n:Nd)|df (n:Nd)|mx (n:Nd)|ah (n:Nd)
noncomputable def Tg.ctorIdx:Tg→Nat
 |.md=>0
 |.sc=>1
 |.mods=>2
 |.keys=>3
 |.ask=>4
 |.cnt=>5
 |.bxs=>6
 |.mk=>7
 |.row _=>8
 |.df _=>9
 |.mx _=>10
 |.ah _=>11
noncomputable def okT:Tg→Prop
 |.row n=>spot n
 |.df n=>spot n
 |.mx n=>spot n
 |.ah n=>spot n
 |_=>True
noncomputable def srT:Tg→Prop
 |.sc=>True
 |.mods=>True
 |.keys=>True
 |.ask=>True
 |.cnt=>True
 |.bxs=>True
 |.mk=>True
 |_=>False
structure Lx where
 W:Lw
 sc:Addr
 mods:Addr
 keys:Addr
 ask:Addr
 cnt:Addr
 bxs:Addr
 mk_:Addr
 ms:List Int
 scr:Addr
 sx:List AV
 vx:List Value
 nx:Nat
 bx:Nat→Addr
noncomputable def Lx.at_ (Y:Lx):Tg→Addr
 |.md=>Y.W.md
 |.sc=>Y.sc
 |.mods=>Y.mods
 |.keys=>Y.keys
 |.ask=>Y.ask
 |.cnt=>Y.cnt
 |.bxs=>Y.bxs
 |.mk=>Y.mk_
 |.row n=>Y.W.row n
 |.df n=>Y.W.df n
 |.mx n=>Y.W.mx n
 |.ah n=>Y.W.ah n
noncomputable def Lx.Z (Y:Lx) (b:Addr):Prop:=∃t,okT t∧b=Y.at_ t
structure Ts where
 turns:Int
 v0:Int
 ask:Nat→Option (Nd×Str×Int)
 box:Nat→Bx
 cnt:Nat→Int
noncomputable def askR (σ:AH) (o:Option (Nd×Str×Int)) (v:AV):Prop:=match o with
 |none=>v=.none
 |some p=>TupAt σ [sv p.1,.str p.2.1,.int p.2.2] v
noncomputable def scO (L:Ly) (Y:Lx) (u:Int):List (Str×AV):=[("world",.ref L.wd),("modules",.ref Y.mods),("model",.ref Y.W.md),("thing",.ref L.th),("keys",.ref Y.keys),("turns",.int u),("asked",.ref Y.ask),("count",.ref Y.cnt)]
noncomputable def mdsO (L:Ly):List (Str×AV):=[NdP.M,.N,.A,.B,.T].map λn=>(nmS n,L.ref n)
noncomputable def tq1:Str:="_law_mixing_right.<locals>.<lambda>"
noncomputable def tq2:Str:="_law_entry_right.<locals>.<lambda>"
structure SR (L:Ly) (Y:Lx) (t:Ts) (σ:AH):Prop where
 inj:∀a b,okT a→okT b→Y.at_ a=Y.at_ b→a=b
 sc:σ Y.sc=some (.sdict (scO L Y t.turns))
 mods:σ Y.mods=some (.sdict (mdsO L))
 keys:KeyR L σ Y.keys
 ask:∃xs,σ Y.ask=some (.list xs)∧xs.length=3∧∀i,i < 3→∃v,xs[i]?=some v∧askR σ (t.ask i) v
 cnt:∃xs,σ Y.cnt=some (.list xs)∧xs.length=3∧∀i,i < 3→xs[i]?=some (.int (t.cnt i))
 bxs:∃xs,σ Y.bxs=some (.list xs)∧xs.length=3∧∀i,i < 3→xs[i]?=some (.ref (Y.bx i))
 box:∀i,i < 3→BxR L σ (Y.bx i) (t.box i)
 bne:∀i j,i < 3→j < 3→Y.bx i=Y.bx j→i=j
 tab:σ 980=some (.tab tq1)∧σ 987=some (.tab tq2)
 mkl:σ Y.mk_=some (.list (Y.ms.map AV.int))
 fx:σ Y.scr=some (.fix Y.sx Y.vx Y.nx)
structure PF (s:Gs) (t:Ts):Prop where
 ver:s.g.ver=t.turns + t.v0∧0≤t.turns∧0≤t.v0
 own:∀n x E,s.df n x=some (some E)→spot E.owner
 key:∀i,i < 3→(t.box i).key=(t.ask i).map λp=>(p.2.2 + t.v0,p.1,p.2.1)
 old:∀i v n y,i < 3→(t.box i).key=some (v,n,y)→v≤s.g.ver∧spot n∧(v=s.g.ver→(t.box i).val=seek s.df y (lineG s n))
 vow:∀i E,i < 3→(t.box i).val=some E→spot E.owner
 cn:∀i,i < 3→t.cnt i=(t.box i).hits + (t.box i).miss
structure SI (L:Ly) (Y:Lx) (s:Gs) (t:Ts) (σ:AH):Prop where
 gi:GI L Y.Z s σ
 li:LI Y.W s σ
 sr:SR L Y t σ
 pf:PF s t
 np:∀a,okT a→Y.at_ a≠s.g.nat∧Y.at_ a≠s.g.pre
section
variable {prog:Program} {w:World} {K:Frag} {B:Heap} {σ τ:AH} {Q X:Post} {L:Ly} {Z:Addr→Prop} {s:Gs} {Y:Lx} {t:Ts}
noncomputable def quiet (o:AO):Prop:=(∀xs,o≠.tup xs)∧((∀q,o≠.tab q)∧∀xs vs n,o≠.fix xs vs n)∧∀C d fs,o=.inst C d fs→C≠612∧C≠256
noncomputable def OKR (Y:Lx) (P:Tg→Prop) (σ:AH) (S:Addr→Prop):Prop:=∀b o,σ b=some o→S b→(∀t,okT t→P t→b≠Y.at_ t)∧quiet o
theorem GI.ga_kind (g:GI L Z s σ) {b:Addr} (h:GA L s b):∃o,σ b=some o∧quiet o:=by
 rcases h with rfl|rfl|⟨n,rfl|rfl|rfl|rfl⟩
 ·exact ⟨_,g.bw.w,(λ_ z=>by exact nC AO.ctorIdx z rfl),⟨(λ_ z=>by exact nC AO.ctorIdx z rfl),λ_ _ _ z=>by exact nC AO.ctorIdx z rfl⟩,λC d fs z=>by injection z with z;subst z;decide⟩
 ·exact ⟨_,g.bw.md,(λ_ z=>by exact nC AO.ctorIdx z rfl),⟨(λ_ z=>by exact nC AO.ctorIdx z rfl),λ_ _ _ z=>by exact nC AO.ctorIdx z rfl⟩,λC d fs z=>by exact nC AO.ctorIdx z rfl⟩
 ·exact ⟨_,g.mod n,(λ_ z=>by exact nC AO.ctorIdx z rfl),⟨(λ_ z=>by exact nC AO.ctorIdx z rfl),λ_ _ _ z=>by exact nC AO.ctorIdx z rfl⟩,λC d fs z=>by injection z with z;subst z;decide⟩
 ·obtain ⟨kvs,h,_⟩:=g.met n
  exact ⟨_,h,(λ_ z=>by exact nC AO.ctorIdx z rfl),⟨(λ_ z=>by exact nC AO.ctorIdx z rfl),λ_ _ _ z=>by exact nC AO.ctorIdx z rfl⟩,λC d fs z=>by exact nC AO.ctorIdx z rfl⟩
 ·exact ⟨_,g.mxd n,(λ_ z=>by exact nC AO.ctorIdx z rfl),⟨(λ_ z=>by exact nC AO.ctorIdx z rfl),λ_ _ _ z=>by exact nC AO.ctorIdx z rfl⟩,λC d fs z=>by exact nC AO.ctorIdx z rfl⟩
 ·exact ⟨_,g.ahd n,(λ_ z=>by exact nC AO.ctorIdx z rfl),⟨(λ_ z=>by exact nC AO.ctorIdx z rfl),λ_ _ _ z=>by exact nC AO.ctorIdx z rfl⟩,λC d fs z=>by exact nC AO.ctorIdx z rfl⟩
theorem GI.okr (g:GI L Y.Z s σ) (P:Tg→Prop):OKR Y P σ (GA L s):=λb o e h=>by
 refine xEA (g.ga_kind h) λo' e' q=>?_
 rw[e] at e';injection e' with e'
 exact ⟨λt ht _ z=>g.zg b ⟨t,ht,z⟩ h,e'▸q⟩
theorem okr_no {P:Tg→Prop}:OKR Y P σ NoS:=λ_ _ _ z=>z.elim
theorem okr_one (r:SR L Y t σ) {P:Tg→Prop} {a:Tg} (ha:okT a) (n:¬P a) {o:AO} (h:σ (Y.at_ a)=some o) (q:quiet o):OKR Y P σ (λc=>c=Y.at_ a):=λb o' e z=>by
 subst z
 rw[h] at e;injection e with e
 exact ⟨λt ht hp z=>n (r.inj _ _ ha ht z▸hp),e▸q⟩
theorem lwR.keep {o:Option En} {v:AV} (h:lwR σ o v) (k:∀a xs,σ a=some (.tup xs)→τ a=some (.tup xs)):lwR τ o v:=by
 induction o with
 |none=>exact h
 |some E=>obtain ⟨t,e,q⟩:=h;exact ⟨t,e,k _ _ q⟩
theorem LI.kx {W:Lw} {S:Addr→Prop} (h:LI W s σ) (hW:Y.W=W) (kx:Kx S σ τ) (ok:OKR Y (λt=>¬srT t) σ S):LI W s τ:=by
 subst hW
 have kz:∀(t:Tg),okT t→¬srT t→∀{o},σ (Y.at_ t)=some o→τ (Y.at_ t)=some o:=λt ht hp o e=>kx _ _ e λz=>(ok _ _ e z).1 t ht hp rfl
 refine ⟨kz .md trivial id h.md,λn hn=>kz (.row n) hn id (h.row n hn),λn hn=>?_,λn hn=>kz (.mx n) hn id (h.mx n hn),λn hn=>kz (.ah n) hn id (h.ah n hn)⟩
 obtain ⟨kvs,a,b⟩:=h.df n hn
 exact ⟨kvs,kz (.df n) hn id a,b.mono λo v r=>r.keep λa xs e=>kx _ _ e λz=>(ok _ _ e z).2.1 _ rfl⟩
theorem SR.kx {S:Addr→Prop} (h:SR L Y t σ) (kx:Kx S σ τ) (ok:OKR Y srT σ S):SR L Y t τ:=by
 have kz:∀(t:Tg),okT t→srT t→∀{o},σ (Y.at_ t)=some o→τ (Y.at_ t)=some o:=λt ht hp o e=>kx _ _ e λz=>(ok _ _ e z).1 t ht hp rfl
 refine ⟨h.inj,kz .sc trivial trivial h.sc,kz .mods trivial trivial h.mods,?_,?_,?_,?_,λi hi=>?_,h.bne,?_,kz .mk trivial trivial h.mkl,kx _ _ h.fx λz=>(ok _ _ h.fx z).2.2.1.2 _ _ _ rfl⟩
 ·obtain ⟨kd,e,r⟩:=h.keys
  exact ⟨kd,kz .keys trivial trivial e,r⟩
 ·refine xEAA h.ask λxs e l r=>?_
  refine iEAA xs (kz .ask trivial trivial e) l (λi hi=>?_)
  refine xEA (r i hi) λv e r=>?_
  refine iEA v e ?_
  revert r
  induction t.ask i with
  |none=>exact id
  |some p=>rintro ⟨a,rfl,q⟩;exact ⟨a,rfl,kx _ _ q λz=>(ok _ _ q z).2.1 _ rfl⟩
 ·refine xEA h.cnt λxs e r=>?_
  exact iEA xs (kz .cnt trivial trivial e) r
 ·refine xEA h.bxs λxs e r=>?_
  exact iEA xs (kz .bxs trivial trivial e) r
 ·obtain ⟨d,v,n,nm,en,e,r,k⟩:=h.box i hi
  exact ⟨d,v,n,nm,en,kx _ _ e λz=>((ok _ _ e z).2.2.2 _ _ _ rfl).1 rfl,r.keep λe d fs he=>kx _ _ he λz=>((ok _ _ he z).2.2.2 _ _ _ rfl).2 rfl,k⟩
 ·exact ⟨kx _ _ h.tab.1 λz=>(ok _ _ h.tab.1 z).2.2.1.1 _ rfl,kx _ _ h.tab.2 λz=>(ok _ _ h.tab.2 z).2.2.1.1 _ rfl⟩
theorem SI.keep (h:SI L Y s t σ) (k:Kx NoS σ τ):SI L Y s t τ:=⟨h.gi.keep k,h.li.keep k,h.sr.kx k okr_no,h.pf,h.np⟩
theorem PF.alt (h:PF s t) (kept:Nd→AV) (l:Int) (made:List (Str×AV)):PF (s.alt kept l made) t:=⟨h.ver,h.own,h.key,h.old,h.vow,h.cn⟩
theorem LI.alt {W:Lw} (h:LI W s σ) (kept:Nd→AV) (l:Int) (made:List (Str×AV)):LI W (s.alt kept l made) σ:=⟨h.md,h.row,h.df,h.mx,h.ah⟩
theorem SI.alt (h:SI L Y s t σ) {kept:Nd→AV} {l:Int} {made:List (Str×AV)} (g:GI L Y.Z (s.alt kept l made) τ) (k:Kx (GA L s) σ τ):SI L Y (s.alt kept l made) t τ:=
 ⟨g,(h.li.kx rfl k (h.gi.okr _)).alt _ _ _,h.sr.kx k (h.gi.okr _),h.pf.alt _ _ _,h.np⟩
theorem SI.kept (h:SI L Y s t σ) {kept:Nd→AV} (g:GI L Y.Z { s with kept:=kept } τ) (k:Kx (MD L) σ τ):SI L Y { s with kept:=kept } t τ:=
 h.alt (kept:=kept) (l:=s.g.last) (made:=s.made) g (k.mono λ_ z=>z.ga)
theorem sc_quiet {kvs:List (Str×AV)}:quiet (.sdict kvs):=⟨(λ_ z=>by exact nC AO.ctorIdx z rfl),⟨(λ_ z=>by exact nC AO.ctorIdx z rfl),λ_ _ _ z=>by exact nC AO.ctorIdx z rfl⟩,λ_ _ _ z=>by exact nC AO.ctorIdx z rfl⟩
theorem ls_quiet {xs:List AV}:quiet (.list xs):=⟨(λ_ z=>by exact nC AO.ctorIdx z rfl),⟨(λ_ z=>by exact nC AO.ctorIdx z rfl),λ_ _ _ z=>by exact nC AO.ctorIdx z rfl⟩,λ_ _ _ z=>by exact nC AO.ctorIdx z rfl⟩
theorem mds_get (L:Ly) {n:Nd} (hn:spot n):kget (mdsO L) (nmS n)=some (L.ref n):=by
 induction n with
 |O=>exact absurd rfl hn.1
 |K=>exact absurd rfl hn.2.1
 |X=>exact absurd rfl hn.2.2
 |_=>rfl
theorem lw_eq {o:Option En} {u v:AV} (h:lwR σ o u) (h':lwR σ o v):aeq σ u v=some true:=by
 induction o with
 |none=>
  have h:u=.none:=h
  have h':v=.none:=h'
  subst h h'
  rfl
 |some E=>
  obtain ⟨a,rfl,e⟩:=h
  obtain ⟨b,rfl,e'⟩:=h'
  refine rE (aeq_tt (rd_of e) (rd_of e')) ?_
  show some (decide (E.mark=E.mark) && (decide (E.name=E.name) && (decide (nmS E.owner=nmS E.owner) && (decide (E.sight=E.sight) && true))))=_
  (refine rE (decide_eq_true rfl) ?_;refine rE (decide_eq_true rfl) ?_;refine rE (decide_eq_true rfl) ?_;refine rE (decide_eq_true rfl) ?_);rfl
noncomputable def updN {β:Type} (f:Nat→β) (i:Nat) (v:β):Nat→β:=λj=>if j=i then v else f j
theorem updN_self {β:Type} (f:Nat→β) (i:Nat) (v:β):updN f i v i=v:=if_pos rfl
theorem updN_ne {β:Type} {f:Nat→β} {i j:Nat} {v:β} (h:j≠i):updN f i v j=f j:=if_neg h
theorem LI.kx2 {W:Lw} (h:LI W s σ) (kz:∀b o,σ b=some o→(∀C d fs,o≠.inst C d fs)→τ b=some o):LI W s τ:=by
 have ns:∀{kvs:List (Str×AV)} (C d:Addr) (fs:List (Str×AV)),AO.sdict kvs≠.inst C d fs:=λC d fs z=>by exact nC AO.ctorIdx z rfl
 have nl:∀{xs:List AV} (C d:Addr) (fs:List (Str×AV)),AO.list xs≠.inst C d fs:=λC d fs z=>by exact nC AO.ctorIdx z rfl
 refine ⟨kz _ _ h.md ns,λn hn=>kz _ _ (h.row n hn) ns,λn hn=>?_,λn hn=>kz _ _ (h.mx n hn) nl,λn hn=>kz _ _ (h.ah n hn) nl⟩
 obtain ⟨kvs,a,b⟩:=h.df n hn
 exact ⟨kvs,kz _ _ a ns,b.mono λo v r=>r.keep λa xs e=>kz _ _ e λC d fs z=>by exact nC AO.ctorIdx z rfl⟩
theorem SR.look (h:SR L Y t σ) (g:GI L Z s σ) {i:Nat} (hi:i < 3) {bx:Bx} (kx:Kx (λc=>MD L c∨c=Y.bx i) σ τ) (hb:BxR L τ (Y.bx i) bx):SR L Y { t with box:=updN t.box i bx } τ:=by
 obtain ⟨d0,v0,n0,nm0,en0,e0,_⟩:=h.box i hi
 have kb:∀b o,σ b=some o→(∀d fs,o≠.inst 228 d fs)→b≠Y.bx i→τ b=some o:=λb o e n z=>kx _ _ e λq=>q.elim (nomd g e n) z
 have kz:∀b o,σ b=some o→(∀C d fs,o≠.inst C d fs)→τ b=some o:=λb o e n=>kb b o e (n _) λz=>by rw[z,e0] at e;injection e with e;exact n _ _ _ e.symm
 refine ⟨h.inj,kz _ _ h.sc (λ_ _ _ z=>by exact nC AO.ctorIdx z rfl),kz _ _ h.mods (λ_ _ _ z=>by exact nC AO.ctorIdx z rfl),?_,?_,?_,?_,λj hj=>?_,h.bne,⟨kz _ _ h.tab.1 (λ_ _ _ z=>by exact nC AO.ctorIdx z rfl),kz _ _ h.tab.2 (λ_ _ _ z=>by exact nC AO.ctorIdx z rfl)⟩,kz _ _ h.mkl (λ_ _ _ z=>by exact nC AO.ctorIdx z rfl),kz _ _ h.fx (λ_ _ _ z=>by exact nC AO.ctorIdx z rfl)⟩
 ·obtain ⟨kd,e,r⟩:=h.keys
  exact ⟨kd,kz _ _ e (λ_ _ _ z=>by exact nC AO.ctorIdx z rfl),r⟩
 ·refine xEAA h.ask λxs e l r=>?_
  refine iEAA xs (kz _ _ e (λ_ _ _ z=>by exact nC AO.ctorIdx z rfl)) l (λi hi=>?_)
  refine xEA (r i hi) λv e r=>?_
  refine iEA v e ?_
  have r:askR σ (t.ask i) v:=r
  show askR τ (t.ask i) v
  revert r
  induction t.ask i with
  |none=>exact id
  |some p=>rintro ⟨a,rfl,q⟩;exact ⟨a,rfl,kz _ _ q (λ_ _ _ z=>by exact nC AO.ctorIdx z rfl)⟩
 ·refine xEA h.cnt λxs e r=>?_
  exact iEA xs (kz _ _ e (λ_ _ _ z=>by exact nC AO.ctorIdx z rfl)) r
 ·refine xEA h.bxs λxs e r=>?_
  exact iEA xs (kz _ _ e (λ_ _ _ z=>by exact nC AO.ctorIdx z rfl)) r
 ·show BxR L τ (Y.bx j) (updN t.box i bx j)
  by_cases z:j=i
  ·subst z
   rw[updN_self];exact hb
  ·refine rE (updN_ne z) ?_
   obtain ⟨d,v,n,nm,en,e,r,k⟩:=h.box j hj
   exact ⟨d,v,n,nm,en,kb _ _ e (λ_ _ q=>by injection q with q;revert q;exact dE rfl) λq=>z (h.bne _ _ hj hi q),r.keep λe d fs he=>kb _ _ he (λ_ _ q=>by injection q with q;revert q;exact dE rfl) λq=>by rw[q,e0] at he;injection he with he;injection he with he;revert he;decide,k⟩
theorem kx_look (h:SR L Y t σ) (g:GI L Z s σ) {i:Nat} (hi:i < 3) (kx:Kx (λc=>MD L c∨c=Y.bx i) σ τ):∀b o,σ b=some o→(∀C d fs,o≠.inst C d fs)→τ b=some o:=λb o e n=>by
 obtain ⟨d0,v0,n0,nm0,en0,e0,_⟩:=h.box i hi
 exact kx _ _ e λq=>q.elim (nomd g e (n _)) λz=>by rw[z,e0] at e;injection e with e;exact n _ _ _ e.symm
noncomputable abbrev Bx.asked (s:Gs) (n:Nd) (y:Str) (x:Bx) (b:Bool):Bx:=⟨some (s.g.ver,n,y),seek s.df y (lineG s n),x.hits + (if b then 1 else 0),x.miss + (if b then 0 else 1)⟩
theorem c_lookS (kit:Kit prog w K B) {d i:Nat} {n:Nd} {y:Str} (h:SI L Y s t σ) (hi:i < 3)
 (q:∀v τ kept b,(b=true↔(t.box i).key=some (s.g.ver,n,y))→GI L Y.Z { s with kept:=kept } τ→LI Y.W s τ→SR L Y { t with box:=updN t.box i ((t.box i).asked s n y b) } τ→enR L τ (seek s.df y (lineG s n)) v→(∀b o,σ b=some o→(∀C d fs,o≠.inst C d fs)→τ b=some o)→Q v τ) :
 CallOK prog w B (d + 18) 609 [.ref (Y.bx i),.ref L.wd,L.ref n,.str y] σ Q X:=by
 have p:=h.pf.ver
 refine c_look kit h.gi (h.sr.box i hi) (by lia) (λe v τ k g b r=>?_) λe v τ kept k g b r=>?_
 ·have ev:(t.box i).val=seek s.df y (lineG s n):=(h.pf.old i _ n y hi e).2.2 rfl
  have k':Kx (λc=>MD L c∨c=Y.bx i) σ τ:=k.mono λ_ z=>.inr z
  rw[ev] at r
  refine q v τ s.kept true ⟨λ_=>e,λ_=>rfl⟩ g (h.li.kx2 (kx_look h.sr h.gi hi k')) (h.sr.look h.gi hi k' ?_) r (kx_look h.sr h.gi hi k')
  obtain ⟨d,v,nu,nm,en,e1,e2,e3⟩:=b
  rw[e] at e3
  refine ⟨d,v,nu,nm,en,?_,by show enR L τ (seek s.df y (lineG s n)) en;rw[←ev];exact e2,e3⟩
  rw[e1]
  show some (AO.inst 612 d (bfs v nu nm en ((t.box i).hits + 1) (t.box i).miss))=some (AO.inst 612 d (bfs v nu nm en ((t.box i).hits + 1) ((t.box i).miss + 0)))
  exact rE (Int.add_zero _) rfl
 ·refine q v τ kept false ⟨(λz=>by exact Bool.noConfusion z),λz=>absurd z e⟩ g (h.li.kx2 (kx_look h.sr h.gi hi k)) (h.sr.look h.gi hi k ?_) r (kx_look h.sr h.gi hi k)
  obtain ⟨d,v,nu,nm,en,e1,e2,e3⟩:=b
  refine ⟨d,v,nu,nm,en,?_,e2,e3⟩
  refine rE e1 ?_
  show some (AO.inst 612 d (bfs v nu nm en (t.box i).hits ((t.box i).miss + 1)))=some (AO.inst 612 d (bfs v nu nm en ((t.box i).hits + 0) ((t.box i).miss + 1)))
  exact rE (Int.add_zero _) rfl
theorem up_kx {b:Addr} {o:AO}:Kx (λc=>c=b) σ (up σ b o):=(Kx.refl _ _).up (.inl rfl)
theorem SR.setAsk (h:SR L Y t σ) {i:Nat} (hi:i < 3) {xs:List AV} (e:σ Y.ask=some (.list xs)) {o:Option (Nd×Str×Int)} {v:AV} (r:askR σ o v):SR L Y { t with ask:=updN t.ask i o } (up σ Y.ask (.list (xs.set i v))):=by
 have kt:∀{b o'},σ b=some o'→(∀ys,o'≠.list ys)→up σ Y.ask (.list (xs.set i v)) b=some o':=λe' n=>(up_ne (λz=>by rw[z,e] at e';injection e' with e';exact n _ e'.symm)).trans e'
 have ka:∀{p u},askR σ p u→askR (up σ Y.ask (.list (xs.set i v))) p u:=λ{p u} r=>by
  induction p with
  |none=>exact r
  |some p=>obtain ⟨a,e1,e2⟩:=r;exact ⟨a,e1,kt e2 λ_ z=>by exact nC AO.ctorIdx z rfl⟩
 refine xEAA h.ask λys e' l q=>?_
 rw[e] at e'
 injection e' with e';injection e' with e'
 subst e'
 refine ⟨h.inj,kt h.sc (λ_ z=>by exact nC AO.ctorIdx z rfl),kt h.mods (λ_ z=>by exact nC AO.ctorIdx z rfl),?_,⟨_,up_self ..,by refine rE List.length_set ?_;exact l,λj hj=>?_⟩,?_,?_,λj hj=>?_,h.bne,⟨kt h.tab.1 (λ_ z=>by exact nC AO.ctorIdx z rfl),kt h.tab.2 (λ_ z=>by exact nC AO.ctorIdx z rfl)⟩,(up_ne (λz=>by have:=h.inj .mk .ask trivial trivial z;exact nC Tg.ctorIdx this rfl)).trans h.mkl,kt h.fx (λ_ z=>by exact nC AO.ctorIdx z rfl)⟩
 ·obtain ⟨kd,e,r⟩:=h.keys
  exact ⟨kd,kt e (λ_ z=>by exact nC AO.ctorIdx z rfl),r⟩
 ·show ∃u,(xs.set i v)[j]?=some u∧askR _ (updN t.ask i o j) u
  by_cases z:j=i
  ·subst z
   rw[updN_self]
   exact iEA v (by rw[List.getElem?_set_self (by lia)]) (ka r)
  ·(refine rE (updN_ne z) ?_;refine rE (List.getElem?_set_ne (λq=>z q.symm)) ?_)
   refine xEA (q j hj) λu e1 e2=>?_
   exact iEA u e1 (ka e2)
 ·refine xEA h.cnt λys e' r=>?_
  exact iEA ys ((up_ne (λz=>by have:=h.inj .cnt .ask trivial trivial z;exact nC Tg.ctorIdx this rfl)).trans e') r
 ·refine xEA h.bxs λys e' r=>?_
  exact iEA ys ((up_ne (λz=>by have:=h.inj .bxs .ask trivial trivial z;exact nC Tg.ctorIdx this rfl)).trans e') r
 ·obtain ⟨d,v,n,nm,en,e,r,k⟩:=h.box j hj
  exact ⟨d,v,n,nm,en,kt e (λ_ z=>by exact nC AO.ctorIdx z rfl),r.keep λe d fs he=>kt he (λ_ z=>by exact nC AO.ctorIdx z rfl),k⟩
theorem SR.setCnt (h:SR L Y t σ) {i:Nat} (hi:i < 3) {xs:List AV} (e:σ Y.cnt=some (.list xs)) {c:Int}:SR L Y { t with cnt:=updN t.cnt i c } (up σ Y.cnt (.list (xs.set i (.int c)))):=by
 have kt:∀{b o'},σ b=some o'→(∀ys,o'≠.list ys)→up σ Y.cnt (.list (xs.set i (.int c))) b=some o':=λe' n=>(up_ne (λz=>by rw[z,e] at e';injection e' with e';exact n _ e'.symm)).trans e'
 refine xEAA h.cnt λys e' l q=>?_
 rw[e] at e'
 injection e' with e';injection e' with e'
 subst e'
 refine ⟨h.inj,kt h.sc (λ_ z=>by exact nC AO.ctorIdx z rfl),kt h.mods (λ_ z=>by exact nC AO.ctorIdx z rfl),?_,?_,⟨_,up_self ..,by rw[List.length_set];exact l,λj hj=>?_⟩,?_,λj hj=>?_,h.bne,⟨kt h.tab.1 (λ_ z=>by exact nC AO.ctorIdx z rfl),kt h.tab.2 (λ_ z=>by exact nC AO.ctorIdx z rfl)⟩,(up_ne (λz=>by have:=h.inj .mk .cnt trivial trivial z;exact nC Tg.ctorIdx this rfl)).trans h.mkl,kt h.fx (λ_ z=>by exact nC AO.ctorIdx z rfl)⟩
 ·obtain ⟨kd,e,r⟩:=h.keys
  exact ⟨kd,kt e (λ_ z=>by exact nC AO.ctorIdx z rfl),r⟩
 ·refine xEAA h.ask λys e' l r=>?_
  refine iEAA ys ((up_ne (λz=>by have:=h.inj .ask .cnt trivial trivial z;exact nC Tg.ctorIdx this rfl)).trans e') l (λj hj=>?_)
  refine xEA (r j hj) λu e1 e2=>?_
  refine iEA u e1 ?_
  have e2:askR σ (t.ask j) u:=e2
  show askR _ (t.ask j) u
  revert e2
  induction t.ask j with
  |none=>exact id
  |some p=>rintro ⟨a,rfl,q⟩;exact ⟨a,rfl,kt q λ_ z=>by exact nC AO.ctorIdx z rfl⟩
 ·show (xs.set i (.int c))[j]?=some (.int (updN t.cnt i c j))
  by_cases z:j=i
  ·subst z
   rw[updN_self,List.getElem?_set_self (by lia)]
  ·(refine rE (updN_ne z) ?_;refine rE (List.getElem?_set_ne (λq=>z q.symm)) ?_)
   exact q j hj
 ·refine xEA h.bxs λys e' r=>?_
  exact iEA ys ((up_ne (λz=>by have:=h.inj .bxs .cnt trivial trivial z;exact nC Tg.ctorIdx this rfl)).trans e') r
 ·obtain ⟨d,v,n,nm,en,e,r,k⟩:=h.box j hj
  exact ⟨d,v,n,nm,en,kt e (λ_ z=>by exact nC AO.ctorIdx z rfl),r.keep λe d fs he=>kt he (λ_ z=>by exact nC AO.ctorIdx z rfl),k⟩
noncomputable abbrev Ts.asked (t:Ts) (s:Gs) (i:Nat) (n:Nd) (y:Str) (b:Bool):Ts:={ t with box:=updN t.box i ((t.box i).asked s n y b),ask:=updN t.ask i (some (n,y,t.turns)),cnt:=updN t.cnt i (t.cnt i + 1) }
theorem PF.look (h:PF s t) {i:Nat} (hi:i < 3) {n:Nd} (hn:spot n) {y:Str} {b:Bool} (hs:∀E,seek s.df y (lineG s n)=some E→spot E.owner):PF s (t.asked s i n y b):=by
 have v:=h.ver
 refine ⟨h.ver,h.own,λj hj=>?_,λj v' m x hj=>?_,λj E hj=>?_,λj hj=>?_⟩
 ·show (updN t.box i _ j).key=(updN t.ask i _ j).map _
  by_cases z:j=i
  ·rw[z,updN_self,updN_self]
   show some (s.g.ver,n,y)=some (t.turns + t.v0,n,y)
   exact rE v.1 rfl
  ·(refine rE (updN_ne z) ?_;refine rE (updN_ne z) ?_);exact h.key j hj
 ·show (updN t.box i _ j).key=_→_∧_∧(_→(updN t.box i _ j).val=_)
  by_cases z:j=i
  ·rw[z,updN_self]
   intro e
   injection e with e;injection e with e1 e;injection e with e2 e3
   subst e1 e2 e3
   exact iAA (Int.le_refl _) hn (λ_=>rfl)
  ·refine rE (updN_ne z) ?_;exact h.old j v' m x hj
 ·show (updN t.box i _ j).val=_→_
  by_cases z:j=i
  ·rw[z,updN_self];exact hs E
  ·refine rE (updN_ne z) ?_;exact h.vow j E hj
 ·show updN t.cnt i _ j=(updN t.box i _ j).hits + (updN t.box i _ j).miss
  by_cases z:j=i
  ·subst z
   rw[updN_self,updN_self,h.cn j hj]
   show _=_ + (if b then 1 else 0) + (_ + if b then 0 else 1)
   induction b with
   |true=>show _=_ + 1 + (_ + 0);lia
   |false=>show _=_ + 0 + (_ + 1);lia
  ·(refine rE (updN_ne z) ?_;refine rE (updN_ne z) ?_);exact h.cn j hj
theorem seek_own (h:PF s t) (x:Str):∀(l:List Nd) E,seek s.df x l=some E→spot E.owner
 |[],E,e=>by exact nn e
 |n :: l,E,e=>by
  have e:(match s.df n x with|some o=>o|none=>seek s.df x l)=some E:=e
  induction q:s.df n x with
  |none=>rw[q] at e;exact seek_own h x l E e
  |some o=>rw[q] at e;have e:o=some E:=e;subst e;exact h.own n x E q
theorem ask_eq (h:PF s t) {i:Nat} (hi:i < 3) {v:AV} {b:Addr} {n:Nd} {y:Str} {u:Int} (hn:spot n) (r:askR σ (t.ask i) v) (e:σ b=some (.tup [sv n,.str y,.int u])):aeq σ v (.ref b)=some (decide (t.ask i=some (n,y,u))):=by
 have k:=h.key i hi
 induction q:t.ask i with
 |none=>
  rw[q] at r
  have r:v=.none:=r
  subst r
  exact aeq_nt (rd_of e)
 |some p=>
  rw[q] at r k
  obtain ⟨a,rfl,e'⟩:=r
  have sp:=(h.old i _ _ _ hi k).2.1
  rw[aeq_tt (rd_of e') (rd_of e)]
  obtain ⟨m,x,u'⟩:=p
  show some (decide (nmS m=nmS n) && (decide (x=y) && (decide (u'=u) && true)))=_
  rw[Bool.and_true,←Bool.decide_and,←Bool.decide_and]
  refine congrArg some (decide_eq_decide.mpr ⟨λ⟨h1,h2,h3⟩=>?_,λh=>?_⟩)
  ·have h1:m=n:=nmS_inj sp hn h1
   (refine rE h1 ?_;refine rE h2 ?_;exact rE h3 rfl)
  ·injection h with h;injection h with h1 h;injection h with h2 h3
   exact iAA (by exact rE h1 rfl) h2 h3
theorem ask_key (h:PF s t) {i:Nat} (hi:i < 3) {n:Nd} {y:Str}:(t.box i).key=some (s.g.ver,n,y)↔t.ask i=some (n,y,t.turns):=by
 have v:=h.ver
 rw[h.key i hi,v.1]
 induction t.ask i with
 |none=>exact ⟨(λz=>by exact nn z),λz=>by exact nn z⟩
 |some p=>
  obtain ⟨m,x,u⟩:=p
  refine ⟨λz=>?_,λz=>?_⟩
  ·injection z with z;injection z with z1 z;injection z with z2 z3
   have z1:u + t.v0=t.turns + t.v0:=z1
   have:u=t.turns:=by lia
   have z2:m=n:=z2
   have z3:x=y:=z3
   (refine rE this ?_;refine rE z2 ?_;exact rE z3 rfl)
  ·injection z with z;injection z with z1 z;injection z with z2 z3
   subst z1 z2 z3;rfl
theorem pick4 {a b c e:AV} {r:Int}:∃x,(x=a∨x=b∨x=c∨x=e)∧[a,b,c,e][(r % 4).toNat]?=some x:=by
 have:r % 4=0∨r % 4=1∨r % 4=2∨r % 4=3:=by lia
 rcases this with h|h|h|h<;>refine rE h ?_
 ·exact iEA a (.inl rfl) rfl
 ·exact iEA b (.inr (.inl rfl)) rfl
 ·exact iEA c (.inr (.inr (.inl rfl))) rfl
 ·exact iEA e (.inr (.inr (.inr rfl))) rfl
theorem pick2 {a b:AV} {r:Int}:∃x,(x=a∨x=b)∧[a,b][(r % 2).toNat]?=some x:=by
 have:r % 2=0∨r % 2=1:=by lia
 rcases this with h|h<;>refine rE h ?_
 ·exact iEA a (.inl rfl) rfl
 ·exact iEA b (.inr rfl) rfl
theorem pickA {r:Int}:∃n,spot n∧[sv .A,sv .B,sv .T,sv .M][(r % 4).toNat]?=some (sv n):=by
 refine xEA (pick4 (a:=sv .A) (b:=sv .B) (c:=sv .T) (e:=sv .M) (r:=r)) λx h e=>?_
 rcases h with rfl|rfl|rfl|rfl
 ·exact iEA .A ⟨dE rfl,dE rfl,dE rfl⟩ e
 ·exact iEA .B ⟨dE rfl,dE rfl,dE rfl⟩ e
 ·exact iEA .T ⟨dE rfl,dE rfl,dE rfl⟩ e
 ·exact iEA .M ⟨dE rfl,dE rfl,dE rfl⟩ e
theorem pickF {r:Int}:∃y,y∈fg∧[AV.str "f",.str "g"][(r % 2).toNat]?=some (.str y):=by
 refine xEA (pick2 (a:=.str "f") (b:=.str "g") (r:=r)) λx h e=>?_
 rcases h with rfl|rfl
 ·exact iEA _ (.head _) e
 ·exact iEA _ (.tail _ (.head _)) e
noncomputable def aL (L:Ly) (Y:Lx) (rest:Int) (at_ spot name box known due hits heard spots owner:Option AV):Loc:=[(S "scene",some (.ref Y.sc)),(S "boxes",some (.ref Y.bxs)),(S "rest",some (.int rest)),(S "world",some (.ref L.wd)),(S "modules",some (.ref Y.mods)),(S "model",some (.ref Y.W.md)),(S "keys",some (.ref Y.keys)),
 (S "at",at_),(S "spot",spot),(S "name",name),(S "box",box),(S "known",known),(S "due",due),(S "hits",hits),(S "heard",heard),(S "spots",spots),(S "owner",owner),(S "behind",none),
 (S "_law_seek",none),(S "_law_line",none),(S "_law_shown",none),(S "int",none),(S "find",none),(S "NoCache",none),(S "len",none),(S "find_behind",none)]
noncomputable abbrev aLh (L:Ly) (Y:Lx) (rest:Int) (i:Nat) (n:Nd) (y:Str) (kn due hits hd:AV):Loc:=aL L Y rest (some (.int i)) (some (sv n)) (some (.str y)) (some (.ref (Y.bx i))) (some kn) (some due) (some hits) (some hd) none none
theorem mfold_ne (b:List Nd):∀(l:List (Nd×Bool)) (f:List Nd),f≠[]→mfold b l f≠[]:=by
 intro l
 induction l with
 |nil=>
  intro f h
  exact h
 |cons p0 r ih=>
  obtain ⟨a,c⟩:=p0
  intro f h
  rw[mfold_cons]
  split
  ·exact ih _ (by simp)
  ·exact ih f h
theorem line_ne {s:Gs} (h:SOK s) {n:Nd}:0 < (lineL s n).length:=by
 refine rE (lineL_eq _ _) ?_
 induction eb:behL s n using List.casesOn with
 |nil=>
  have:pts s.mx s.ah 2 n≠[]:=λz=>by
   have m:=pts_map s n
   rw[z] at m
   have o:=ol_self (mx:=s.mx) (ah:=s.ah) 2 n
   rw[←m] at o
   cases o
  induction ep:pts s.mx s.ah 2 n using List.casesOn with
  |nil=>exact absurd ep this
  |cons p r=>
   obtain ⟨a,c⟩:=p
   have:mfold [] ((a,c) :: r) []=mfold [] r [a]:=by rw[mfold_cons];induction c<;>rfl
   rw[this]
   exact Nat.lt_of_lt_of_le (List.length_pos_iff.mpr (mfold_ne [] r [a] (by simp))) (by unfold over;rw[List.length_append];lia)
 |cons x b=>
  unfold over
  refine rE List.length_append ?_
  generalize mfold (x :: b) (pts s.mx s.ah 2 n) []=f
  induction f using List.casesOn with
  |cons _ _=>simp;lia
  |nil=>simp
theorem aft_drop {m:Nd} (hm:spot m):∀{l:List Nd} {i:Nat},(∀n∈l,spot n)→(l.map nmS).findIdx? (λy=>decide (y=nmS m))=some i→aft m l=l.drop (i + 1):=by
 intro l
 induction l with
 |nil=>
  intro i _ e
  exact nn e
 |cons a l ih=>
  intro i h e
  rw[List.map_cons,List.findIdx?_cons] at e
  rw[aft_c]
  by_cases z:a=m
  ·refine rE (if_pos z) ?_
   rw[z,if_pos (decide_eq_true rfl)] at e
   injection e with e
   subst e;rfl
  ·refine rE (if_neg z) ?_
   rw[if_neg (λq=>z (nmS_inj (h a (.head _)) hm (of_decide_eq_true q)))] at e
   (refine xEA (Option.map_eq_some_iff.mp e) λj ej=>?_;rintro rfl)
   refine rE List.drop_succ_cons ?_
   exact ih (λn hn=>h n (.tail _ hn)) ej
theorem find_ix {m:Nd}:∀{l:List Nd},m∈l→∃i,(l.map nmS).findIdx? (λy=>decide (y=nmS m))=some i∧i < l.length
 |a :: l,h=>by
  (refine rE List.map_cons ?_;refine rE (List.findIdx?_cons) ?_)
  by_cases z:nmS a=nmS m
  ·refine rE (if_pos (decide_eq_true z)) ?_;exact iEA 0 rfl (Nat.succ_pos _)
  ·refine rE (if_neg (λq=>z (of_decide_eq_true q))) ?_
   refine xEA (find_ix ((List.mem_cons.mp h).resolve_left λq=>z (by exact rE q rfl))) λi e hi=>?_
   exact iEA (i + 1) (by refine rE e ?_;rfl) (Nat.succ_lt_succ hi)
theorem pickL {l:List Nd} {r:Int} (h:0 < l.length):∃m,m∈l∧(l.map sv)[(r % ((l.map sv).length:Int)).toNat]?=some (sv m):=by
 rw[List.length_map]
 have h1:=Int.emod_nonneg r (b:=(l.length:Int)) (by lia)
 have h2:=Int.emod_lt_of_pos r (b:=(l.length:Int)) (by lia)
 have h3:(r % (l.length:Int)).toNat < l.length:=by lia
 exact iEA (l[(r % (l.length:Int)).toNat]) (List.getElem_mem h3) (by rw[List.getElem?_map,List.getElem?_eq_getElem h3];rfl)
theorem c_askedE (kit:Kit prog w K B) {d:Nat} {rest:Int} {i:Nat} {n:Nd} {y:Str} {kn due hd hits:AV} (h:SI L Y s t σ) (hr:0≤rest∧rest < 10000000000) (hn:spot n) (q:∀τ s' t',SI L Y s' t' τ→Q (.bool true) τ) :
 fS prog w B (fst 79) (d + 19) X 11 9 (aLh L Y rest i n y kn due hits hd) σ Q:=by
 refine c_lawline kit h.gi.sok h.li hn (Nat.le_trans (dE rfl:6≤19) (Nat.le_add_left _ _)) λl τ k nl hl=>?_
 have h1:=h.keep k
 clear nl
 have ll:=lineL_len h.gi.sok n
 refine ⟨⟨by lia,by lia⟩,dE rfl,dE rfl,?_⟩
 refine ⟨_,.inl (rd_of hl),by refine rE (List.length_map _) ?_;exact Nat.le_trans ll (dE rfl),?_⟩
 have lp:0 < ((lineL s n).map sv).length:=by refine rE (List.length_map _) ?_;exact line_ne h.gi.sok
 have lp':(0:Int) < (((lineL s n).map sv).length:Int):=Int.natCast_pos.mpr lp
 refine ⟨lp',?_⟩
 refine xEA (pickL (l:=lineL s n) (r:=rest / 24) (line_ne h.gi.sok)) λm hm em=>?_
 have u1:=Int.emod_nonneg (rest / 24) (b:=(((lineL s n).map sv).length:Int)) (by lia)
 have u2:=Int.emod_lt_of_pos (rest / 24) lp'
 refine .inl ⟨_,.inl (rd_of hl),u1,by rw[List.length_map] at u2 ⊢;lia,_,em,?_⟩
 have sl:=lineL_spot h.gi.sok hn
 have hms:=sl m hm
 refine xEA (find_ix hm) λj ej hj=>?_
 refine ⟨⟨_,rd_of hl⟩,?_⟩
 refine ⟨(lineL s n).map nmS,j,by (refine rE (rd_of hl) ?_;refine rE List.map_map ?_);rfl,ej,by refine rE (List.length_map _) ?_;exact Nat.le_trans ll (dE rfl),?_⟩
 refine ⟨by lia,by lia,?_⟩
 refine ⟨_,by refine rE (List.length_map _) ?_;exact Nat.le_trans ll (dE rfl),rd_of hl,?_⟩
 intro c τ₁ hc e
 have k1:Kx NoS τ τ₁:=e▸(Kx.refl _ _).up (.inr hc.no)
 have ea:((lineL s n).map sv).drop ((j:Int) + 1).toNat=(aft m (lineL s n)).map sv:=by (refine rL List.map_drop ?_;refine rE (aft_drop hms sl ej) ?_);rfl
 have tc:τ₁ c=some (.list ((aft m (lineL s n)).map sv)):=by rw[e,up_self,ea]
 clear e ea em u1 u2
 have h2:=h1.keep k1
 have al:∀x∈aft m (lineL s n),x∈lineL s n:=λx hx=>by rw[aft_drop hms sl ej] at hx;exact List.mem_of_mem_drop hx
 refine c_seekL kit h2.li (λx hx=>sl x (al x hx)) (rd_of tc) (by (refine rE (aft_drop hms sl ej) ?_;refine rE List.length_drop ?_);lia) λv hv=>?_
 refine ⟨_,rd_of h2.sr.mods,_,mds_get L hn,?_⟩
 refine ⟨_,rd_of h2.sr.mods,_,mds_get L hms,?_⟩
 refine c_behind kit h2.gi (Nat.le_trans (dE rfl:17≤19) (Nat.le_add_left _ _)) λu τ₂ kept g2 k2 r=>?_
 have h3:=h2.kept g2 k2
 rw[aft_law h.gi.sok hn hm] at r
 refine c_shown kit (d:=d + 18) h3.gi h3.sr.keys r (λE e=>seek_own h.pf _ _ E e) λu' τ₃ k3 hu=>?_
 have hv':lwR τ₃ (seek s.df y (aft m (lineL s n))) v:=hv.keep λa xs e=>k3 _ _ (k2 _ _ e (nomd h2.gi e λ_ _ z=>by exact nC AO.ctorIdx z rfl)) not_false
 exact eq1 (lw_eq hu hv') (q _ _ _ (h3.keep k3))
theorem ls_not {xs:List AV}:(∀C d fs,AO.list xs≠.inst C d fs)∧∀ys,AO.list xs≠.tup ys:=⟨(λ_ _ _ z=>by exact nC AO.ctorIdx z rfl),λ_ z=>by exact nC AO.ctorIdx z rfl⟩
theorem sc_not {kvs:List (Str×AV)}:(∀C d fs,AO.sdict kvs≠.inst C d fs)∧∀ys,AO.sdict kvs≠.tup ys:=⟨(λ_ _ _ z=>by exact nC AO.ctorIdx z rfl),λ_ z=>by exact nC AO.ctorIdx z rfl⟩
theorem c_askedF (kit:Kit prog w K B) {d:Nat} {rest:Int} {i:Nat} {n:Nd} {y:Str} {kn due hd hits:AV} (h:SI L Y s t σ) (hi:i < 3) (hr:0≤rest∧rest < 10000000000) (hn:spot n) (hdue:lwR σ (seek s.df y (lineL s n)) due) (q:∀τ s' t',SI L Y s' t' τ→Q (.bool true) τ) :
 fS prog w B (fst 79) (d + 19) X 13 7 (aLh L Y rest i n y kn due hits hd) σ Q:=by
 have l17:17≤d + 19:=Nat.le_trans (dE rfl:17≤19) (Nat.le_add_left _ _)
 obtain ⟨db,v,nu,nm,en,hb,_,_⟩:=h.sr.box i hi
 refine at1 hb (by rfl) (x:=.int (t.box i).hits) (by rfl) ?_
 refine at1 hb (by rfl) (x:=.int (t.box i).miss) (by rfl) ?_
 refine xEAA h.sr.cnt λcs hc lc gc=>?_
 refine ⟨_,rd_of h.sr.sc,.ref Y.cnt,by rfl,?_⟩
 refine .inl ⟨_,.inl (rd_of hc),by lia,by lia,_,gc i hi,?_⟩
 refine eq1 (r:=true) (congrArg some (decide_eq_true (h.pf.cn i hi).symm)) ?_
 refine ⟨_,rd_of h.sr.mods,_,mds_get L hn,?_⟩
 refine c_find kit h.gi l17 λu τ₁ kept g1 k1 r=>?_
 have h1:=h.kept g1 k1
 rw[seek_law h.gi.sok hn] at r
 have d1:lwR τ₁ (seek s.df y (lineL s n)) due:=hdue.keep λa xs e=>k1 _ _ e (nomd h.gi e λ_ _ z=>by exact nC AO.ctorIdx z rfl)
 refine c_shown kit (d:=d + 18) h1.gi h1.sr.keys r (λE e=>seek_own h.pf _ _ E e) λu' τ₂ k2 hu=>?_
 have h2:=h1.keep k2
 have d2:lwR τ₂ (seek s.df y (lineL s n)) due:=d1.keep λa xs e=>k2 _ _ e not_false
 refine eq1 (lw_eq hu d2) ?_
 clear hu r hdue d1 hc hb h1 g1
 refine nilS (n:=11) ?_
 refine c_newNo kit (d:=d + 17) λx dx τ₃ nx k3 hx=>?_
 have h3:=h2.keep k3
 refine meth1 hx (by rfl) (by rfl) ?_
 refine ⟨_,rd_of h3.sr.mods,_,mds_get L hn,?_⟩
 refine c_noLook kit (d:=d + 1) h3.gi hx λv τ₄ kept₄ k4 g4 r=>?_
 have k4':Kx (MD L) τ₂ τ₄:=λb o e nb=>k4 _ _ (k3 _ _ e not_false) λz=>z.elim nb λz=>by rw[z,nx] at e;exact nn e
 have h4:=h2.kept (kept:=kept₄) g4 k4'
 have r:enR L τ₄ (seek s.df y (lineG s n)) v:=r
 rw[seek_law h.gi.sok hn] at r
 have d4:lwR τ₄ (seek s.df y (lineL s n)) due:=d2.keep λa xs e=>k4' _ _ e (nomd h2.gi e λ_ _ z=>by exact nC AO.ctorIdx z rfl)
 refine c_shown kit (d:=d + 18) h4.gi h4.sr.keys r (λE e=>seek_own h.pf _ _ E e) λu' τ₅ k5 hu=>?_
 have d5:lwR τ₅ (seek s.df y (lineL s n)) due:=d4.keep λa xs e=>k5 _ _ e not_false
 refine eq1 (lw_eq hu d5) ?_
 exact nilS (n:=10) (c_askedE kit (h4.keep k5) hr hn q)
theorem c_askedC (kit:Kit prog w K B) {d:Nat} {rest:Int} {i:Nat} {n:Nd} {y:Str} {kn due hd hits:AV} {b:Bool} (hi:i < 3) (hr:0≤rest∧rest < 10000000000) (hn:spot n) (g:GI L Y.Z s σ) (li:LI Y.W s σ) (sr:SR L Y { t with box:=updN t.box i ((t.box i).asked s n y b) } σ) (pf:PF s t)
 (np:∀a,okT a→Y.at_ a≠s.g.nat∧Y.at_ a≠s.g.pre) (hdue:lwR σ (seek s.df y (lineL s n)) due) (q:∀τ s' t',SI L Y s' t' τ→Q (.bool true) τ) :
 fS prog w B (fst 79) (d + 19) X 14 6 (aLh L Y rest i n y kn due hits hd) σ Q:=by
 refine ⟨_,rd_of sr.sc,.int t.turns,by rfl,?_⟩
 intro a τ₁ ha e
 have k1:Kx NoS σ τ₁:=e▸(Kx.refl _ _).up (.inr ha.no)
 have ta:τ₁ a=some (.tup [sv n,.str y,.int t.turns]):=by refine rE e ?_;exact up_self ..
 clear e
 have s1:=sr.kx k1 okr_no
 refine xEAA s1.cnt λcs hc lc gc=>?_
 refine ⟨_,rd_of s1.sc,.ref Y.cnt,by rfl,?_⟩
 refine .inl ⟨_,.inl (rd_of hc),by lia,by lia,_,gc i hi,?_⟩
 refine ⟨_,rd_of s1.sc,.ref Y.ask,by rfl,?_⟩
 refine xEAA s1.ask λas hs la _=>?_
 refine ⟨as,hs,by lia,by lia,by refine rE la ?_;exact hi,?_⟩
 have s2:=s1.setAsk hi hs (o:=some (n,y,t.turns)) (v:=.ref a) ⟨a,rfl,ta⟩
 have g1:=g.keep k1
 have l1:=li.keep k1
 have g2:GI L Y.Z s (up τ₁ Y.ask (.list (as.set i (.ref a)))):=g1.upZ (b:=Y.ask) ⟨.ask,trivial,rfl⟩ hs ls_not (np .ask trivial)
 have kk2:Kx (λc=>c=Y.ask) τ₁ (up τ₁ Y.ask (.list (as.set i (.ref a)))):=up_kx
 have l2:LI Y.W s (up τ₁ Y.ask (.list (as.set i (.ref a)))):=l1.kx rfl kk2 (okr_one s1 (a:=.ask) trivial (λz=>z trivial) hs ls_quiet)
 have e2:up τ₁ Y.ask (.list (as.set i (.ref a))) Y.cnt=some (.list cs):=(up_ne (λz=>by have:=sr.inj .cnt .ask trivial trivial z;exact nC Tg.ctorIdx this rfl)).trans hc
 have d2:lwR (up τ₁ Y.ask (.list (as.set i (.ref a)))) (seek s.df y (lineL s n)) due:=hdue.keep λb xs e=>kk2 _ _ (k1 _ _ e not_false) λz=>by have e:=k1 _ _ e not_false;rw[z,hs] at e;exact nC AO.ctorIdx (sJ e) rfl
 have fin:∀τ₂,SR L Y { t with box:=updN t.box i ((t.box i).asked s n y b),ask:=updN t.ask i (some (n,y,t.turns)) } τ₂→GI L Y.Z s τ₂→LI Y.W s τ₂→τ₂ Y.cnt=some (.list cs)→lwR τ₂ (seek s.df y (lineL s n)) due→fS prog w B (fst 79) (d + 19) X 13 7 (aLh L Y rest i n y kn due hits hd) (up τ₂ Y.cnt (.list (cs.set i (.int (t.cnt i + 1))))) Q:=by
  intro τ₂ s2 g2 l2 e2 d2
  have s3:=s2.setCnt hi e2 (c:=t.cnt i + 1)
  have g3:GI L Y.Z s (up τ₂ Y.cnt (.list (cs.set i (.int (t.cnt i + 1))))):=g2.upZ (b:=Y.cnt) ⟨.cnt,trivial,rfl⟩ e2 ls_not (np .cnt trivial)
  have kk3:Kx (λc=>c=Y.cnt) τ₂ (up τ₂ Y.cnt (.list (cs.set i (.int (t.cnt i + 1))))):=up_kx
  have l3:LI Y.W s (up τ₂ Y.cnt (.list (cs.set i (.int (t.cnt i + 1))))):=l2.kx rfl kk3 (okr_one s2 (a:=.cnt) trivial (λz=>z trivial) e2 ls_quiet)
  have d3:lwR (up τ₂ Y.cnt (.list (cs.set i (.int (t.cnt i + 1))))) (seek s.df y (lineL s n)) due:=d2.keep λb xs e=>kk3 _ _ e λz=>by rw[z,e2] at e;exact nC AO.ctorIdx (sJ e) rfl
  exact c_askedF kit (t:=t.asked s i n y b) ⟨g3,l3,s3,pf.look hi hn λE e=>seek_own pf _ _ E e,np⟩ hi hr hn d3 q
 refine ⟨_,rd_of s2.sc,.ref Y.cnt,by rfl,?_⟩
 refine ⟨cs,e2,by lia,by lia,by refine rE lc ?_;exact hi,?_⟩
 exact fin _ s2 g2 l2 e2 d2
theorem c_askedB (kit:Kit prog w K B) {d:Nat} {rest:Int} {i:Nat} {n:Nd} {y:Str} (h:SI L Y s t σ) (hi:i < 3) (hr:0≤rest∧rest < 10000000000) (hn:spot n) (q:∀τ s' t',SI L Y s' t' τ→Q (.bool true) τ) :
 fS prog w B (fst 79) (d + 19) X 18 2 (aL L Y rest (some (.int i)) (some (sv n)) (some (.str y)) none none none none none none none) σ Q:=by
 refine xEAA h.sr.bxs λbs hb lb gb=>?_
 refine xEAA h.sr.ask λas ha la ga=>?_
 refine xEA (ga i hi) λkn ek rk=>?_
 refine .inl ⟨_,.inl (rd_of hb),by lia,by lia,_,gb i hi,?_⟩
 refine ⟨_,rd_of h.sr.sc,.ref Y.ask,by rfl,?_⟩
 refine .inl ⟨_,.inl (rd_of ha),by lia,by lia,_,ek,?_⟩
 refine c_lawline kit h.gi.sok h.li hn (Nat.le_trans (dE rfl:6≤19) (Nat.le_add_left _ _)) λl τ k _ hl=>?_
 have h1:=h.keep k
 refine c_seekL kit h1.li (lineL_spot h.gi.sok hn) (rd_of hl) (Nat.le_trans (lineL_len h.gi.sok n) (dE rfl)) λdue hdue=>?_
 obtain ⟨db,v,nu,nm,en,hbx,_,_⟩:=h1.sr.box i hi
 refine at1 hbx (by rfl) (x:=.int (t.box i).hits) (by rfl) ?_
 refine meth1 hbx (by rfl) (by rfl) ?_
 refine ⟨_,rd_of h1.sr.mods,_,mds_get L hn,?_⟩
 refine c_lookS kit (d:=d + 1) h1 hi λhd τ₂ kept b eb g2 l2 s2 r k2=>?_
 have kt:∀{a xs},τ a=some (.tup xs)→τ₂ a=some (.tup xs):=λe=>k2 _ _ e λ_ _ _ z=>by exact nC AO.ctorIdx z rfl
 have r:enR L τ₂ (seek s.df y (lineG s n)) hd:=r
 rw[seek_law h.gi.sok hn] at r
 have due2:lwR τ₂ (seek s.df y (lineL s n)) due:=hdue.keep λ_ _ e=>kt e
 have kn2:askR τ₂ (t.ask i) kn:=by
  revert rk
  induction t.ask i with
  |none=>exact id
  |some p=>rintro ⟨a,rfl,q⟩;exact ⟨a,rfl,kt (k _ _ q not_false)⟩
 refine c_shown kit (d:=d + 18) g2 s2.keys r (λE e=>seek_own h.pf _ _ E e) λu' τ₃ k3 hu=>?_
 have s3:=s2.kx k3 okr_no
 have due3:lwR τ₃ (seek s.df y (lineL s n)) due:=due2.keep λa xs e=>k3 _ _ e not_false
 refine eq1 (lw_eq hu due3) ?_
 have bx3:=s3.box i hi
 rw[show ({ t with box:=updN t.box i ((t.box i).asked s n y b) }:Ts).box i=(t.box i).asked s n y b from updN_self ..] at bx3
 obtain ⟨db',v',nu',nm',en',hbx3,_,_⟩:=bx3
 refine at1 hbx3 (by rfl) (x:=.int ((t.box i).hits + if b then 1 else 0)) (by rfl) ?_
 refine ⟨_,rd_of s3.sc,.int t.turns,by rfl,?_⟩
 intro a τ₄ hta e
 have k4:Kx NoS τ₃ τ₄:=e▸(Kx.refl _ _).up (.inr hta.no)
 have ta:τ₄ a=some (.tup [sv n,.str y,.int t.turns]):=by refine rE e ?_;exact up_self ..
 clear e
 have kn4:askR τ₄ (t.ask i) kn:=by
  revert kn2
  induction t.ask i with
  |none=>exact id
  |some p=>rintro ⟨a,rfl,q⟩;exact ⟨a,rfl,k4 _ _ (k3 _ _ q not_false) not_false⟩
 have due4:lwR τ₄ (seek s.df y (lineL s n)) due:=due3.keep λa xs e=>k4 _ _ e not_false
 refine eq1 (ask_eq h.pf hi hn kn4 ta) ?_
 have eb':decide (t.ask i=some (n,y,t.turns))=b:=by
  induction b with
  |true=>exact decide_eq_true ((ask_key h.pf hi).mp (eb.mp rfl))
  |false=>exact decide_eq_false λz=>by have:=eb.mpr ((ask_key h.pf hi).mpr z);exact Bool.noConfusion this
 refine rE eb' ?_
 refine eq1 (r:=true) (congrArg some (decide_eq_true (by induction b<;>simp<;>lia))) ?_
 exact nilS (n:=13) (c_askedC kit (s:={ s with kept:=kept }) (t:=t) (b:=b) hi hr hn ((g2.keep k3).keep k4) (((l2.keep k3).keep k4).alt kept s.g.last s.made) (s3.kx k4 okr_no) (h.pf.alt kept s.g.last s.made) h.np due4 q)
theorem c_asked (kit:Kit prog w K B) {d:Nat} {rest:Int} (h:SI L Y s t σ) (hr:0≤rest∧rest < 10000000000) (q:∀τ s' t',SI L Y s' t' τ→Q (.bool true) τ):CallOK prog w B (d + 20) 973 [.ref Y.sc,.ref Y.bxs,.int rest] σ Q X:=by
 refine callFn (n:=20) (d:=d + 19) kit.gd kit.snd (kit.fns 59) ?_
 refine ⟨_,rd_of h.sr.sc,.ref L.wd,by rfl,?_⟩
 refine ⟨_,rd_of h.sr.sc,.ref Y.mods,by rfl,?_⟩
 refine ⟨_,rd_of h.sr.sc,.ref Y.W.md,by rfl,?_⟩
 refine ⟨_,rd_of h.sr.sc,.ref Y.keys,by rfl,?_⟩
 refine ⟨dE rfl,?_⟩
 intro l τ₁ hl e
 have k1:Kx NoS σ τ₁:=e▸(Kx.refl _ _).up (.inr hl.no)
 have t1:τ₁ l=some (.list [sv .A,sv .B,sv .T,sv .M]):=by refine rE e ?_;exact up_self ..
 clear e
 have sm:small rest:=⟨by lia,by lia⟩
 refine ⟨sm,dE rfl,dE rfl,?_⟩
 refine ⟨dE rfl,?_⟩
 refine xEA (pickA (r:=rest / 3)) λn hn en=>?_
 refine .inl ⟨_,.inl (rd_of t1),by lia,by lia,_,en,?_⟩
 intro l' τ₂ hl' e
 have k2:Kx NoS τ₁ τ₂:=e▸(Kx.refl _ _).up (.inr hl'.no)
 have t2:τ₂ l'=some (.list [.str "f",.str "g"]):=by refine rE e ?_;exact up_self ..
 clear e
 refine ⟨sm,dE rfl,dE rfl,?_⟩
 refine ⟨dE rfl,?_⟩
 refine xEA (pickF (r:=rest / 12)) λy hy ey=>?_
 refine .inl ⟨_,.inl (rd_of t2),by lia,by lia,_,ey,?_⟩
 obtain ⟨i,ei⟩:=Int.eq_ofNat_of_zero_le (show 0≤rest % 3 by lia)
 have z:=c_askedB (prog:=prog) (w:=w) (B:=B) (X:=X) kit (d:=d) (rest:=rest) (i:=i) (n:=n) (y:=y) ((h.keep k1).keep k2) (by lia) hr hn q
 rw[show (AV.int (i:Int))=.int (rest % 3) from congrArg AV.int ei.symm] at z
 exact z
end
noncomputable abbrev fT (prog:Program) (w:World) (B:Heap) (st:Stmt) (tb:Option (Addr×Str)) (d:Nat) (X:Post) (n i:Nat) (ρ:Loc) (σ:AH) (Q:Post):Prop:=(awp n).S (ΓF prog w B (fscope st) d X tb) ((fbody st).drop i) ρ σ (endK Q)
section
variable {prog:Program} {w:World} {K:Frag} {B:Heap} {σ τ:AH} {Q X:Post} {L:Ly} {Z:Addr→Prop} {s:Gs} {Y:Lx} {t:Ts}
theorem tt1 {b:Bool} {Q:BPost} (h:Q b σ):qB (qTr Q) σ b:=h
theorem tt2 {b:Bool} {Q:BPost} (h:Q b σ):qTr Q (.bool b) σ:=h
theorem if1 {R:Ops} {b o:Expr} {Γ:Cx} {ρ:Loc} {Q:Post} (h:R.E Γ b ρ σ Q):qIfE R b o Γ ρ Q true σ:=h
theorem if0 {R:Ops} {b o:Expr} {Γ:Cx} {ρ:Loc} {Q:Post} (h:R.E Γ o ρ σ Q):qIfE R b o Γ ρ Q false σ:=h
theorem is0 {R:Ops} {b o:List Stmt} {Γ:Cx} {ρ:Loc} {Q:SPost} (h:R.S Γ o ρ σ Q):qIfS R b o Γ ρ Q false σ:=h
theorem csE {n:Nat} {Γ:Cx} {x:Str} {a:Nat} {p:Pos} {ρ:Loc} {Q:Post} (h:Q (.str x) σ):(awp (n + 1)).E Γ (.Constant (.str x) a p) ρ σ Q:=h
theorem nmE {n:Nat} {Γ:Cx} {x:Str} {p:Pos} {ρ:Loc} {v:AV} {Q:Post} (h1:okName x=true) (h2:Γ.nm.lookup x=some .cell∨Γ.nm.lookup x=some .local) (h3:ρ.get x=some v) (h:Q v σ):(awp (n + 1)).E Γ (.Name x p) ρ σ Q:=by
 show chk (okName x) _
 refine rE h1 ?_
 have g:onO (λa=>Q a σ) (ρ.get x):=by rw[h3];exact h
 show onO (nameA x ρ σ Q) (Γ.nm.lookup x)
 rcases h2 with h2|h2
 ·rw[h2];exact g
 ·rw[h2];exact g
theorem at_keep (r:SR L Y t σ) {a:Tg} (ha:okT a) {o':AO} {b:Tg} (hb:okT b) (n:b≠a) {o:AO} (e:σ (Y.at_ b)=some o):up σ (Y.at_ a) o' (Y.at_ b)=some o:=(up_ne λz=>n (r.inj _ _ hb ha z)).trans e
theorem lw_up {b:Addr} {o o':AO} (e:σ b=some o) (n:∀xs,o≠.tup xs) {p:Option En} {v:AV} (h:lwR σ p v):lwR (up σ b o') p v:=h.keep λa xs e'=>(up_ne λz=>by rw[z,e] at e';injection e' with e';exact n _ e').trans e'
theorem LI.setMx (h:LI Y.W s σ) (r:SR L Y t σ) {n:Nd} (hn:spot n) {ns:List Nd} {xs:List AV} (e:xs=ns.map sv):LI Y.W { s with mx:=upd s.mx n ns } (up σ (Y.W.mx n) (.list xs)):=by
 have kz:∀{b:Tg} {o},okT b→b≠.mx n→σ (Y.at_ b)=some o→up σ (Y.W.mx n) (.list xs) (Y.at_ b)=some o:=λhb z e=>at_keep (a:=.mx n) r hn hb z e
 refine ⟨kz (b:=.md) trivial (λz=>by exact nC Tg.ctorIdx z rfl) h.md,λm hm=>kz (b:=.row m) hm (λz=>by exact nC Tg.ctorIdx z rfl) (h.row m hm),λm hm=>?_,λm hm=>?_,λm hm=>kz (b:=.ah m) hm (λz=>by exact nC Tg.ctorIdx z rfl) (h.ah m hm)⟩
 ·obtain ⟨kvs,a,b⟩:=h.df m hm
  exact ⟨kvs,kz (b:=.df m) hm (λz=>by exact nC Tg.ctorIdx z rfl) a,b.mono λo v q=>lw_up (h.mx n hn) (λ_ z=>by exact nC AO.ctorIdx z rfl) q⟩
 ·by_cases z:m=n
  ·subst z
   show up σ (Y.W.mx m) (.list xs) (Y.W.mx m)=some (.list ((upd s.mx m ns m).map sv))
   rw[up_self,upd_self,e]
  ·show up σ (Y.W.mx n) (.list xs) (Y.W.mx m)=some (.list ((upd s.mx n ns m).map sv))
   refine rE (upd_ne z) ?_
   exact kz (b:=.mx m) hm (λq=>z (by injection q)) (h.mx m hm)
theorem LI.setAh (h:LI Y.W s σ) (r:SR L Y t σ) {n:Nd} (hn:spot n) {ns:List Nd} {xs:List AV} (e:xs=ns.map sv):LI Y.W { s with ah:=upd s.ah n ns } (up σ (Y.W.ah n) (.list xs)):=by
 have kz:∀{b:Tg} {o},okT b→b≠.ah n→σ (Y.at_ b)=some o→up σ (Y.W.ah n) (.list xs) (Y.at_ b)=some o:=λhb z e=>at_keep (a:=.ah n) r hn hb z e
 refine ⟨kz (b:=.md) trivial (λz=>by exact nC Tg.ctorIdx z rfl) h.md,λm hm=>kz (b:=.row m) hm (λz=>by exact nC Tg.ctorIdx z rfl) (h.row m hm),λm hm=>?_,λm hm=>kz (b:=.mx m) hm (λz=>by exact nC Tg.ctorIdx z rfl) (h.mx m hm),λm hm=>?_⟩
 ·obtain ⟨kvs,a,b⟩:=h.df m hm
  exact ⟨kvs,kz (b:=.df m) hm (λz=>by exact nC Tg.ctorIdx z rfl) a,b.mono λo v q=>lw_up (h.ah n hn) (λ_ z=>by exact nC AO.ctorIdx z rfl) q⟩
 ·by_cases z:m=n
  ·subst z
   show up σ (Y.W.ah m) (.list xs) (Y.W.ah m)=some (.list ((upd s.ah m ns m).map sv))
   rw[up_self,upd_self,e]
  ·show up σ (Y.W.ah n) (.list xs) (Y.W.ah m)=some (.list ((upd s.ah n ns m).map sv))
   refine rE (upd_ne z) ?_
   exact kz (b:=.ah m) hm (λq=>z (by injection q)) (h.ah m hm)
theorem LI.setDf (h:LI Y.W s σ) (r:SR L Y t σ) {n:Nd} (hn:spot n) {kvs:List (Str×AV)} {df:Str→Option (Option En)} (e:DictR (lwR σ) kvs df):LI Y.W { s with df:=upd s.df n df } (up σ (Y.W.df n) (.sdict kvs)):=by
 have kz:∀{b:Tg} {o},okT b→b≠.df n→σ (Y.at_ b)=some o→up σ (Y.W.df n) (.sdict kvs) (Y.at_ b)=some o:=λhb z e=>at_keep (a:=.df n) r hn hb z e
 obtain ⟨k0,e0,_⟩:=h.df n hn
 refine ⟨kz (b:=.md) trivial (λz=>by exact nC Tg.ctorIdx z rfl) h.md,λm hm=>kz (b:=.row m) hm (λz=>by exact nC Tg.ctorIdx z rfl) (h.row m hm),λm hm=>?_,λm hm=>kz (b:=.mx m) hm (λz=>by exact nC Tg.ctorIdx z rfl) (h.mx m hm),λm hm=>kz (b:=.ah m) hm (λz=>by exact nC Tg.ctorIdx z rfl) (h.ah m hm)⟩
 by_cases z:m=n
 ·subst z
  refine ⟨kvs,up_self ..,?_⟩
  show DictR _ kvs (upd s.df m df m)
  rw[upd_self]
  exact e.mono λo v q=>lw_up e0 (λ_ z=>by exact nC AO.ctorIdx z rfl) q
 ·obtain ⟨k1,a,b⟩:=h.df m hm
  refine ⟨k1,kz (b:=.df m) hm (λq=>z (by injection q)) a,?_⟩
  show DictR _ k1 (upd s.df n df m)
  refine rE (upd_ne z) ?_
  exact b.mono λo v q=>lw_up e0 (λ_ z=>by exact nC AO.ctorIdx z rfl) q
theorem LI.setFz (h:LI Y.W s σ) (r:SR L Y t σ) {n:Nd} (hn:spot n) {fz:Nd→Bool} (hf:∀m,m≠n→fz m=s.fz m):LI Y.W { s with fz:=fz } (up σ (Y.W.row n) (.sdict (rowO Y.W { s with fz:=fz } n))):=by
 have kz:∀{b:Tg} {o},okT b→b≠.row n→σ (Y.at_ b)=some o→up σ (Y.W.row n) (.sdict (rowO Y.W { s with fz:=fz } n)) (Y.at_ b)=some o:=λhb z e=>at_keep (a:=.row n) r hn hb z e
 refine ⟨kz (b:=.md) trivial (λz=>by exact nC Tg.ctorIdx z rfl) h.md,λm hm=>?_,λm hm=>?_,λm hm=>kz (b:=.mx m) hm (λz=>by exact nC Tg.ctorIdx z rfl) (h.mx m hm),λm hm=>kz (b:=.ah m) hm (λz=>by exact nC Tg.ctorIdx z rfl) (h.ah m hm)⟩
 ·by_cases z:m=n
  ·subst z;exact up_self ..
  ·refine (kz (b:=.row m) hm (λq=>z (by injection q)) (h.row m hm)).trans ?_
   unfold rowO
   dsimp only
   exact rE (hf m z) rfl
 ·obtain ⟨k1,a,b⟩:=h.df m hm
  exact ⟨k1,kz (b:=.df m) hm (λz=>by exact nC Tg.ctorIdx z rfl) a,b.mono λo v q=>lw_up (h.row n hn) (λ_ z=>by exact nC AO.ctorIdx z rfl) q⟩
theorem SR.setTurns (h:SR L Y t σ) (u:Int):SR L Y { t with turns:=u } (up σ Y.sc (.sdict (scO L Y u))):=by
 have kk:∀{b o},σ b=some o→(∀kvs,o≠.sdict kvs)→up σ Y.sc (.sdict (scO L Y u)) b=some o:=λe n=>(up_ne λz=>by rw[z,h.sc] at e;injection e with e;exact n _ e.symm).trans e
 refine ⟨h.inj,up_self ..,at_keep (a:=.sc) (b:=.mods) h trivial trivial (λz=>by exact nC Tg.ctorIdx z rfl) h.mods,?_,?_,?_,?_,λj hj=>?_,h.bne,⟨kk h.tab.1 (λ_ z=>by exact nC AO.ctorIdx z rfl),kk h.tab.2 (λ_ z=>by exact nC AO.ctorIdx z rfl)⟩,kk h.mkl (λ_ z=>by exact nC AO.ctorIdx z rfl),kk h.fx (λ_ z=>by exact nC AO.ctorIdx z rfl)⟩
 ·obtain ⟨kd,e,r⟩:=h.keys
  exact ⟨kd,kk e (λ_ z=>by exact nC AO.ctorIdx z rfl),r⟩
 ·refine xEAA h.ask λys e' l r=>?_
  refine iEAA ys (kk e' (λ_ z=>by exact nC AO.ctorIdx z rfl)) l (λj hj=>?_)
  refine xEA (r j hj) λu e1 e2=>?_
  refine iEA u e1 ?_
  have e2:askR σ (t.ask j) u:=e2
  show askR _ (t.ask j) u
  revert e2
  induction t.ask j with
  |none=>exact id
  |some p=>rintro ⟨a,rfl,q⟩;exact ⟨a,rfl,kk q λ_ z=>by exact nC AO.ctorIdx z rfl⟩
 ·refine xEA h.cnt λys e' r=>?_
  exact iEA ys (kk e' (λ_ z=>by exact nC AO.ctorIdx z rfl)) r
 ·refine xEA h.bxs λys e' r=>?_
  exact iEA ys (kk e' (λ_ z=>by exact nC AO.ctorIdx z rfl)) r
 ·obtain ⟨d,v,n,nm,en,e,r,k⟩:=h.box j hj
  exact ⟨d,v,n,nm,en,kk e (λ_ z=>by exact nC AO.ctorIdx z rfl),r.keep λe d fs he=>kk he (λ_ z=>by exact nC AO.ctorIdx z rfl),k⟩
theorem PF.turn (h:PF s t) {s':Gs} (hv:s'.g.ver=s.g.ver + 1) (own:∀n x E,s'.df n x=some (some E)→spot E.owner):PF s' { t with turns:=t.turns + 1 }:=by
 have v:=h.ver
 refine ⟨⟨by refine rE hv ?_;show _=t.turns + 1 + t.v0;lia,by show 0≤t.turns + 1;lia,v.2.2⟩,own,h.key,λi v' n y hi e=>?_,h.vow,h.cn⟩
 refine xAA (h.old i v' n y hi e) λa b _=>?_
 exact iAA (by lia) b (λz=>by lia)
theorem SI.turned (g:GI L Y.Z s σ) (li:LI Y.W s σ) (sr:SR L Y t σ) (pf:PF s { t with turns:=t.turns + 1 }) (np:∀a,okT a→Y.at_ a≠s.g.nat∧Y.at_ a≠s.g.pre):SI L Y s { t with turns:=t.turns + 1 } (up σ Y.sc (.sdict (scO L Y (t.turns + 1)))):=
 ⟨g.upZ (b:=Y.sc) ⟨.sc,trivial,rfl⟩ sr.sc sc_not (np .sc trivial),li.kx rfl up_kx (okr_one sr (a:=.sc) trivial (λz=>z trivial) sr.sc sc_quiet),sr.setTurns _,pf,np⟩
noncomputable def lst (s:Gs) (ah:Bool) (n:Nd):List Nd:=if ah then s.ah n else s.mx n
noncomputable def srt (ah:Bool):Str:=if ah then "ahead" else "mixed"
noncomputable def dueM (s:Gs) (ah:Bool) (n m:Nd):Str×Bool:=if n∈ol s.mx s.ah 3 m then ("ArgumentError",false) else if s.fz n then ("FrozenError",false) else ("",!(lst s ah n).contains m)
inductive h33I (s:Gs) (m:Nd) (τ:AH) (rest:List AV) (acc:List AV) (ρ:Loc) (τ':AH):Prop
 |mk (qs ps x y) (h1:PtR τ rest ps) (h2:pts s.mx s.ah 2 m=qs ++ ps) (h3:acc=(qs.map (·.1)).map sv) (h4:ρ=[(S ".0",none),(S "one",x),(S "first",y)]) (h5:τ'=τ):h33I s m τ rest acc ρ τ'
theorem c_due (kit:Kit prog w K B) {d:Nat} {n m:Nd} {ah:Bool} (sok:SOK s) (g:LI Y.W s σ) (hn:spot n) (hm:spot m) (h:∀a τ,Kx NoS σ τ→τ a=some (.tup [.str (dueM s ah n m).1,.bool (dueM s ah n m).2])→Q (.ref a) τ):CallOK prog w B (d + 4) 978 [.ref Y.W.md,sv n,sv m,.str (srt ah)] σ Q X:=by
 refine callFn (n:=20) (d:=d + 3) kit.gd kit.snd (kit.fns 60) ?_
 refine c_parts kit sok g hm (Nat.le_add_left _ _) λl xs τ k _ hl hp=>?_
 have lp:(pts s.mx s.ah 2 m).length≤21:=pts_len sok m
 refine .inl ⟨_,rd_of hl,by refine rE hp.len ?_;exact Nat.le_trans lp (dE rfl),?_⟩
 refine ⟨h33I s m τ,?_,?_,?_⟩
 ·exact ⟨[],_,none,none,hp,rfl,rfl,by rfl,rfl⟩
 ·rintro acc ρ τ' ⟨qs,ps,x,y,h1,h2,rfl,rfl,rfl⟩
  refine ⟨rd_of hl,?_⟩
  have:ps=[]:=by cases h1;rfl
  rw[this,List.append_nil] at h2
  rw[←h2,pts_map]
  intro c τ₁ hc e
  have k1:Kx NoS τ' τ₁:=e▸(Kx.refl _ _).up (.inr hc.no)
  have tc:τ₁ c=some (.list ((ol s.mx s.ah 3 m).map sv)):=by refine rE e ?_;exact up_self ..
  clear e
  have g1:=(g.keep k).keep k1
  refine eq1 (amemS (rd_of tc) (ol_spot sok 3 m hm) hn) ?_
  have ret:∀v,v=dueM s ah n m→∀a τ₂,Fresh τ₁ a→τ₂=up τ₁ a (.tup [.str v.1,.bool v.2])→Q (.ref a) τ₂:=λv e a τ₂ ha et=>h a τ₂ ((k.trans k1).trans (et▸(Kx.refl _ _).up (.inr ha.no))) (by (refine rE et ?_;refine rL e ?_);exact up_self ..)
  induction ec:(ol s.mx s.ah 3 m).contains n with
  |true=>exact ret ("ArgumentError",false) (if_pos (List.contains_iff_mem.mp ec)).symm
  |false=>
   have nm:n∉ol s.mx s.ah 3 m:=λz=>by rw[List.contains_iff_mem.mpr z] at ec;exact Bool.noConfusion ec
   refine nilS (n:=18) ?_
   refine ⟨_,rd_of g1.md,_,md_get Y.W hn,?_⟩
   refine ⟨_,rd_of (g1.row n hn),.bool (s.fz n),by rfl,?_⟩
   induction ef:s.fz n with
   |true=>exact ret ("FrozenError",false) ((if_neg nm).trans (if_pos ef)).symm
   |false=>
    refine nilS (n:=17) ?_
    have two:=sok.two n
    have hlst:∃a,kget (rowO Y.W s n) (srt ah)=some (.ref a)∧τ₁ a=some (.list ((lst s ah n).map sv)):=by
     induction ah with
     |true=>exact iEA (Y.W.ah n) (by rfl) (g1.ah n hn)
     |false=>exact iEA (Y.W.mx n) (by rfl) (g1.mx n hn)
    refine xEA hlst λa ea ta=>?_
    refine ⟨_,rd_of g1.md,_,md_get Y.W hn,?_⟩
    refine ⟨_,rd_of (g1.row n hn),_,ea,?_⟩
    refine eq1 (amemS (rd_of ta) (λx hx=>spot_sub sok hn (by unfold subs;induction ah with|true=>exact List.mem_append_left _ hx|false=>exact List.mem_append_right _ hx)) hm) ?_
    exact ret ("",!(lst s ah n).contains m) ((if_neg nm).trans (if_neg (by refine rE ef ?_;exact dE rfl))).symm
 ·rintro x rest acc ρ τ' ⟨qs,ps,x',y,h1,h2,rfl,rfl,rfl⟩
  refine ⟨rd_of hl,?_⟩
  cases h1 with
  |@cons t _ b f ps ht hr=>
   refine ⟨_,rd_of ht,rfl,?_⟩
   refine ⟨?_,qs ++ [(b,f)],ps,some (sv b),some (.bool f),hr,by refine rE h2 ?_;simp,by (refine rE List.map_append ?_;refine rE List.map_append ?_);rfl,by rfl,rfl⟩
   rw[List.length_map,List.length_map]
   have:=congrArg List.length h2
   rw[List.length_append] at this
   lia
noncomputable def mL (L:Ly) (Y:Lx) (way rest:Int) (sort due turns heard act mixin spot:Option AV):Loc:=[(S "scene",some (.ref Y.sc)),(S "way",some (.int way)),(S "rest",some (.int rest)),(S "model",some (.ref Y.W.md)),(S "sort",sort),(S "due",due),(S "turns",turns),(S "heard",heard),(S "act",act),
 (S "mixin",mixin),(S "modules",some (.ref Y.mods)),(S "spot",spot),(S "world",some (.ref L.wd)),(S "_law_mixed_due",none),(S "_law_error",none),(S "prepend",none),(S "include",none)]
noncomputable abbrev tb1:Option (Addr×Str):=some (980,"_law_mixing_right.<locals>.<lambda>")
noncomputable abbrev Gs.mix (s:Gs) (ah:Bool) (n m:Nd):Gs:={ s with mx:=if ah then s.mx else upd s.mx n (s.mx n ++ [m]),ah:=if ah then upd s.ah n (s.ah n ++ [m]) else s.ah,g:={ s.g with ver:=s.g.ver + 1 } }
theorem c_mix6f (kit:Kit prog w K B) {d:Nat} {way rest:Int} {n m:Nd} {x:Str} {sort act:Option AV} (h:SI L Y s t σ) (q:∀τ s' t',SI L Y s' t' τ→Q (.bool true) τ) :
 fT prog w B (fst 81) tb1 (d + 38) X 14 6 (mL L Y way rest sort (some (.str x)) (some (.bool false)) (some (.str x)) act (some (sv m)) (some (sv n))) σ Q:=by
 conv=>whnf
 exact eq1 (r:=true) (congrArg some (decide_eq_true rfl)) (q _ _ _ h)
theorem c_mix6t (kit:Kit prog w K B) {d:Nat} {way rest:Int} {n m:Nd} {x:Str} {ah:Bool} {act:Option AV} (hn:spot n) (sok:SOK s) (g:GI L Y.Z (s.mix ah n m) σ) (li:LI Y.W s σ) (sr:SR L Y t σ) (pf:PF s t)
 (np:∀a,okT a→Y.at_ a≠s.g.nat∧Y.at_ a≠s.g.pre) (q:∀τ s' t',SI L Y s' t' τ→Q (.bool true) τ) :
 fT prog w B (fst 81) tb1 (d + 38) X 14 6 (mL L Y way rest (some (.str (srt ah))) (some (.str x)) (some (.bool true)) (some (.str x)) act (some (sv m)) (some (sv n))) σ Q:=by
 have two:=sok.two n
 have pf':PF (s.mix ah n m) { t with turns:=t.turns + 1 }:=pf.turn rfl pf.own
 have fin:∀τ,GI L Y.Z (s.mix ah n m) τ→LI Y.W (s.mix ah n m) τ→SR L Y t τ→(awp 13).S (ΓF prog w B (fscope (fst 81)) (d + 38) X tb1) ((fbody (fst 81)).drop 7) (mL L Y way rest (some (.str (srt ah))) (some (.str x)) (some (.bool true)) (some (.str x)) act (some (sv m)) (some (sv n))) (up τ Y.sc (.sdict (scO L Y (t.turns + 1)))) (endK Q):=by
  intro τ g l r
  exact eq1 (r:=true) (congrArg some (decide_eq_true rfl)) (q _ _ _ (SI.turned g l r pf' np))
 refine ⟨_,rd_of li.md,_,md_get Y.W hn,?_⟩
 induction ah with
 |true=>
  refine ⟨_,rd_of (li.row n hn),.ref (Y.W.ah n),by rfl,?_⟩
  refine ⟨⟨_,rd_of (li.ah n hn)⟩,?_⟩
  refine ⟨_,li.ah n hn,by refine rE (List.length_map _) ?_;exact Nat.le_trans two.2 (dE rfl),?_⟩
  have l1:=li.setAh sr hn (ns:=s.ah n ++ [m]) (xs:=(s.ah n).map sv ++ [sv m]) (by refine rE List.map_append ?_;rfl)
  have g1:=g.upZ (b:=Y.W.ah n) (o':=.list ((s.ah n).map sv ++ [sv m])) ⟨.ah n,hn,rfl⟩ (li.ah n hn) ls_not (np (.ah n) hn)
  have s1:SR L Y t (up σ (Y.W.ah n) (.list ((s.ah n).map sv ++ [sv m]))):=sr.kx up_kx (okr_one sr (a:=.ah n) hn id (li.ah n hn) ls_quiet)
  refine ⟨_,rd_of s1.sc,.int t.turns,by rfl,?_⟩
  refine si1 s1.sc (by exact Nat.le_of_ble_eq_true rfl) (kvs':=scO L Y (t.turns + 1)) (by rfl) ?_
  refine nilS (n:=10) ?_
  exact fin _ g1 ⟨l1.md,l1.row,l1.df,l1.mx,l1.ah⟩ s1
 |false=>
  refine ⟨_,rd_of (li.row n hn),.ref (Y.W.mx n),by rfl,?_⟩
  refine ⟨⟨_,rd_of (li.mx n hn)⟩,?_⟩
  refine ⟨_,li.mx n hn,by refine rE (List.length_map _) ?_;exact Nat.le_trans two.1 (dE rfl),?_⟩
  have l1:=li.setMx sr hn (ns:=s.mx n ++ [m]) (xs:=(s.mx n).map sv ++ [sv m]) (by refine rE List.map_append ?_;rfl)
  have g1:=g.upZ (b:=Y.W.mx n) (o':=.list ((s.mx n).map sv ++ [sv m])) ⟨.mx n,hn,rfl⟩ (li.mx n hn) ls_not (np (.mx n) hn)
  have s1:SR L Y t (up σ (Y.W.mx n) (.list ((s.mx n).map sv ++ [sv m]))):=sr.kx up_kx (okr_one sr (a:=.mx n) hn id (li.mx n hn) ls_quiet)
  refine ⟨_,rd_of s1.sc,.int t.turns,by rfl,?_⟩
  refine si1 s1.sc (by exact Nat.le_of_ble_eq_true rfl) (kvs':=scO L Y (t.turns + 1)) (by rfl) ?_
  refine nilS (n:=10) ?_
  exact fin _ g1 ⟨l1.md,l1.row,l1.df,l1.mx,l1.ah⟩ s1
theorem due_A {ah:Bool} {n m:Nd} (h:n∈ol s.mx s.ah 3 m):dueM s ah n m=(Str.ofString "ArgumentError",false):=if_pos h
theorem due_F {ah:Bool} {n m:Nd} (h:n∉ol s.mx s.ah 3 m) (hf:s.fz n=true):dueM s ah n m=(Str.ofString "FrozenError",false):=(if_neg h).trans (if_pos hf)
theorem due_K {ah:Bool} {n m:Nd} (h:n∉ol s.mx s.ah 3 m) (hf:s.fz n=false) (hk:m∈lst s ah n):dueM s ah n m=(Str.ofString "",false):=by
 refine (if_neg h).trans ((if_neg (by refine rE hf ?_;exact dE rfl)).trans ?_)
 refine rE (List.contains_iff_mem.mpr hk) ?_;rfl
theorem due_Q {ah:Bool} {n m:Nd} (h:n∉ol s.mx s.ah 3 m) (hf:s.fz n=false) (hk:m∉lst s ah n):dueM s ah n m=(Str.ofString "",true):=by
 refine (if_neg h).trans ((if_neg (by refine rE hf ?_;exact dE rfl)).trans ?_)
 induction e:(lst s ah n).contains m with
 |true=>exact absurd (List.contains_iff_mem.mp e) hk
 |false=>rfl
noncomputable abbrev mixK (prog:Program) (w:World) (B:Heap) (L:Ly) (Y:Lx) (s:Gs) (d:Nat) (way rest:Int) (ah:Bool) (n m:Nd) (X Q:Post) (act:Option AV) (x:Str) (τ:AH):Prop:=
 fT prog w B (fst 81) tb1 (d + 38) X 14 6 (mL L Y way rest (some (.str (srt ah))) (some (.str (dueM s ah n m).1)) (some (.bool (dueM s ah n m).2)) (some (.str x)) act (some (sv m)) (some (sv n))) τ Q
theorem mix_0 (kit:Kit prog w K B) {d:Nat} {way rest:Int} {n m:Nd} {ah:Bool} {act:Option AV} {s':Gs} {x:Str} (h:SI L Y s' t σ) (e:dueM s ah n m=(x,false)) (q:∀τ s' t',SI L Y s' t' τ→Q (.bool true) τ):mixK prog w B L Y s d way rest ah n m X Q act x σ:=by
 unfold mixK
 refine rE e ?_
 exact c_mix6f kit h q
theorem mix_1 (kit:Kit prog w K B) {d:Nat} {way rest:Int} {n m:Nd} {ah:Bool} {act:Option AV} (h:SI L Y s t σ) (hn:spot n) (g:GI L Y.Z (s.mix ah n m) τ) (k:Kx (GA L s) σ τ) (e:dueM s ah n m=(Str.ofString "",true)) (q:∀τ s' t',SI L Y s' t' τ→Q (.bool true) τ) :
 mixK prog w B L Y s d way rest ah n m X Q act "" τ:=by
 unfold mixK
 refine rE e ?_
 exact c_mix6t kit hn h.gi.sok g (h.li.kx rfl k (h.gi.okr _)) (h.sr.kx k (h.gi.okr _)) h.pf h.np q
theorem c_mix6 (kit:Kit prog w K B) {d:Nat} {rest:Int} {m:Nd} (h:SI L Y s t σ) (hm:m=.M∨m=.N) (hms:spot m) (q:∀τ s' t',SI L Y s' t' τ→Q (.bool true) τ) :
 fT prog w B (fst 81) tb1 (d + 38) X 15 5 (mL L Y 6 rest (some (.str (srt false))) (some (.str (dueM s false .T m).1)) (some (.bool (dueM s false .T m).2)) none none (some (sv m)) (some (sv .T))) σ Q:=by
 refine eq1 (r:=true) (by rfl) ?_
 refine ⟨Nat.le_trans (dE rfl:3≤38) (Nat.le_add_left _ _),980,_,rfl,h.sr.tab.1,?_⟩
 refine ⟨_,rd_of h.sr.sc,.ref L.th,by rfl,?_⟩
 refine ⟨_,rd_of h.sr.mods,_,mds_get L hms,?_⟩
 refine CallOK.more (d:=d + 35) ?_ (by show d + 35≤d + 38 - 3;lia)
 refine c_extend kit h.gi hm (λhc v τ kept l made g k e=>e _ ?_) (λhc hf v τ kept l made g k e=>e _ ?_) (λhc hf hk τ k=>?_) λhc hf hk τ k g=>?_
 ·exact nilS (n:=12) (mix_0 kit (h.alt g k) (due_A hc) q)
 ·exact nilS (n:=12) (mix_0 kit (h.alt g k) (due_F hc hf) q)
 ·exact nilS (n:=12) (mix_0 kit (h.keep k) (due_K hc hf hk) q)
 ·exact nilS (n:=12) (mix_1 kit h ⟨dE rfl,dE rfl,dE rfl⟩ g k (due_Q hc hf hk) q)
theorem c_mix45 (kit:Kit prog w K B) {d:Nat} {way rest:Int} {n m:Nd} {ah:Bool} (hw:decide (way=6)=false∧decide (way=5)=ah) (h:SI L Y s t σ) (hn:spot n) (hm:m=.M∨m=.N) (hms:spot m) (q:∀τ s' t',SI L Y s' t' τ→Q (.bool true) τ) :
 fT prog w B (fst 81) tb1 (d + 38) X 15 5 (mL L Y way rest (some (.str (srt ah))) (some (.str (dueM s ah n m).1)) (some (.bool (dueM s ah n m).2)) none none (some (sv m)) (some (sv n))) σ Q:=by
 refine eq1 (r:=false) (congrArg some hw.1) ?_
 refine eq1 (r:=ah) (congrArg some hw.2) ?_
 induction ah with
 |true=>
  refine ⟨Nat.le_trans (dE rfl:3≤38) (Nat.le_add_left _ _),980,_,rfl,h.sr.tab.1,?_⟩
  refine ⟨_,rd_of h.sr.mods,_,mds_get L hn,?_⟩
  refine ⟨_,rd_of h.sr.mods,_,mds_get L hms,?_⟩
  refine CallOK.more (d:=d + 34) ?_ (by show d + 34≤d + 38 - 3;lia)
  refine c_prepend kit h.gi hn hm (λhc v τ kept l made g k e=>e _ ?_) (λhc hf v τ kept l made g k e=>e _ ?_) (λhc hf hk τ k=>?_) λhc hf hk τ k g=>?_
  ·exact nilS (n:=11) (mix_0 kit (h.alt g k) (due_A hc) q)
  ·exact nilS (n:=11) (mix_0 kit (h.alt g k) (due_F hc hf) q)
  ·exact nilS (n:=11) (mix_0 kit (h.keep k) (due_K hc hf hk) q)
  ·exact nilS (n:=11) (mix_1 kit h hn g k (due_Q hc hf hk) q)
 |false=>
  refine ⟨Nat.le_trans (dE rfl:3≤38) (Nat.le_add_left _ _),980,_,rfl,h.sr.tab.1,?_⟩
  refine ⟨_,rd_of h.sr.mods,_,mds_get L hn,?_⟩
  refine ⟨_,rd_of h.sr.mods,_,mds_get L hms,?_⟩
  refine CallOK.more (d:=d + 34) ?_ (by show d + 34≤d + 38 - 3;lia)
  refine c_include kit h.gi hn hm (λhc v τ kept l made g k e=>e _ ?_) (λhc hf v τ kept l made g k e=>e _ ?_) (λhc hf hk τ k=>?_) λhc hf hk τ k g=>?_
  ·exact nilS (n:=11) (mix_0 kit (h.alt g k) (due_A hc) q)
  ·exact nilS (n:=11) (mix_0 kit (h.alt g k) (due_F hc hf) q)
  ·exact nilS (n:=11) (mix_0 kit (h.keep k) (due_K hc hf hk) q)
  ·exact nilS (n:=11) (mix_1 kit h hn g k (due_Q hc hf hk) q)
theorem pickM {r:Int}:∃n,spot n∧[sv .A,sv .B,sv .M,sv .N][(r % 4).toNat]?=some (sv n):=by
 refine xEA (pick4 (a:=sv .A) (b:=sv .B) (c:=sv .M) (e:=sv .N) (r:=r)) λx h e=>?_
 rcases h with rfl|rfl|rfl|rfl
 ·exact iEA .A ⟨dE rfl,dE rfl,dE rfl⟩ e
 ·exact iEA .B ⟨dE rfl,dE rfl,dE rfl⟩ e
 ·exact iEA .M ⟨dE rfl,dE rfl,dE rfl⟩ e
 ·exact iEA .N ⟨dE rfl,dE rfl,dE rfl⟩ e
theorem pickMN {r:Int}:∃m,(m=.M∨m=.N)∧spot m∧[sv .M,sv .N][(r % 2).toNat]?=some (sv m):=by
 refine xEA (pick2 (a:=sv .M) (b:=sv .N) (r:=r)) λx h e=>?_
 rcases h with rfl|rfl
 ·exact iEAA .M (.inl rfl) ⟨dE rfl,dE rfl,dE rfl⟩ e
 ·exact iEAA .N (.inr rfl) ⟨dE rfl,dE rfl,dE rfl⟩ e
theorem c_mix4 (kit:Kit prog w K B) {d:Nat} {way rest:Int} {n m:Nd} {ah:Bool} (hw:(way=6∧n=.T∧ah=false)∨(decide (way=6)=false∧decide (way=5)=ah)) (h:SI L Y s t σ) (hn:spot n) (hm:m=.M∨m=.N) (hms:spot m) (q:∀τ s' t',SI L Y s' t' τ→Q (.bool true) τ) :
 fT prog w B (fst 81) tb1 (d + 38) X 16 4 (mL L Y way rest (some (.str (srt ah))) none none none none (some (sv m)) (some (sv n))) σ Q:=by
 refine CallOK.more (d:=d + 38) ?_ (Nat.le_refl _)
 refine c_due kit (d:=d + 34) h.gi.sok h.li hn hms λa τ k ha=>?_
 refine ⟨_,rd_of ha,rfl,?_⟩
 have h1:=h.keep k
 rcases hw with ⟨rfl,rfl,rfl⟩|hw
 ·exact c_mix6 kit h1 hm hms q
 ·exact c_mix45 kit hw h1 hn hm hms q
theorem c_mix3 (kit:Kit prog w K B) {d:Nat} {way rest:Int} {n m:Nd} {ah:Bool} (hw:way=4∨way=5∨way=6) (ea:decide (way=5)=ah) (h:SI L Y s t σ) (hn:spot n) (hm:m=.M∨m=.N) (hms:spot m) (q:∀τ s' t',SI L Y s' t' τ→Q (.bool true) τ) :
 fT prog w B (fst 81) tb1 (d + 38) X 17 3 (mL L Y way rest (some (.str (srt ah))) none none none none (some (sv m)) (some (sv n))) σ Q:=by
 by_cases e6:way=6
 ·have z:=c_mix4 (prog:=prog) (w:=w) (B:=B) (X:=X) kit (d:=d) (way:=way) (rest:=rest) (n:=.T) (m:=m) (ah:=ah) (.inl ⟨e6,rfl,by (refine rL ea ?_;refine rE e6 ?_);decide⟩) h ⟨dE rfl,dE rfl,dE rfl⟩ hm hms q
  refine eq1 (r:=true) (congrArg some (decide_eq_true e6)) ?_
  exact tt1 (if1 (csE z))
 ·have z:=c_mix4 (prog:=prog) (w:=w) (B:=B) (X:=X) kit (d:=d) (way:=way) (rest:=rest) (n:=n) (m:=m) (ah:=ah) (.inr ⟨decide_eq_false e6,ea⟩) h hn hm hms q
  refine eq1 (r:=false) (congrArg some (decide_eq_false e6)) ?_
  exact tt1 (if0 (nmE (by rfl) (.inl (by rfl)) (by rfl) z))
theorem c_mix2 (kit:Kit prog w K B) {d:Nat} {way rest:Int} {n m:Nd} (hw:way=4∨way=5∨way=6) (h:SI L Y s t σ) (hn:spot n) (hm:m=.M∨m=.N) (hms:spot m) (q:∀τ s' t',SI L Y s' t' τ→Q (.bool true) τ) :
 fT prog w B (fst 81) tb1 (d + 38) X 18 2 (mL L Y way rest none none none none none (some (sv m)) (some (sv n))) σ Q:=by
 by_cases e5:way=5
 ·have z:=c_mix3 (prog:=prog) (w:=w) (B:=B) (X:=X) kit (d:=d) (rest:=rest) hw (decide_eq_true e5) h hn hm hms q
  refine eq1 (r:=true) (congrArg some (decide_eq_true e5)) ?_
  exact tt1 (if1 (csE z))
 ·have z:=c_mix3 (prog:=prog) (w:=w) (B:=B) (X:=X) kit (d:=d) (rest:=rest) hw (decide_eq_false e5) h hn hm hms q
  refine eq1 (r:=false) (congrArg some (decide_eq_false e5)) ?_
  exact tt1 (if0 (csE z))
theorem c_mixing (kit:Kit prog w K B) {d:Nat} {way rest:Int} (hw:way=4∨way=5∨way=6) (h:SI L Y s t σ) (hr:0≤rest∧rest < 10000000000) (q:∀τ s' t',SI L Y s' t' τ→Q (.bool true) τ):CallOK prog w B (d + 39) 985 [.ref Y.sc,.int way,.int rest] σ Q X:=by
 refine callFn (n:=20) (d:=d + 38) kit.gd kit.snd (kit.fns 61) ?_
 refine ⟨_,rd_of h.sr.sc,.ref L.wd,by rfl,?_⟩
 refine ⟨_,rd_of h.sr.sc,.ref Y.mods,by rfl,?_⟩
 refine ⟨_,rd_of h.sr.sc,.ref Y.W.md,by rfl,?_⟩
 intro l τ₁ hl e
 have k1:Kx NoS σ τ₁:=e▸(Kx.refl _ _).up (.inr hl.no)
 have t1:τ₁ l=some (.list [sv .A,sv .B,sv .M,sv .N]):=by refine rE e ?_;exact up_self ..
 clear e
 refine ⟨dE rfl,?_⟩
 refine xEA (pickM (r:=rest)) λn hn en=>?_
 refine .inl ⟨_,.inl (rd_of t1),by lia,by lia,_,en,?_⟩
 intro l' τ₂ hl' e
 have k2:Kx NoS τ₁ τ₂:=e▸(Kx.refl _ _).up (.inr hl'.no)
 have t2:τ₂ l'=some (.list [sv .M,sv .N]):=by refine rE e ?_;exact up_self ..
 clear e
 refine ⟨⟨by lia,by lia⟩,dE rfl,dE rfl,?_⟩
 refine ⟨dE rfl,?_⟩
 refine xEAA (pickMN (r:=rest / 4)) λm hm hms em=>?_
 refine .inl ⟨_,.inl (rd_of t2),by lia,by lia,_,em,?_⟩
 have z:=c_mix2 (prog:=prog) (w:=w) (B:=B) (X:=X) kit (d:=d) (way:=way) (rest:=rest) (n:=n) (m:=m) hw ((h.keep k1).keep k2) hn hm hms q
 exact z
noncomputable def eL (L:Ly) (Y:Lx) (way rest mark:Int) (n:Nd) (y x sg:Str) (found due heard fresh need key value:Option AV):Loc:=[(S "scene",some (.ref Y.sc)),(S "way",some (.int way)),(S "rest",some (.int rest)),(S "mark",some (.int mark)),(S "modules",some (.ref Y.mods)),(S "model",some (.ref Y.W.md)),
 (S "spot",some (sv n)),(S "row",some (.ref (Y.W.row n))),(S "found",found),(S "due",due),(S "heard",heard),(S "fresh",fresh),(S "is_needed",need),(S "key",key),(S "value",value),(S "module",some (L.ref n)),(S "name",some (.str y)),(S "new",some (.str x)),(S "sight",some (.str sg)),(S "world",some (.ref L.wd)),
 (S "_law_seek",none),(S "_law_line",none),(S "_law_error",none)]
noncomputable abbrev tb2:Option (Addr×Str):=some (987,"_law_entry_right.<locals>.<lambda>")
theorem c_ent6f (kit:Kit prog w K B) {d:Nat} {way rest mark:Int} {n:Nd} {y x sg e:Str} {found fresh need key value:Option AV} (he:decide (e = "")=false) (h:SI L Y s t σ) (q:∀τ s' t',SI L Y s' t' τ→Q (.bool true) τ) :
 fT prog w B (fst 82) tb2 (d + 38) X 14 6 (eL L Y way rest mark n y x sg found (some (.str e)) (some (.str e)) fresh need key value) σ Q:=by
 refine eq1 (r:=false) (congrArg some he) ?_
 refine tt1 (is0 (nilS (n:=12) ?_))
 exact eq1 (r:=true) (congrArg some (decide_eq_true rfl)) (q _ _ _ h)
theorem c_ent6n (kit:Kit prog w K B) {d:Nat} {way rest mark:Int} {n:Nd} {y x sg:Str} {found fresh need key value:Option AV} (g:GI L Y.Z s σ) (li:LI Y.W s σ) (sr:SR L Y t σ) (pf:PF s { t with turns:=t.turns + 1 })
 (np:∀a,okT a→Y.at_ a≠s.g.nat∧Y.at_ a≠s.g.pre) (q:∀τ s' t',SI L Y s' t' τ→Q (.bool true) τ) :
 (awp 13).S (ΓF prog w B (fscope (fst 82)) (d + 38) X tb2) ((fbody (fst 82)).drop 7) (eL L Y way rest mark n y x sg found (some (.str "")) (some (.str "")) fresh need key value) (up σ Y.sc (.sdict (scO L Y (t.turns + 1)))) (endK Q):=
 eq1 (r:=true) (congrArg some (decide_eq_true rfl)) (q _ _ _ (SI.turned g li sr pf np))
theorem c_ent6p (kit:Kit prog w K B) {d:Nat} {way rest mark:Int} {n:Nd} {y x sg k:Str} {found need:Option AV} {fr p:Addr} {v:AV} {o:Option En} {s':Gs} (hw:decide (way=8)=false) (hn:spot n) (hk:k∈fg) (hfr:σ fr=some (.list [.ref p])) (hp:σ p=some (.tup [.str k,v])) (hv:lwR σ o v)
 (hs:s'.df=dfU s n k (some o)∧s'.mx=s.mx∧s'.ah=s.ah∧s'.fz=s.fz) (g:GI L Y.Z s' σ) (li:LI Y.W s σ) (sr:SR L Y t σ) (pf:PF s' { t with turns:=t.turns + 1 })
 (np:∀a,okT a→Y.at_ a≠s'.g.nat∧Y.at_ a≠s'.g.pre) (q:∀τ s' t',SI L Y s' t' τ→Q (.bool true) τ) :
 fT prog w B (fst 82) tb2 (d + 38) X 14 6 (eL L Y way rest mark n y x sg found (some (.str "")) (some (.str "")) (some (.ref fr)) need none none) σ Q:=by
 obtain ⟨kvs,hd,dr⟩:=li.df n hn
 have l1:=li.setDf sr hn (dr.put hk hv)
 have g1:=g.upZ (b:=Y.W.df n) (o':=.sdict (kput kvs k v)) ⟨.df n,hn,rfl⟩ hd sc_not (np (.df n) hn)
 have s1:SR L Y t (up σ (Y.W.df n) (.sdict (kput kvs k v))):=sr.kx up_kx (okr_one sr (a:=.df n) hn id hd sc_quiet)
 have hfr1:up σ (Y.W.df n) (.sdict (kput kvs k v)) fr=some (.list [.ref p]):=(up_ne λz=>by rw[z,hd] at hfr;exact nC AO.ctorIdx (sJ hfr) rfl).trans hfr
 have l2:LI Y.W s' (up σ (Y.W.df n) (.sdict (kput kvs k v))):=by
  refine xAAA hs λe1 e2 e3 e4=>?_
  refine ⟨l1.md,λm hm=>?_,λm hm=>?_,λm hm=>?_,λm hm=>?_⟩
  ·unfold rowO;refine rE e4 ?_;exact l1.row m hm
  ·refine rE e1 ?_;exact l1.df m hm
  ·refine rE e2 ?_;exact l1.mx m hm
  ·refine rE e3 ?_;exact l1.ah m hm
 refine eq1 (r:=true) (by rfl) ?_
 refine .inl ⟨_,rd_of hfr,(dE rfl:1≤100000),?_⟩
 refine ⟨λrest' ρ τ=>(rest'=[.ref p]∧τ=σ∧ρ=eL L Y way rest mark n y x sg found (some (.str "")) (some (.str "")) (some (.ref fr)) need none none)∨(rest'=[]∧τ=up σ (Y.W.df n) (.sdict (kput kvs k v))∧∃a b,ρ=eL L Y way rest mark n y x sg found (some (.str "")) (some (.str "")) (some (.ref fr)) need a b),.inl ⟨rfl,rfl,rfl⟩,?_,?_⟩
 ·rintro ρ τ (⟨h,_⟩|⟨_,rfl,a,b,rfl⟩)
  ·exact nC List.ctorIdx h rfl
  ·refine ⟨rd_of hfr1,?_⟩
   refine eq1 (r:=false) (congrArg some hw) ?_
   refine tt1 (is0 (nilS (n:=10) ?_))
   refine ⟨_,rd_of s1.sc,.int t.turns,by rfl,?_⟩
   refine si1 s1.sc (by exact Nat.le_of_ble_eq_true rfl) (kvs':=scO L Y (t.turns + 1)) (by rfl) ?_
   refine nilS (n:=9) ?_
   exact c_ent6n kit g1 l2 s1 pf np q
 ·rintro z rest' ρ τ (⟨h,rfl,rfl⟩|⟨h,_⟩)
  ·obtain ⟨h1,h2⟩:=List.cons.inj h
   subst h1 h2
   refine ⟨rd_of hfr,?_⟩
   refine ⟨_,rd_of hp,rfl,?_⟩
   refine ⟨_,rd_of (li.row n hn),.ref (Y.W.df n),by rfl,?_⟩
   refine si1 hd dr.len rfl ?_
   exact .inr ⟨rfl,rfl,some (.str k),some v,by rfl⟩
  ·exact nC List.ctorIdx h rfl
theorem c_ent6d (kit:Kit prog w K B) {d:Nat} {way rest mark:Int} {n:Nd} {y x sg:Str} {found need:Option AV} {fr:Addr} {o:Option En} {s':Gs} (hw:decide (way=8)=true) (hn:spot n) (hfr:σ fr=some (.list [])) (hy:s.df n y=some o)
 (hs:s'.df=dfU s n y none∧s'.mx=s.mx∧s'.ah=s.ah∧s'.fz=s.fz) (g:GI L Y.Z s' σ) (li:LI Y.W s σ) (sr:SR L Y t σ) (pf:PF s' { t with turns:=t.turns + 1 })
 (np:∀a,okT a→Y.at_ a≠s'.g.nat∧Y.at_ a≠s'.g.pre) (q:∀τ s' t',SI L Y s' t' τ→Q (.bool true) τ) :
 fT prog w B (fst 82) tb2 (d + 38) X 14 6 (eL L Y way rest mark n y x sg found (some (.str "")) (some (.str "")) (some (.ref fr)) need none none) σ Q:=by
 obtain ⟨kvs,hd,dr⟩:=li.df n hn
 obtain ⟨v,hv⟩:∃v,kget kvs y=some v:=by
  rcases dr.at_ y with ⟨q,_⟩|⟨_,v,_,q,_⟩
  ·rw[hy] at q;exact nS q
  ·exact ⟨v,q⟩
 have l1:=li.setDf sr hn (dr.del (n:=y))
 have g1:=g.upZ (b:=Y.W.df n) (o':=.sdict (kdel kvs y)) ⟨.df n,hn,rfl⟩ hd sc_not (np (.df n) hn)
 have s1:SR L Y t (up σ (Y.W.df n) (.sdict (kdel kvs y))):=sr.kx up_kx (okr_one sr (a:=.df n) hn id hd sc_quiet)
 have l2:LI Y.W s' (up σ (Y.W.df n) (.sdict (kdel kvs y))):=by
  refine xAAA hs λe1 e2 e3 e4=>?_
  refine ⟨l1.md,λm hm=>?_,λm hm=>?_,λm hm=>?_,λm hm=>?_⟩
  ·unfold rowO;refine rE e4 ?_;exact l1.row m hm
  ·refine rE e1 ?_;exact l1.df m hm
  ·refine rE e2 ?_;exact l1.mx m hm
  ·refine rE e3 ?_;exact l1.ah m hm
 refine eq1 (r:=true) (by rfl) ?_
 refine .inl ⟨_,rd_of hfr,(dE rfl:0≤100000),?_⟩
 refine ⟨λrest' ρ τ=>rest'=[]∧τ=σ∧ρ=eL L Y way rest mark n y x sg found (some (.str "")) (some (.str "")) (some (.ref fr)) need none none,⟨rfl,rfl,rfl⟩,?_,?_⟩
 ·(rintro ρ τ zz;refine xAA zz λ_=>?_;rintro rfl rfl)
  refine ⟨rd_of hfr,?_⟩
  refine eq1 (r:=true) (congrArg some hw) ?_
  refine ⟨_,rd_of (li.row n hn),.ref (Y.W.df n),by rfl,?_⟩
  refine ⟨⟨_,rd_of hd⟩,?_⟩
  refine ⟨kvs,v,hd,hv,dr.len,?_⟩
  refine nilS (n:=9) ?_
  refine ⟨_,rd_of s1.sc,.int t.turns,by rfl,?_⟩
  refine si1 s1.sc (by exact Nat.le_of_ble_eq_true rfl) (kvs':=scO L Y (t.turns + 1)) (by rfl) ?_
  refine nilS (n:=9) ?_
  exact c_ent6n kit g1 l2 s1 pf np q
 ·rintro z rest' ρ τ ⟨h,_⟩
  exact nC List.ctorIdx h rfl
theorem c_ent5 (kit:Kit prog w K B) {d:Nat} {way rest mark:Int} {n:Nd} {y x sg e dv:Str} {found heard fresh need key value:Option AV} (hn:spot n) (li:LI Y.W s σ) (he:(dv = "NameError"∧e=dv)∨(dv = ""∧s.fz n=true∧e = "FrozenError")∨(dv = ""∧s.fz n=false∧e=dv))
 (z:fT prog w B (fst 82) tb2 (d + 38) X 14 6 (eL L Y way rest mark n y x sg found (some (.str e)) heard fresh need key value) σ Q) :
 fT prog w B (fst 82) tb2 (d + 38) X 15 5 (eL L Y way rest mark n y x sg found (some (.str dv)) heard fresh need key value) σ Q:=by
 rcases he with ⟨rfl,rfl⟩|⟨rfl,hf,rfl⟩|⟨rfl,hf,rfl⟩
 ·refine eq1 (r:=false) (by rfl) ?_
  exact tt1 (if0 (nmE (by rfl) (.inr (by rfl)) (by rfl) z))
 ·refine eq1 (r:=true) (by rfl) ?_
  refine ⟨_,rd_of (li.row n hn),.bool true,by show _=some (AV.bool true);refine rL hf ?_;rfl,?_⟩
  conv=>whnf
  exact z
 ·refine eq1 (r:=true) (by rfl) ?_
  refine ⟨_,rd_of (li.row n hn),.bool false,by show _=some (AV.bool false);refine rL hf ?_;rfl,?_⟩
  exact tt2 (if0 (nmE (by rfl) (.inr (by rfl)) (by rfl) z))
theorem new1 {a:Addr} {o:AO} (h:Fresh σ a) (e:τ=up σ a o):Kx NoS σ τ∧τ a=some o:=⟨e▸(Kx.refl _ _).up (.inr h.no),by refine rE e ?_;exact up_self ..⟩
structure Did (L:Ly) (Y:Lx) (s s':Gs) (t:Ts) (σ:AH):Prop where
 gi:GI L Y.Z s' σ
 li:LI Y.W s σ
 sr:SR L Y t σ
 pf:PF s' { t with turns:=t.turns + 1 }
 np:∀a,okT a→Y.at_ a≠s'.g.nat∧Y.at_ a≠s'.g.pre
theorem Did.keep {s':Gs} (h:Did L Y s s' t σ) (k:Kx NoS σ τ):Did L Y s s' t τ:=⟨h.gi.keep k,h.li.keep k,h.sr.kx k okr_no,h.pf,h.np⟩
noncomputable abbrev Gs.put (s:Gs) (n:Nd) (k:Str) (o:Option (Option En)) (kept:Nd→AV):Gs:={ s with df:=dfU s n k o,kept:=kept,g:={ s.g with ver:=s.g.ver + 1 } }
theorem SI.did (h:SI L Y s t σ) {n:Nd} {k:Str} {o:Option (Option En)} {kept:Nd→AV} (g:GI L Y.Z (s.put n k o kept) τ) (kx:Kx (GA L s) σ τ) (ho:∀E,o=some (some E)→spot E.owner):Did L Y s (s.put n k o kept) t τ:=by
 refine ⟨g,h.li.kx rfl kx (h.gi.okr _),h.sr.kx kx (h.gi.okr _),h.pf.turn rfl λm x E e=>?_,h.np⟩
 have e:upd s.df n (λj=>if j=k then o else s.df n j) m x=some (some E):=e
 by_cases z:m=n
 ·subst z
  rw[upd_self] at e
  by_cases z2:x=k
  ·rw[if_pos z2] at e;exact ho E e
  ·rw[if_neg z2] at e;exact h.pf.own _ _ E e
 ·rw[upd_ne z] at e;exact h.pf.own _ _ E e
theorem c_entP (kit:Kit prog w K B) {d:Nat} {way rest mark:Int} {n:Nd} {y x sg k:Str} {found need:Option AV} {fr p:Addr} {v:AV} {o:Option En} {kept:Nd→AV} (hw:decide (way=8)=false) (hn:spot n) (hk:k∈fg) (hf:s.fz n=false) (hfr:σ fr=some (.list [.ref p])) (hp:σ p=some (.tup [.str k,v])) (hv:lwR σ o v)
 (h:Did L Y s (s.put n k (some o) kept) t σ) (q:∀τ s' t',SI L Y s' t' τ→Q (.bool true) τ) :
 fT prog w B (fst 82) tb2 (d + 38) X 15 5 (eL L Y way rest mark n y x sg found (some (.str "")) (some (.str "")) (some (.ref fr)) need none none) σ Q:=
 c_ent5 (s:=s) kit hn h.li (.inr (.inr ⟨rfl,hf,rfl⟩)) (c_ent6p (s:=s) (s':=s.put n k (some o) kept) kit hw hn hk hfr hp hv ⟨rfl,rfl,rfl,rfl⟩ h.gi h.li h.sr h.pf h.np q)
theorem c_entF (kit:Kit prog w K B) {d:Nat} {way rest mark:Int} {n:Nd} {y x sg:Str} {found fresh need key value:Option AV} (hn:spot n) (hf:s.fz n=true) (h:SI L Y s t σ) (q:∀τ s' t',SI L Y s' t' τ→Q (.bool true) τ) :
 fT prog w B (fst 82) tb2 (d + 38) X 15 5 (eL L Y way rest mark n y x sg found (some (.str "")) (some (.str "FrozenError")) fresh need key value) σ Q:=
 c_ent5 kit hn h.li (.inr (.inl ⟨rfl,hf,rfl⟩)) (c_ent6f kit (dE rfl) h q)
theorem c_entN (kit:Kit prog w K B) {d:Nat} {way rest mark:Int} {n:Nd} {y x sg:Str} {found fresh need key value:Option AV} (hn:spot n) (h:SI L Y s t σ) (q:∀τ s' t',SI L Y s' t' τ→Q (.bool true) τ) :
 fT prog w B (fst 82) tb2 (d + 38) X 15 5 (eL L Y way rest mark n y x sg found (some (.str "NameError")) (some (.str "NameError")) fresh need key value) σ Q:=
 c_ent5 kit hn h.li (.inl ⟨rfl,rfl⟩) (c_ent6f kit (dE rfl) h q)
theorem c_way3 (kit:Kit prog w K B) {d:Nat} {rest mark:Int} {n:Nd} {y x sg:Str} {found:Option AV} (hn:spot n) (hy:y∈fg) (h:SI L Y s t σ) (q:∀τ s' t',SI L Y s' t' τ→Q (.bool true) τ) :
 fT prog w B (fst 82) tb2 (d + 38) X 16 4 (eL L Y 3 rest mark n y x sg found (some (.str "")) none none none none none) σ Q:=by
 refine eq1 (r:=true) (by rfl) ?_
 refine ⟨Nat.le_trans (dE rfl:3≤38) (Nat.le_add_left _ _),987,_,rfl,h.sr.tab.2,?_⟩
 refine CallOK.more (d:=d + 35) ?_ (by show d + 35≤d + 38 - 3;lia)
 refine c_newEntry kit (d:=d + 33) λe de u τ ne k he=>?_
 have h1:=h.keep k
 refine CallOK.more (d:=d + 34) ?_ (by show d + 34≤d + 38 - 3;lia)
 refine c_define kit (E:=⟨mark,y,n,sg⟩) h1.gi hn hy he (λhf τ₁ k1 g1=>?_) λhf v τ₁ g' kvs' bp e=>e _ ?_
 ·have did:=h1.did (o:=some (some ⟨mark,y,n,sg⟩)) (kept:=s.kept) g1 k1 λE e=>by cases e;exact hn
  intro a τ₂ ha e2
  obtain ⟨k2,ta⟩:=new1 ha e2
  intro p τ₃ hp e3
  obtain ⟨k3,tp⟩:=new1 hp e3
  intro fr τ₄ hfr e4
  obtain ⟨k4,tf⟩:=new1 hfr e4
  clear e2 e3 e4
  have ta':=k4 _ _ (k3 _ _ ta not_false) not_false
  have tp':=k4 _ _ tp not_false
  have z:=c_entP (prog:=prog) (w:=w) (B:=B) (X:=X) kit (d:=d) (way:=3) (rest:=rest) (mark:=mark) (y:=y) (x:=x) (sg:=sg) (found:=found) (need:=none) (dE rfl) hn hy hf tf tp' (o:=some ⟨mark,y,n,sg⟩) ⟨a,rfl,ta'⟩ ((did.keep k2).keep (k3.trans k4)) q
  exact nilS (n:=12) z
 ·have h2:SI L Y (s.alt s.kept g'.last kvs') t τ₁:=by
   obtain ⟨l,rfl,_⟩:=bp.gs
   exact h1.alt (kept:=s.kept) (h1.gi.bp bp) (bp.kx.mono λb z=>z.elim .inl λz=>.inr (.inl z))
  intro a τ₂ ha e2
  obtain ⟨k2,ta⟩:=new1 ha e2
  intro p τ₃ hp e3
  obtain ⟨k3,tp⟩:=new1 hp e3
  intro fr τ₄ hfr e4
  obtain ⟨k4,tf⟩:=new1 hfr e4
  clear e2 e3 e4
  have z:=c_entF (prog:=prog) (w:=w) (B:=B) (X:=X) kit (d:=d) (way:=3) (rest:=rest) (mark:=mark) (y:=y) (x:=x) (sg:=sg) (found:=found) (fresh:=some (.ref fr)) (need:=none) (key:=none) (value:=none) hn (s:=s.alt s.kept g'.last kvs') hf ((h2.keep k2).keep (k3.trans k4)) q
  exact nilS (n:=12) z
theorem c_way7 (kit:Kit prog w K B) {d:Nat} {rest mark:Int} {n:Nd} {y x sg:Str} {fv:AV} (hn:spot n) (hy:y∈fg) (hv:lwR σ (seek s.df y (lineL s n)) fv) (h:SI L Y s t σ) (q:∀τ s' t',SI L Y s' t' τ→Q (.bool true) τ) :
 fT prog w B (fst 82) tb2 (d + 38) X 16 4 (eL L Y 7 rest mark n y x sg (some fv) (some (.str "")) none none none none none) σ Q:=by
 rw[←seek_law h.gi.sok hn] at hv
 refine eq1 (r:=false) (by rfl) ?_
 refine eq1 (r:=true) (by rfl) ?_
 refine ⟨Nat.le_trans (dE rfl:3≤38) (Nat.le_add_left _ _),987,_,rfl,h.sr.tab.2,?_⟩
 refine CallOK.more (d:=d + 35) ?_ (by show d + 35≤d + 38 - 3;lia)
 refine c_undef kit h.gi hn hy (λhs v τ₁ kept l made g k e=>e _ ?_) (λE hs hf v τ₁ kept l made g k e=>e _ ?_) λE hs hf τ₁ kept g k=>?_
 ·rw[hs] at hv
  have hv:fv=.none:=hv
  subst hv
  have h1:=h.alt g k
  intro p τ₃ hp e3
  obtain ⟨k3,tp⟩:=new1 hp e3
  intro fr τ₄ hfr e4
  obtain ⟨k4,tf⟩:=new1 hfr e4
  clear e3 e4
  have z:=c_entN (prog:=prog) (w:=w) (B:=B) (X:=X) kit (d:=d) (way:=7) (rest:=rest) (mark:=mark) (y:=y) (x:=x) (sg:=sg) (found:=some .none) (fresh:=some (.ref fr)) (need:=none) (key:=none) (value:=none) hn (h1.keep (k3.trans k4)) q
  exact nilS (n:=11) (nilS (n:=13) z)
 ·rw[hs] at hv
  obtain ⟨fa,rfl,_⟩:=hv
  have h1:=h.alt g k
  intro p τ₃ hp e3
  obtain ⟨k3,tp⟩:=new1 hp e3
  intro fr τ₄ hfr e4
  obtain ⟨k4,tf⟩:=new1 hfr e4
  clear e3 e4
  have z:=c_entF (prog:=prog) (w:=w) (B:=B) (X:=X) kit (d:=d) (way:=7) (rest:=rest) (mark:=mark) (y:=y) (x:=x) (sg:=sg) (found:=some (.ref fa)) (fresh:=some (.ref fr)) (need:=none) (key:=none) (value:=none) hn (s:=s.alt kept l made) hf (h1.keep (k3.trans k4)) q
  exact nilS (n:=11) (nilS (n:=13) z)
 ·rw[hs] at hv
  obtain ⟨fa,rfl,_⟩:=hv
  have did:=h.did (o:=some none) (kept:=kept) g k λE e=>by exact nn (sJ e)
  intro p τ₃ hp e3
  obtain ⟨k3,tp⟩:=new1 hp e3
  intro fr τ₄ hfr e4
  obtain ⟨k4,tf⟩:=new1 hfr e4
  clear e3 e4
  have z:=c_entP (prog:=prog) (w:=w) (B:=B) (X:=X) kit (d:=d) (way:=7) (rest:=rest) (mark:=mark) (y:=y) (x:=x) (sg:=sg) (found:=some (.ref fa)) (need:=none) (dE rfl) hn hy hf tf (k4 _ _ tp not_false) (o:=none) rfl (did.keep (k3.trans k4)) q
  exact nilS (n:=11) (nilS (n:=13) z)
theorem lw_get {n:Nd} {y:Str} {kvs:List (Str×AV)} (dr:DictR (lwR σ) kvs (s.df n)):((∀E,s.df n y≠some (some E))∧(kget kvs y).getD .none=.none)∨∃E a,s.df n y=some (some E)∧(kget kvs y).getD .none=.ref a:=by
 rcases dr.at_ y with ⟨e1,e2⟩|⟨o,v,e1,e2,e3⟩
 ·exact .inl ⟨(λE z=>by rw[e1] at z;exact nn z),by refine rE e2 ?_;rfl⟩
 ·induction o with
  |none=>
   have e3:v=.none:=e3
   exact .inl ⟨(λE z=>by rw[e1] at z;exact nn (sJ z)),by (refine rE e2 ?_;refine rE e3 ?_);rfl⟩
  |some E=>
   obtain ⟨a,rfl,_⟩:=e3
   exact .inr ⟨E,a,e1,by refine rE e2 ?_;rfl⟩
theorem c_way8 (kit:Kit prog w K B) {d:Nat} {rest mark:Int} {n:Nd} {y x sg:Str} {fv:AV} (hn:spot n) (hy:y∈fg) (h:SI L Y s t σ) (q:∀τ s' t',SI L Y s' t' τ→Q (.bool true) τ) :
 fT prog w B (fst 82) tb2 (d + 38) X 16 4 (eL L Y 8 rest mark n y x sg (some fv) (some (.str "")) none none none none none) σ Q:=by
 refine eq1 (r:=false) (by rfl) ?_
 refine eq1 (r:=false) (by rfl) ?_
 refine eq1 (r:=true) (by rfl) ?_
 refine ⟨Nat.le_trans (dE rfl:3≤38) (Nat.le_add_left _ _),987,_,rfl,h.sr.tab.2,?_⟩
 refine CallOK.more (d:=d + 35) ?_ (by show d + 35≤d + 38 - 3;lia)
 refine c_remove kit h.gi hn hy (λhs v τ₁ kept l made g k e=>e _ ?_) (λE hs hf v τ₁ kept l made g k e=>e _ ?_) λE hs hf τ₁ kept g k=>?_
 ·have h1:=h.alt g k
  obtain ⟨kvs,hd,dr⟩:=h1.li.df n hn
  refine ⟨_,rd_of (h1.li.row n hn),.ref (Y.W.df n),by rfl,?_⟩
  refine ⟨⟨_,rd_of hd⟩,kvs,rd_of hd,?_⟩
  rcases lw_get (y:=y) dr with ⟨_,e⟩|⟨E,a,e1,_⟩
  ·refine rE e ?_
   intro fr τ₄ hfr e4
   obtain ⟨k4,tf⟩:=new1 hfr e4
   clear e4
   have z:=c_entN (prog:=prog) (w:=w) (B:=B) (X:=X) kit (d:=d) (way:=8) (rest:=rest) (mark:=mark) (y:=y) (x:=x) (sg:=sg) (found:=some fv) (fresh:=some (.ref fr)) (need:=none) (key:=none) (value:=none) hn (h1.keep k4) q
   exact nilS (n:=10) (nilS (n:=12) (nilS (n:=13) z))
  ·exact absurd e1 (hs E)
 ·have h1:=h.alt g k
  obtain ⟨kvs,hd,dr⟩:=h1.li.df n hn
  refine ⟨_,rd_of (h1.li.row n hn),.ref (Y.W.df n),by rfl,?_⟩
  refine ⟨⟨_,rd_of hd⟩,kvs,rd_of hd,?_⟩
  rcases lw_get (y:=y) dr with ⟨e,_⟩|⟨E,a,_,e⟩
  ·exact absurd hs (e E)
  ·refine rE e ?_
   intro fr τ₄ hfr e4
   obtain ⟨k4,tf⟩:=new1 hfr e4
   clear e4
   have z:=c_entF (prog:=prog) (w:=w) (B:=B) (X:=X) kit (d:=d) (way:=8) (rest:=rest) (mark:=mark) (y:=y) (x:=x) (sg:=sg) (found:=some fv) (fresh:=some (.ref fr)) (need:=none) (key:=none) (value:=none) hn (s:=s.alt kept l made) hf (h1.keep k4) q
   exact nilS (n:=10) (nilS (n:=12) (nilS (n:=13) z))
 ·have did:=h.did (o:=none) (kept:=kept) g k λE e=>by exact nn e
  obtain ⟨kvs,hd,dr⟩:=did.li.df n hn
  refine ⟨_,rd_of (did.li.row n hn),.ref (Y.W.df n),by rfl,?_⟩
  refine ⟨⟨_,rd_of hd⟩,kvs,rd_of hd,?_⟩
  rcases lw_get (y:=y) dr with ⟨e,_⟩|⟨E,a,_,e⟩
  ·exact absurd hs (e E)
  ·refine rE e ?_
   intro fr τ₄ hfr e4
   obtain ⟨k4,tf⟩:=new1 hfr e4
   clear e4
   have did:=did.keep k4
   have z:fT prog w B (fst 82) tb2 (d + 38) X 15 5 (eL L Y 8 rest mark n y x sg (some fv) (some (.str "")) (some (.str "")) (some (.ref fr)) none none none) τ₄ Q:=
    c_ent5 (s:=s) kit hn did.li (.inr (.inr ⟨rfl,hf,rfl⟩)) (c_ent6d (s:=s) (s':=s.put n y none kept) kit (dE rfl) hn tf hs ⟨rfl,rfl,rfl,rfl⟩ did.gi did.li did.sr did.pf did.np q)
   exact nilS (n:=10) (nilS (n:=12) (nilS (n:=13) z))
theorem SI.tup (h:SI L Y s t σ) (k:Kx (GA L s) σ τ) {a:Addr} {xs:List AV} (e:σ a=some (.tup xs)):τ a=some (.tup xs):=k _ _ e λz=>((h.gi.okr (λ_=>False)) _ _ e z).2.1 _ rfl
theorem c_way9 (kit:Kit prog w K B) {d:Nat} {rest mark:Int} {n:Nd} {y x sg:Str} {fv:AV} (hn:spot n) (hy:y∈fg) (hx:x∈fg) (hv:lwR σ (seek s.df y (lineL s n)) fv) (h:SI L Y s t σ) (q:∀τ s' t',SI L Y s' t' τ→Q (.bool true) τ) :
 fT prog w B (fst 82) tb2 (d + 38) X 16 4 (eL L Y 9 rest mark n y x sg (some fv) (some (.str "")) none none none none none) σ Q:=by
 rw[←seek_law h.gi.sok hn] at hv
 refine eq1 (r:=false) (by rfl) ?_
 refine eq1 (r:=false) (by rfl) ?_
 refine eq1 (r:=false) (by rfl) ?_
 refine eq1 (r:=true) (by rfl) ?_
 refine ⟨Nat.le_trans (dE rfl:3≤38) (Nat.le_add_left _ _),987,_,rfl,h.sr.tab.2,?_⟩
 refine CallOK.more (d:=d + 35) ?_ (by show d + 35≤d + 38 - 3;lia)
 refine c_alias kit h.gi hn hy hx (λhs v τ₁ kept l made g k e=>e _ ?_) (λE hs hf v τ₁ kept l made g k e=>e _ ?_) λE hs hf τ₁ kept g k=>?_
 ·rw[hs] at hv
  have hv:fv=.none:=hv
  subst hv
  have h1:=h.alt g k
  intro p τ₃ hp e3
  obtain ⟨k3,tp⟩:=new1 hp e3
  intro fr τ₄ hfr e4
  obtain ⟨k4,tf⟩:=new1 hfr e4
  clear e3 e4
  have z:=c_entN (prog:=prog) (w:=w) (B:=B) (X:=X) kit (d:=d) (way:=9) (rest:=rest) (mark:=mark) (y:=y) (x:=x) (sg:=sg) (found:=some .none) (fresh:=some (.ref fr)) (need:=none) (key:=none) (value:=none) hn (h1.keep (k3.trans k4)) q
  exact nilS (n:=9) (nilS (n:=11) (nilS (n:=12) (nilS (n:=13) z)))
 ·rw[hs] at hv
  obtain ⟨fa,rfl,_⟩:=hv
  have h1:=h.alt g k
  intro p τ₃ hp e3
  obtain ⟨k3,tp⟩:=new1 hp e3
  intro fr τ₄ hfr e4
  obtain ⟨k4,tf⟩:=new1 hfr e4
  clear e3 e4
  have z:=c_entF (prog:=prog) (w:=w) (B:=B) (X:=X) kit (d:=d) (way:=9) (rest:=rest) (mark:=mark) (y:=y) (x:=x) (sg:=sg) (found:=some (.ref fa)) (fresh:=some (.ref fr)) (need:=none) (key:=none) (value:=none) hn (s:=s.alt kept l made) hf (h1.keep (k3.trans k4)) q
  exact nilS (n:=9) (nilS (n:=11) (nilS (n:=12) (nilS (n:=13) z)))
 ·rw[hs] at hv
  obtain ⟨fa,rfl,ha⟩:=hv
  have did:=h.did (o:=some (some E)) (kept:=kept) g k λE' e=>by cases e;exact seek_own h.pf _ _ _ hs
  have ha1:=h.tup k ha
  intro p τ₃ hp e3
  obtain ⟨k3,tp⟩:=new1 hp e3
  intro fr τ₄ hfr e4
  obtain ⟨k4,tf⟩:=new1 hfr e4
  clear e3 e4
  have z:=c_entP (prog:=prog) (w:=w) (B:=B) (X:=X) kit (d:=d) (way:=9) (rest:=rest) (mark:=mark) (y:=y) (x:=x) (sg:=sg) (found:=some (.ref fa)) (need:=none) (dE rfl) hn hx hf tf (k4 _ _ tp not_false) (o:=some E) ⟨fa,rfl,(k3.trans k4) _ _ ha1 not_false⟩ (did.keep (k3.trans k4)) q
  exact nilS (n:=9) (nilS (n:=11) (nilS (n:=12) (nilS (n:=13) z)))
set_option backward.match.sparseCases false in
noncomputable def ife:Stmt→List Stmt
 |.If _ _ o _=>o
 |_=>[]
noncomputable def nxi (st:Stmt):Stmt:=((ife st)[0]?).getD (.Pass ⟨0,0,0,0⟩)
noncomputable def b10:List Stmt:=ife (nxi (nxi (nxi (((fbody (fst 82))[4]?).getD (.Pass ⟨0,0,0,0⟩)))))
noncomputable abbrev ΓE (prog:Program) (w:World) (B:Heap) (d:Nat) (X:Post):Cx:=ΓF prog w B (fscope (fst 82)) (d + 38) X tb2
noncomputable abbrev K10 (prog:Program) (w:World) (B:Heap) (d:Nat) (X Q:Post):SPost:=seqK (awp 12) [] (ΓE prog w B d X) (seqK (awp 13) [] (ΓE prog w B d X) (seqK (awp 14) [] (ΓE prog w B d X) (seqK (awp 15) ((fbody (fst 82)).drop 5) (ΓE prog w B d X) (endK Q))))
theorem c_need10 (kit:Kit prog w K B) {d:Nat} {rest mark:Int} {n:Nd} {y x sg:Str} {E:En} {fa:Addr} {hd:AV} {b:Bool} (hn:spot n) (li:LI Y.W s σ) (ha:σ fa=some (.tup [.int E.mark,.str E.name,.str (nmS E.owner),.str E.sight])) (hb:b=true↔(E.sight≠sg∨s.df n y=none))
 (z:(awp 10).S (ΓE prog w B d X) (b10.drop 2) (eL L Y 10 rest mark n y x sg (some (.ref fa)) (some (.str "")) (some hd) none (some (.bool b)) none none) σ (K10 prog w B d X Q)) :
 (awp 11).S (ΓE prog w B d X) (b10.drop 1) (eL L Y 10 rest mark n y x sg (some (.ref fa)) (some (.str "")) (some hd) none none none none) σ (K10 prog w B d X Q):=by
 refine .inl ⟨_,.inr (rd_of ha),dE rfl,dE rfl,_,rfl,?_⟩
 refine eq1 (r:=decide (E.sight=sg)) (by rfl) ?_
 by_cases es:E.sight=sg
 ·refine rE (decide_eq_true es) ?_
  obtain ⟨kvs,hd,dr⟩:=li.df n hn
  refine ⟨_,rd_of (li.row n hn),.ref (Y.W.df n),by rfl,?_⟩
  refine eq1 (r:=(kget kvs y).isSome) (amem_d (rd_of hd)) ?_
  have e:(!(kget kvs y).isSome)=b:=by
   rcases dr.at_ y with ⟨e1,e2⟩|⟨o,v,e1,e2,_⟩
   ·(refine rE e2 ?_;refine rE (hb.mpr (.inr e1)) ?_);rfl
   ·refine rE e2 ?_
    induction b with
    |false=>rfl
    |true=>exact absurd (hb.mp rfl) λz=>z.elim (λz=>z es) λz=>by rw[e1] at z;exact nS z
  rw[←e] at z
  exact z
 ·refine rE (decide_eq_false es) ?_
  rw[hb.mpr (.inl es)] at z
  exact z
theorem c_fresh10 (kit:Kit prog w K B) {d:Nat} {rest mark:Int} {n:Nd} {y x sg:Str} {E:En} {fa:Addr} {hd:AV} (ha:σ fa=some (.tup [.int E.mark,.str E.name,.str (nmS E.owner),.str E.sight]))
 (z:∀fr p v τ,Kx NoS σ τ→τ fr=some (.list [.ref p])→τ p=some (.tup [.str y,v])→lwR τ (some { E with sight:=sg }) v→fT prog w B (fst 82) tb2 (d + 38) X 15 5 (eL L Y 10 rest mark n y x sg (some (.ref fa)) (some (.str "")) (some hd) (some (.ref fr)) (some (.bool true)) none none) τ Q) :
 (awp 10).S (ΓE prog w B d X) (b10.drop 2) (eL L Y 10 rest mark n y x sg (some (.ref fa)) (some (.str "")) (some hd) none (some (.bool true)) none none) σ (K10 prog w B d X Q):=by
 refine eq1 (r:=true) (by rfl) ?_
 refine ⟨dE rfl,dE rfl,[.int E.mark,.str E.name,.str (nmS E.owner),.str E.sight],(dE rfl:4≤100000),.inr ⟨rd_of ha,(dE rfl:3 < 4),?_⟩⟩
 intro a τ₁ h1 e1
 obtain ⟨k1,t1⟩:=new1 h1 e1
 intro b τ₂ h2 e2
 obtain ⟨k2,t2⟩:=new1 h2 e2
 refine ⟨[.int E.mark,.str E.name,.str (nmS E.owner)],[.str sg],(dE rfl:3 + 1≤100000),.inr ⟨rd_of (k2 _ _ t1 not_false),rd_of t2,(by intro z;exact nC List.ctorIdx z rfl),(by intro z;exact nC List.ctorIdx z rfl),?_⟩⟩
 intro v τ₃ h3 e3
 obtain ⟨k3,t3⟩:=new1 h3 e3
 intro p τ₄ h4 e4
 obtain ⟨k4,t4⟩:=new1 h4 e4
 intro fr τ₅ h5 e5
 obtain ⟨k5,t5⟩:=new1 h5 e5
 clear e1 e2 e3 e4 e5
 have z':=z fr p (.ref v) τ₅ ((((k1.trans k2).trans k3).trans k4).trans k5) t5 (k5 _ _ t4 not_false) ⟨v,rfl,k5 _ _ (k4 _ _ t3 not_false) not_false⟩
 exact nilS (n:=7) (nilS (n:=11) (nilS (n:=12) (nilS (n:=13) z')))
theorem c_way10 (kit:Kit prog w K B) {d:Nat} {rest mark:Int} {n:Nd} {y x sg:Str} {fv:AV} (hn:spot n) (hy:y∈fg) (hv:lwR σ (seek s.df y (lineL s n)) fv) (h:SI L Y s t σ) (q:∀τ s' t',SI L Y s' t' τ→Q (.bool true) τ) :
 fT prog w B (fst 82) tb2 (d + 38) X 16 4 (eL L Y 10 rest mark n y x sg (some fv) (some (.str "")) none none none none none) σ Q:=by
 rw[←seek_law h.gi.sok hn] at hv
 refine eq1 (r:=false) (by rfl) ?_
 refine eq1 (r:=false) (by rfl) ?_
 refine eq1 (r:=false) (by rfl) ?_
 refine eq1 (r:=false) (by rfl) ?_
 refine ⟨Nat.le_trans (dE rfl:3≤38) (Nat.le_add_left _ _),987,_,rfl,h.sr.tab.2,?_⟩
 intro ln τ₀ hl e0
 obtain ⟨k0,t0⟩:=new1 hl e0
 have h0:=h.keep k0
 have nl:¬GA L s ln:=λz=>by refine xEA (h.gi.kind z) λo e _=>?_;rw[hl.no] at e;exact nn e
 clear e0
 refine CallOK.more (d:=d + 35) ?_ (by show d + 35≤d + 38 - 3;lia)
 refine c_sight kit h0.gi hn hy t0 nl (λhs v τ₁ kept l made g k e=>e _ ?_) (λE hs hc hf v τ₁ kept l made g k e=>e _ ?_) (λE hs hc hf τ₁ kept g k=>?_) λE hs hc τ₁ kept g k=>?_
 ·rw[hs] at hv
  have hv:fv=.none:=hv
  subst hv
  have h1:=h0.alt g k
  refine eq1 (r:=false) (by rfl) ?_
  intro fr τ₄ hfr e4
  obtain ⟨k4,tf⟩:=new1 hfr e4
  clear e4
  have z:=c_entN (prog:=prog) (w:=w) (B:=B) (X:=X) kit (d:=d) (way:=10) (rest:=rest) (mark:=mark) (y:=y) (x:=x) (sg:=sg) (found:=some .none) (fresh:=some (.ref fr)) (need:=some (.bool false)) (key:=none) (value:=none) hn (h1.keep k4) q
  exact nilS (n:=7) (nilS (n:=11) (nilS (n:=12) (nilS (n:=13) z)))
 ·rw[hs] at hv
  obtain ⟨fa,rfl,ha⟩:=hv
  have h1:=h0.alt g k
  have ha1:=h0.tup k (k0 _ _ ha not_false)
  have z:=c_need10 (prog:=prog) (w:=w) (B:=B) (X:=X) (Q:=Q) kit (d:=d) (rest:=rest) (mark:=mark) (y:=y) (x:=x) (sg:=sg) (hd:=.str "FrozenError") (b:=true) hn h1.li ha1 ⟨λ_=>hc,λ_=>rfl⟩
   (c_fresh10 kit ha1 λfr p v τ k2 tf tp lw=>c_entF (s:=s.alt kept l made) kit hn hf (h1.keep k2) q)
  conv=>whnf
  exact z
 ·rw[hs] at hv
  obtain ⟨fa,rfl,ha⟩:=hv
  have did:=h0.did (o:=some (some { E with sight:=sg })) (kept:=kept) g k λE' e=>by cases e;exact seek_own h.pf _ _ E hs
  have ha1:=h0.tup k (k0 _ _ ha not_false)
  have z:=c_need10 (prog:=prog) (w:=w) (B:=B) (X:=X) (Q:=Q) kit (d:=d) (rest:=rest) (mark:=mark) (y:=y) (x:=x) (sg:=sg) (hd:=.str "") (b:=true) hn did.li ha1 ⟨λ_=>hc,λ_=>rfl⟩
   (c_fresh10 kit ha1 λfr p v τ k2 tf tp lw=>c_entP kit (dE rfl) hn hy hf tf tp lw (did.keep k2) q)
  conv=>whnf
  exact z
 ·rw[hs] at hv
  obtain ⟨fa,rfl,ha⟩:=hv
  have h1:=h0.alt (kept:=kept) (l:=s.g.last) (made:=s.made) g k
  have ha1:=h0.tup k (k0 _ _ ha not_false)
  have z10:(awp 10).S (ΓE prog w B d X) (b10.drop 2) (eL L Y 10 rest mark n y x sg (some (.ref fa)) (some (.str "")) (some (.str "")) none (some (.bool false)) none none) τ₁ (K10 prog w B d X Q):=by
   refine eq1 (r:=true) (by rfl) ?_
   exact eq1 (r:=true) (by rfl) (q _ _ _ h1)
  have z:=c_need10 (prog:=prog) (w:=w) (B:=B) (X:=X) (Q:=Q) kit (d:=d) (rest:=rest) (mark:=mark) (y:=y) (x:=x) (sg:=sg) (hd:=.str "") (b:=false) hn h1.li ha1 ⟨(λz=>by exact Bool.noConfusion z),λz=>absurd z hc⟩ z10
  conv=>whnf
  exact z
noncomputable def eL0 (L:Ly) (Y:Lx) (way rest mark:Int) (n:Nd) (y:Str) (row module new:Option AV):Loc:=[(S "scene",some (.ref Y.sc)),(S "way",some (.int way)),(S "rest",some (.int rest)),(S "mark",some (.int mark)),(S "modules",some (.ref Y.mods)),(S "model",some (.ref Y.W.md)),
 (S "spot",some (sv n)),(S "row",row),(S "found",none),(S "due",none),(S "heard",none),(S "fresh",none),(S "is_needed",none),(S "key",none),(S "value",none),(S "module",module),(S "name",some (.str y)),(S "new",new),(S "sight",none),(S "world",some (.ref L.wd)),
 (S "_law_seek",none),(S "_law_line",none),(S "_law_error",none)]
theorem c_ent4 (kit:Kit prog w K B) {d:Nat} {way rest mark:Int} {n:Nd} {y x sg:Str} {fv:AV} (hw:way=3∨way=7∨way=8∨way=9∨way=10) (hn:spot n) (hy:y∈fg) (hx:x∈fg) (hv:lwR σ (seek s.df y (lineL s n)) fv) (h:SI L Y s t σ) (q:∀τ s' t',SI L Y s' t' τ→Q (.bool true) τ) :
 fT prog w B (fst 82) tb2 (d + 38) X 16 4 (eL L Y way rest mark n y x sg (some fv) (some (.str "")) none none none none none) σ Q:=by
 rcases hw with rfl|rfl|rfl|rfl|rfl
 ·exact c_way3 kit hn hy h q
 ·exact c_way7 kit hn hy hv h q
 ·exact c_way8 kit hn hy h q
 ·exact c_way9 kit hn hy hx hv h q
 ·exact c_way10 kit hn hy hv h q
theorem pickG {a b:Str} {r:Int}:∃y,(y=a∨y=b)∧[AV.str a,.str b][(r % 2).toNat]?=some (.str y):=by
 refine xEA (pick2 (a:=.str a) (b:=.str b) (r:=r)) λx h e=>?_
 rcases h with rfl|rfl
 ·exact iEA _ (.inl rfl) e
 ·exact iEA _ (.inr rfl) e
theorem pick5 {r:Int}:∃n,spot n∧[sv .A,sv .B,sv .T,sv .M,sv .N][(r % 5).toNat]?=some (sv n):=by
 have:r % 5=0∨r % 5=1∨r % 5=2∨r % 5=3∨r % 5=4:=by lia
 rcases this with h|h|h|h|h<;>refine rE h ?_
 ·exact iEA .A ⟨dE rfl,dE rfl,dE rfl⟩ rfl
 ·exact iEA .B ⟨dE rfl,dE rfl,dE rfl⟩ rfl
 ·exact iEA .T ⟨dE rfl,dE rfl,dE rfl⟩ rfl
 ·exact iEA .M ⟨dE rfl,dE rfl,dE rfl⟩ rfl
 ·exact iEA .N ⟨dE rfl,dE rfl,dE rfl⟩ rfl
theorem c_ent3 (kit:Kit prog w K B) {d:Nat} {way rest mark:Int} {n:Nd} {y x:Str} (hr:0≤rest∧rest < 10000000000) (hw:way=3∨way=7∨way=8∨way=9∨way=10) (hn:spot n) (hy:y∈fg) (hx:x∈fg) (h:SI L Y s t σ) (q:∀τ s' t',SI L Y s' t' τ→Q (.bool true) τ) :
 fT prog w B (fst 82) tb2 (d + 38) X 17 3 (eL0 L Y way rest mark n y (some (.ref (Y.W.row n))) (some (L.ref n)) (some (.str x))) σ Q:=by
 refine c_lawline kit h.gi.sok h.li hn (Nat.le_trans (dE rfl:6≤38) (Nat.le_add_left _ _)) λl τ k _ hl=>?_
 have h1:=h.keep k
 refine c_seekL kit (d:=d + 37) h1.li (lineL_spot h.gi.sok hn) (rd_of hl) (Nat.le_trans (lineL_len h.gi.sok n) (dE rfl)) λfv hv=>?_
 intro l' τ₂ hl' e
 obtain ⟨k2,t2⟩:=new1 hl' e
 clear e
 refine ⟨⟨by lia,by lia⟩,dE rfl,dE rfl,?_⟩
 refine ⟨dE rfl,?_⟩
 refine xEA (pickG (a:="private") (b:="public") (r:=rest / 10)) λsg _ es=>?_
 refine .inl ⟨_,.inl (rd_of t2),by lia,by lia,_,es,?_⟩
 have z:=c_ent4 (prog:=prog) (w:=w) (B:=B) (X:=X) kit (d:=d) (rest:=rest) (mark:=mark) (y:=y) (x:=x) (sg:=sg) hw hn hy hx (hv.keep λa xs e=>k2 _ _ e not_false) (h1.keep k2) q
 exact z
theorem c_ent2 (kit:Kit prog w K B) {d:Nat} {way rest mark:Int} {n:Nd} {y:Str} (hr:0≤rest∧rest < 10000000000) (hw:way=3∨way=7∨way=8∨way=9∨way=10) (hn:spot n) (hy:y∈fg) (h:SI L Y s t σ) (q:∀τ s' t',SI L Y s' t' τ→Q (.bool true) τ) :
 fT prog w B (fst 82) tb2 (d + 38) X 18 2 (eL0 L Y way rest mark n y none none none) σ Q:=by
 refine ⟨_,rd_of h.li.md,_,md_get Y.W hn,?_⟩
 refine ⟨_,rd_of h.sr.mods,_,mds_get L hn,?_⟩
 intro l' τ₂ hl' e
 obtain ⟨k2,t2⟩:=new1 hl' e
 clear e
 refine ⟨⟨by lia,by lia⟩,dE rfl,dE rfl,?_⟩
 refine ⟨dE rfl,?_⟩
 refine xEA (pickG (a:="g") (b:="f") (r:=rest / 5)) λx hx es=>?_
 refine .inl ⟨_,.inl (rd_of t2),by lia,by lia,_,es,?_⟩
 have z:=c_ent3 (prog:=prog) (w:=w) (B:=B) (X:=X) kit (d:=d) (rest:=rest) (mark:=mark) (y:=y) (x:=x) hr hw hn hy (by rcases hx with rfl|rfl;exact .tail _ (.head _);exact .head _) (h.keep k2) q
 exact z
theorem c_entry (kit:Kit prog w K B) {d:Nat} {way rest mark:Int} (hw:way=3∨way=7∨way=8∨way=9∨way=10) (hr:0≤rest∧rest < 10000000000) (h:SI L Y s t σ) (q:∀τ s' t',SI L Y s' t' τ→Q (.bool true) τ):CallOK prog w B (d + 39) 992 [.ref Y.sc,.int way,.int rest,.int mark] σ Q X:=by
 refine callFn (n:=20) (d:=d + 38) kit.gd kit.snd (kit.fns 62) ?_
 refine ⟨_,rd_of h.sr.sc,.ref L.wd,by rfl,?_⟩
 refine ⟨_,rd_of h.sr.sc,.ref Y.mods,by rfl,?_⟩
 refine ⟨_,rd_of h.sr.sc,.ref Y.W.md,by rfl,?_⟩
 intro l τ₁ hl e
 obtain ⟨k1,t1⟩:=new1 hl e
 clear e
 refine ⟨dE rfl,?_⟩
 refine xEA (pick5 (r:=rest)) λn hn en=>?_
 refine .inl ⟨_,.inl (rd_of t1),by lia,by lia,_,en,?_⟩
 intro l' τ₂ hl' e
 obtain ⟨k2,t2⟩:=new1 hl' e
 clear e
 refine ⟨⟨by lia,by lia⟩,dE rfl,dE rfl,?_⟩
 refine ⟨dE rfl,?_⟩
 refine xEA (pickF (r:=rest / 5)) λy hy ey=>?_
 refine .inl ⟨_,.inl (rd_of t2),by lia,by lia,_,ey,?_⟩
 have z:=c_ent2 (prog:=prog) (w:=w) (B:=B) (X:=X) kit (d:=d) (rest:=rest) (mark:=mark) (y:=y) hr hw hn hy ((h.keep k1).keep k2) q
 exact z
theorem SI.freeze (h:SI L Y s t σ) {n:Nd} (hn:spot n):SI L Y { s with fz:=upd s.fz n true } t (up (up σ (L.at_ n) (.inst 228 (L.dx n) (MF.fs (Gs.mf L { s with fz:=upd s.fz n true } n)))) (Y.W.row n) (.sdict (rowO Y.W { s with fz:=upd s.fz n true } n))):=by
 have g1:=h.gi.setMod n (fz:=upd s.fz n true) (kept:=s.kept) (λm hm=>⟨upd_ne hm,rfl⟩) (h.gi.kp n)
 have ga:GA L s (L.at_ n):=.inr (.inr ⟨n,.inl rfl⟩)
 have k1:Kx (GA L s) σ (up σ (L.at_ n) (.inst 228 (L.dx n) (MF.fs (Gs.mf L { s with fz:=upd s.fz n true } n)))):=(Kx.refl _ _).up (.inl ga)
 have l1:=h.li.kx rfl k1 (h.gi.okr _)
 have s1:=h.sr.kx k1 (h.gi.okr _)
 have hr:=l1.row n hn
 exact ⟨g1.upZ (b:=Y.W.row n) ⟨.row n,hn,rfl⟩ hr sc_not (h.np (.row n) hn),l1.setFz s1 hn λm hm=>upd_ne hm,s1.kx up_kx (okr_one s1 (a:=.row n) hn id hr sc_quiet),⟨h.pf.ver,h.pf.own,h.pf.key,h.pf.old,h.pf.vow,h.pf.cn⟩,h.np⟩
noncomputable def dL (Y:Lx) (number mark way rest:Int) (spot:Option AV):Loc:=[(S "scene",some (.ref Y.sc)),(S "boxes",some (.ref Y.bxs)),(S "number",some (.int number)),(S "mark",some (.int mark)),(S "way",some (.int way)),(S "rest",some (.int rest)),(S "spot",spot),(S "_law_asked_right",none),(S "_law_mixing_right",none),(S "_law_entry_right",none)]
theorem c_deed3 (kit:Kit prog w K B) {d:Nat} {number mark rest:Int} (hr:0≤rest∧rest < 10000000000) (h:SI L Y s t σ) (q:∀τ s' t',SI L Y s' t' τ→Q (.bool true) τ) :
 fS prog w B (fst 83) (d + 39) X 17 3 (dL Y number mark 11 rest none) σ Q:=by
 refine eq1 (r:=true) (by rfl) ?_
 intro l τ hl e
 obtain ⟨k,tl⟩:=new1 hl e
 have h1:=h.keep k
 clear e
 refine ⟨dE rfl,?_⟩
 refine xEA (pickA (r:=rest)) λn hn en=>?_
 refine .inl ⟨_,.inl (rd_of tl),by lia,by lia,_,en,?_⟩
 refine ⟨_,rd_of h1.sr.sc,.ref Y.mods,by rfl,?_⟩
 refine ⟨_,rd_of h1.sr.mods,_,mds_get L hn,?_⟩
 have put:kput (MF.fs (s.mf L n)) "frozen" (.bool true)=MF.fs (Gs.mf L { s with fz:=upd s.fz n true } n):=by
  have:kput (MF.fs (s.mf L n)) "frozen" (.bool true)=MF.fs { s.mf L n with frozen:=true }:=by rfl
  rw[this]
  refine congrArg MF.fs ?_
  unfold Gs.mf
  dsimp only
  rw[upd_self]
 refine st1 (h1.gi.mod n) (by rfl) (by exact Nat.le_of_ble_eq_true rfl) put ?_
 have z:=h1.freeze hn
 have k1:Kx (GA L s) τ (up τ (L.at_ n) (.inst 228 (L.dx n) (MF.fs (Gs.mf L { s with fz:=upd s.fz n true } n)))):=(Kx.refl _ _).up (.inl (.inr (.inr ⟨n,.inl rfl⟩)))
 have l1:=h1.li.kx rfl k1 (h1.gi.okr _)
 have s1:=h1.sr.kx k1 (h1.gi.okr _)
 refine ⟨_,rd_of s1.sc,.ref Y.W.md,by rfl,?_⟩
 refine ⟨_,rd_of l1.md,_,md_get Y.W hn,?_⟩
 refine si1 (l1.row n hn) (by exact Nat.le_of_ble_eq_true rfl) (kvs':=rowO Y.W { s with fz:=upd s.fz n true } n) ?_ (q _ _ _ z)
 unfold rowO
 dsimp only
 rw[upd_self]
 rfl
theorem rd456 {a:Addr} {way:Int} (ta:τ a=some (.list [.int 4,.int 5,.int 6])):amem τ (.int way) (.ref a)=some (decide (4=way) || (decide (5=way) || (decide (6=way) || false))):=by
 refine rE (amem_l (rd_of ta)) ?_
 rfl
theorem in456 {a:Addr} {way:Int} (ta:τ a=some (.list [.int 4,.int 5,.int 6])) (c:way=4∨way=5∨way=6):amem τ (.int way) (.ref a)=some true:=by
 refine rE (rd456 ta) ?_
 rcases c with rfl|rfl|rfl<;>rfl
theorem no456 {a:Addr} {way:Int} (ta:τ a=some (.list [.int 4,.int 5,.int 6])) (c4:4≠way) (c5:5≠way) (c6:6≠way):amem τ (.int way) (.ref a)=some false:=by
 (refine rE (rd456 ta) ?_;refine rE (decide_eq_false c4) ?_;refine rE (decide_eq_false c5) ?_;refine rE (decide_eq_false c6) ?_);rfl
theorem ways_nat:∀n:Nat,n < 12→((n:Int) < 3∨((n:Int)=4∨(n:Int)=5∨(n:Int)=6)∨(n:Int)=11∨((n:Int)=3∨(n:Int)=7∨(n:Int)=8∨(n:Int)=9∨(n:Int)=10)):=dE rfl
theorem ways {way:Int} (hw:0≤way∧way < 12):way < 3∨(way=4∨way=5∨way=6)∨way=11∨(way=3∨way=7∨way=8∨way=9∨way=10):=by
 obtain ⟨n,rfl⟩:=Int.eq_ofNat_of_zero_le hw.1
 exact ways_nat n (Int.ofNat_lt.mp hw.2)
theorem c_deed2 (kit:Kit prog w K B) {d:Nat} {number mark way rest:Int} (hr:0≤rest∧rest < 10000000000) (hw:0≤way∧way < 12) (h:SI L Y s t σ) (q:∀τ s' t',SI L Y s' t' τ→Q (.bool true) τ) :
 fS prog w B (fst 83) (d + 39) X 19 1 (dL Y number mark way rest none) σ Q:=by
 have cs:way < 3∨(way=4∨way=5∨way=6)∨way=11∨(way=3∨way=7∨way=8∨way=9∨way=10):=ways hw
 rcases cs with c|c|c|c
 ·conv=>whnf
  refine rE (show decide (way < 3)=true from decide_eq_true c) ?_
  have z:=c_asked (prog:=prog) (w:=w) (B:=B) (X:=X) kit (d:=d + 19) (rest:=rest) h hr q
  exact z
 ·conv=>whnf
  refine rE (show decide (way < 3)=false from decide_eq_false (by lia)) ?_
  refine nilS (n:=17) ?_
  intro a τ ha e
  obtain ⟨k,ta⟩:=new1 ha e
  clear e
  refine eq1 (in456 ta c) ?_
  have z:=c_mixing (prog:=prog) (w:=w) (B:=B) (X:=X) kit (d:=d) (way:=way) (rest:=rest) c (h.keep k) hr q
  exact z
 ·subst c
  intro a τ ha e
  obtain ⟨k,ta⟩:=new1 ha e
  clear e
  refine eq1 (no456 ta (dE rfl) (dE rfl) (dE rfl)) ?_
  have z:=c_deed3 (prog:=prog) (w:=w) (B:=B) (X:=X) kit (d:=d) (number:=number) (mark:=mark) (rest:=rest) hr (h.keep k) q
  exact nilS (n:=16) z
 ·conv=>whnf
  refine rE (show decide (way < 3)=false from decide_eq_false (by lia)) ?_
  refine nilS (n:=17) ?_
  intro a τ ha e
  obtain ⟨k,ta⟩:=new1 ha e
  clear e
  refine eq1 (no456 ta (by lia) (by lia) (by lia)) ?_
  refine nilS (n:=16) ?_
  refine eq1 (r:=false) (congrArg some (decide_eq_false (by lia))) ?_
  have z:=c_entry (prog:=prog) (w:=w) (B:=B) (X:=X) kit (d:=d) (way:=way) (rest:=rest) (mark:=mark) c hr (h.keep k) q
  exact nilS (n:=15) z
theorem c_deed (kit:Kit prog w K B) {d:Nat} {number mark:Int} (hr:0≤number∧number < 10000000000) (h:SI L Y s t σ) (q:∀τ s' t',SI L Y s' t' τ→Q (.bool true) τ):CallOK prog w B (d + 40) 999 [.ref Y.sc,.ref Y.bxs,.int number,.int mark] σ Q X:=by
 refine callFn (n:=20) (d:=d + 39) kit.gd kit.snd (kit.fns 63) ?_
 refine ⟨dE rfl,?_⟩
 refine ⟨⟨by lia,by lia⟩,dE rfl,dE rfl,?_⟩
 have z:=c_deed2 (prog:=prog) (w:=w) (B:=B) (X:=X) kit (d:=d) (number:=number) (mark:=mark) (way:=number % 12) (rest:=number / 12) (by lia) (by lia) h q
 exact z
end
structure Std (C:Addr→Prop) (σ:AH) (x dx:Addr) (m:MF) (l:List AV):Prop where
 inst:σ x=some (.inst 228 dx (MF.fs m))
 mt:σ m.meths=some (.sdict [])
 mx:σ m.mixed=some (.list l)
 ah:σ m.ahead=some (.list [])
 c:¬C x∧¬C m.meths∧¬C m.mixed∧¬C m.ahead
section
variable {prog:Program} {w:World} {K:Frag} {B:Heap} {σ τ:AH} {Q X:Post} {C:Addr→Prop}
theorem Std.kx {x dx:Addr} {m:MF} {l:List AV} (h:Std C σ x dx m l) (k:Kx C σ τ):Std C τ x dx m l:=⟨k _ _ h.inst h.c.1,k _ _ h.mt h.c.2.1,k _ _ h.mx h.c.2.2.1,k _ _ h.ah h.c.2.2.2,h.c⟩
theorem Std.more {C':Addr→Prop} {x dx:Addr} {m:MF} {l:List AV} (h:Std C σ x dx m l) (k:∀b,C' b→C b∨σ b=none):Std C' σ x dx m l:=by
 have n:∀{b o},σ b=some o→¬C b→¬C' b:=λe n z=>(k _ z).elim n λq=>by rw[e] at q;exact nS q
 exact ⟨h.inst,h.mt,h.mx,h.ah,n h.inst h.c.1,n h.mt h.c.2.1,n h.mx h.c.2.2.1,n h.ah h.c.2.2.2⟩
theorem NM.std {g':WF} {x dx:Addr} {m:MF} {nm pa att:AV} {ic:Bool} (h:NM σ τ g' x dx m nm pa att ic) (k:∀b,C b→σ b≠none):Std C τ x dx m []:=
 ⟨h.inst,h.mt.1,h.mx.1,h.ah.1,λz=>k _ z h.new,λz=>k _ z h.mt.2,λz=>k _ z h.mx.2,λz=>k _ z h.ah.2⟩
noncomputable def rk:Nd→Nat
 |.M=>1
 |.N=>2
 |.A=>3
 |.B=>4
 |.T=>5
 |_=>0
theorem rk_par {n p:Nd} (h:parG n=some p):rk p < rk n∨(rk p=0∧rk n=0):=by induction n<;>cases h<;>exact dE rfl
theorem rk_spot {n:Nd}:spot n↔0 < rk n:=by
 induction n<;>(unfold spot;exact dE rfl)
theorem rk_inj {n m:Nd} (h:rk n=rk m) (hn:spot n):n=m:=by
 induction n<;>induction m<;>first|rfl|(exact absurd h (dE rfl))|exact absurd (rk_spot.mp hn) (dE rfl)
noncomputable def lsS (L:Ly) (n:Nd):List AV:=if n=.O then [L.ref .K] else []
structure Stage (r:Nat) (C:Addr→Prop) (σ:AH) (g:WF) (L:Ly):Prop where
 std:∀n,rk n < r→Std C σ (L.at_ n) (L.dx n) (L.mf n) (lsS L n)
 num:∀n m,rk n < r→rk m < r→(L.mf n).num=(L.mf m).num→n=m
 le:∀n,rk n < r→(L.mf n).num≤g.last
 me:∀n m,rk n < r→rk m < r→spot m→(L.mf n).meths=(L.mf m).meths→n=m
 mx:∀n m,rk n < r→rk m < r→spot m→(L.mf n).mixed=(L.mf m).mixed→n=m
 ah:∀n m,rk n < r→rk m < r→spot m→(L.mf n).ahead=(L.mf m).ahead→n=m
 mxah:∀n m,rk n < r→rk m < r→spot n∨spot m→(L.mf n).mixed≠(L.mf m).ahead
 sh:∀n,rk n < r→(L.mf n).parent=optR L (parG n)∧(L.mf n).native=natG n∧(L.mf n).name=namG n∧(L.mf n).isc=iscG n∧(L.mf n).outer=.none∧(L.mf n).frozen=false∧(L.mf n).kept=.none∧(L.mf n).attached=if n=.T then .ref L.th else .none
 nap:∀n,rk n < r→spot n→(L.mf n).meths≠g.nat∧(L.mf n).meths≠g.pre
noncomputable def Ly.set (L:Ly) (n:Nd) (x dx:Addr) (m:MF):Ly:={ L with at_:=upd L.at_ n x,dx:=upd L.dx n dx,mf:=upd L.mf n m }
theorem Stage.kx {r:Nat} {g g':WF} {L:Ly} (h:Stage r C σ g L) (k:Kx C σ τ) (e:g'.nat=g.nat∧g'.pre=g.pre∧g.last≤g'.last):Stage r C τ g' L:=
 ⟨λn hn=>(h.std n hn).kx k,h.num,λn hn=>Int.le_trans (h.le n hn) e.2.2,h.me,h.mx,h.ah,h.mxah,h.sh,λn hn hs=>by (refine rE e.1 ?_;refine rE e.2.1 ?_);exact h.nap n hn hs⟩
theorem Stage.more {C':Addr→Prop} {r:Nat} {g:WF} {L:Ly} (h:Stage r C σ g L) (k:∀b,C' b→C b∨σ b=none):Stage r C' σ g L:=
 ⟨λn hn=>(h.std n hn).more k,h.num,h.le,h.me,h.mx,h.ah,h.mxah,h.sh,h.nap⟩
theorem Stage.add {r:Nat} {g g':WF} {L:Ly} {n0:Nd} {x dx:Addr} {m:MF} {nm pa att:AV} {ic:Bool} (h:Stage r C σ g L) (h0:rk n0=r) (hs:spot n0) (k:Kx C σ τ) (hc:∀b,C b→σ b≠none) (nat:σ g.nat≠none∧σ g.pre≠none)
 (e:g'.nat=g.nat∧g'.pre=g.pre∧g.last < g'.last) (nmod:NM σ τ g' x dx m nm pa att ic) (e1:nm=namG n0) (e2:pa=optR L (parG n0)) (e3:att=if n0=.T then .ref L.th else .none) (e4:ic=iscG n0):Stage (r + 1) C τ g' (L.set n0 x dx m):=by
 have old:∀n,rk n < r + 1→n≠n0→rk n < r:=λn hn z=>Nat.lt_of_le_of_ne (Nat.le_of_lt_succ hn) λq=>z ((rk_inj (h0.trans q.symm) hs).symm)
 have at1:∀{n},n≠n0→(L.set n0 x dx m).at_ n=L.at_ n:=λz=>upd_ne z
 have dx1:∀{n},n≠n0→(L.set n0 x dx m).dx n=L.dx n:=λz=>upd_ne z
 have mf1:∀{n},n≠n0→(L.set n0 x dx m).mf n=L.mf n:=λz=>upd_ne z
 have at0:(L.set n0 x dx m).at_ n0=x:=upd_self ..
 have dx0:(L.set n0 x dx m).dx n0=dx:=upd_self ..
 have mf0:(L.set n0 x dx m).mf n0=m:=upd_self ..
 have pos:=rk_spot.mp hs
 have par0:∀n,rk n < r + 1→parG n≠some n0:=λn hn z=>by
  have:=rk_par z
  lia
 have opt:∀n,rk n < r + 1→optR (L.set n0 x dx m) (parG n)=optR L (parG n):=λn hn=>by
  induction q:parG n with
  |none=>rfl
  |some p=>exact congrArg AV.ref (at1 λz=>par0 n hn (by rw[q,z]))
 have lss:∀n,n≠n0→lsS (L.set n0 x dx m) n=lsS L n:=λn z=>by
  unfold lsS
  have:NdP.K≠n0:=λq=>by rw[←q] at hs;exact hs.2.1 rfl
  exact rE (show (L.set n0 x dx m).ref .K=L.ref .K from congrArg AV.ref (at1 this)) rfl
 have ls0:lsS (L.set n0 x dx m) n0=[]:=if_neg hs.1
 obtain ⟨q1,q2,q3,q4,q5,q6,q7,q8,q9⟩:=nmod.shape
 refine ⟨λn hn=>?_,λn n' hn hn' z=>?_,λn hn=>?_,λn n' hn hn' hs' z=>?_,λn n' hn hn' hs' z=>?_,λn n' hn hn' hs' z=>?_,λn n' hn hn' hs' z=>?_,λn hn=>?_,λn hn hsn=>?_⟩
 ·by_cases z:n=n0
  ·(refine rE z ?_;refine rE at0 ?_;refine rE dx0 ?_;refine rE mf0 ?_;refine rE ls0 ?_)
   exact nmod.std hc
  ·(refine rE (at1 z) ?_;refine rE (dx1 z) ?_;refine rE (mf1 z) ?_;refine rE (lss n z) ?_)
   exact (h.std n (old n hn z)).kx k
 ·have lt:∀a,a≠n0→rk a < r + 1→(L.mf a).num < m.num:=λa za ha=>by have:=h.le a (old a ha za);refine rE nmod.num ?_;lia
  by_cases a:n=n0<;>by_cases b:n'=n0
  ·(refine rE a ?_;exact rE b rfl)
  ·rw[a,mf0,mf1 b] at z;have:=lt n' b hn';lia
  ·rw[b,mf0,mf1 a] at z;have:=lt n a hn;lia
  ·rw[mf1 a,mf1 b] at z;exact h.num n n' (old n hn a) (old n' hn' b) z
 ·by_cases a:n=n0
  ·(refine rE a ?_;refine rE mf0 ?_;refine rE nmod.num ?_);exact Int.le_refl _
  ·refine rE (mf1 a) ?_;have:=h.le n (old n hn a);lia
 ·by_cases a:n=n0<;>by_cases b:n'=n0
  ·(refine rE a ?_;exact rE b rfl)
  ·rw[a,mf0,mf1 b] at z
   have:=(h.std n' (old n' hn' b)).mt
   rw[←z,nmod.mt.2] at this;exact nn this
  ·rw[b,mf0,mf1 a] at z
   have:=(h.std n (old n hn a)).mt
   rw[z,nmod.mt.2] at this;exact nn this
  ·rw[mf1 a,mf1 b] at z;exact h.me n n' (old n hn a) (old n' hn' b) hs' z
 ·by_cases a:n=n0<;>by_cases b:n'=n0
  ·(refine rE a ?_;exact rE b rfl)
  ·rw[a,mf0,mf1 b] at z
   have:=(h.std n' (old n' hn' b)).mx
   rw[←z,nmod.mx.2] at this;exact nn this
  ·rw[b,mf0,mf1 a] at z
   have:=(h.std n (old n hn a)).mx
   rw[z,nmod.mx.2] at this;exact nn this
  ·rw[mf1 a,mf1 b] at z;exact h.mx n n' (old n hn a) (old n' hn' b) hs' z
 ·by_cases a:n=n0<;>by_cases b:n'=n0
  ·(refine rE a ?_;exact rE b rfl)
  ·rw[a,mf0,mf1 b] at z
   have:=(h.std n' (old n' hn' b)).ah
   rw[←z,nmod.ah.2] at this;exact nn this
  ·rw[b,mf0,mf1 a] at z
   have:=(h.std n (old n hn a)).ah
   rw[z,nmod.ah.2] at this;exact nn this
  ·rw[mf1 a,mf1 b] at z;exact h.ah n n' (old n hn a) (old n' hn' b) hs' z
 ·by_cases a:n=n0<;>by_cases b:n'=n0
  ·rw[a,b,mf0] at z;exact nmod.mxah z
  ·rw[a,mf0,mf1 b] at z
   have:=(h.std n' (old n' hn' b)).ah
   rw[←z,nmod.mx.2] at this;exact nn this
  ·rw[b,mf0,mf1 a] at z
   have:=(h.std n (old n hn a)).mx
   rw[z,nmod.ah.2] at this;exact nn this
  ·rw[mf1 a,mf1 b] at z;exact h.mxah n n' (old n hn a) (old n' hn' b) hs' z
 ·refine rE (opt n hn) ?_
  by_cases a:n=n0
  ·(refine rE a ?_;refine rE mf0 ?_)
   have en:natG n0=.none:=by
    induction n0 with
    |O=>exact absurd rfl hs.1
    |K=>exact absurd rfl hs.2.1
    |X=>exact absurd rfl hs.2.2
    |_=>rfl
   exact ⟨q3.trans e2,q7.trans en.symm,q1.trans e1,q2.trans e4,q4,q6,q8,q9.trans e3⟩
  ·refine rE (mf1 a) ?_;exact h.sh n (old n hn a)
 ·(refine rE e.1 ?_;refine rE e.2.1 ?_)
  by_cases a:n=n0
  ·(refine rE a ?_;refine rE mf0 ?_)
   exact ⟨λz=>nat.1 (by refine rL z ?_;exact nmod.mt.2),λz=>nat.2 (by refine rL z ?_;exact nmod.mt.2)⟩
  ·refine rE (mf1 a) ?_;exact h.nap n (old n hn a) hsn
end
structure Sc (σ0:AH) (r:Nat) (cs:List Addr) (σ:AH) (g:WF) (kvs:List (Str×AV)) (L:Ly):Prop where
 bw:BW σ L.wd L.dw g kvs
 st:Stage r (·∈cs) σ g L
 bo:kget kvs (Str.ofString "Object")=some (L.ref .O)
 pr:∀b∈cs,σ b≠none
 cw:L.wd∈cs∧g.made∈cs
 nd:cs.Nodup
 r1:0 < r
 k0:Kx NoS σ0 σ
 c0:∀b∈cs,σ0 b=none
 nc:g.nat∉cs∧g.pre∉cs
section
variable {prog:Program} {w:World} {K:Frag} {B:Heap} {σ0 σ τ:AH} {Q X:Post} {r:Nat} {cs:List Addr} {g g':WF} {kvs kvs':List (Str×AV)} {L:Ly}
theorem BW.upO {wd dw:Addr} (bw:BW σ wd dw g kvs) {b:Addr} {o o':AO} (h:σ b=some o) (ho:∀C d fs,o=.inst C d fs→C≠924∧C≠228) (n:b≠g.made∧b≠g.nat∧b≠g.pre):BW (up σ b o') wd dw g kvs:=by
 have ki:∀{a C d fs},σ a=some (.inst C d fs)→(C=924∨C=228)→up σ b o' a=some (.inst C d fs):=λe hC=>(up_ne λz=>by
  rw[z,h] at e;injection e with e
  have:=ho _ _ _ e
  exact hC.elim this.1 this.2).trans e
 refine ⟨ki bw.w (.inl rfl),(up_ne n.1.symm).trans bw.md,(up_ne n.2.1.symm).trans bw.nat,(up_ne n.2.2.symm).trans bw.pre,bw.natp,λc v e=>?_,λc c' a a' d d' m m' e e' i i' q=>?_,bw.nd⟩
 ·obtain ⟨hn,a,d,m,rfl,i,z,z'⟩:=bw.mods c v e
  exact ⟨hn,a,d,m,rfl,ki i (.inr rfl),z,z'⟩
 ·obtain ⟨_,b1,_,m1,eb,j,_⟩:=bw.mods c _ e
  (have eb:=rJ eb;subst eb)
  obtain ⟨_,b2,_,m2,eb,j',_⟩:=bw.mods c' _ e'
  (have eb:=rJ eb;subst eb)
  have u:=(inst_inj (ki j (.inr rfl)) i).1
  have u':=(inst_inj (ki j' (.inr rfl)) i').1
  exact bw.inj c c' a a' _ _ _ _ e e' j j' (u.trans (q.trans u'.symm))
theorem Sc.bp (h:Sc σ0 r cs σ g kvs L) (bp:BP σ τ L.wd L.dw g kvs g' kvs'):Sc σ0 r cs τ g' kvs' L:=by
 have kx:Kx (·∈cs) σ τ:=bp.kx.mono λb z=>by rcases z with rfl|rfl;exact h.cw.1;exact h.cw.2
 obtain ⟨l,e,hl⟩:=bp.gs
 subst e
 refine ⟨bp.bw,h.st.kx kx ⟨rfl,rfl,hl⟩,bp.ext _ _ h.bo,λb hb z=>?_,h.cw,h.nd,h.r1,λb o e n=>bp.kx _ _ (h.k0 _ _ e n) λz=>?_,h.c0,h.nc⟩
 rotate_left
 ·rcases z with rfl|rfl
  ·rw[h.c0 _ h.cw.1] at e;exact nn e
  ·rw[h.c0 _ h.cw.2] at e;exact nn e
 by_cases q:WM L.wd g b
 ·rcases q with rfl|rfl
  ·rw[bp.bw.w] at z;exact nS z
  ·have:=bp.bw.md;rw[show ({ g with last:=l }:WF).made=g.made from rfl,z] at this;exact nn this
 ·induction e:σ b with
  |none=>exact h.pr b hb e
  |some o=>rw[bp.kx _ _ e q] at z;exact nS z
theorem Sc.add (h:Sc σ0 r cs σ g kvs L) {n0:Nd} {x dx:Addr} {m:MF} {nm pa att:AV} {ic:Bool} (h0:rk n0=r) (hs:spot n0) (bp:BP σ τ L.wd L.dw g kvs g' kvs') (hl:g.last < g'.last) (nmod:NM σ τ g' x dx m nm pa att ic)
 (e1:nm=namG n0) (e2:pa=optR L (parG n0)) (e3:att=if n0=.T then .ref L.th else .none) (e4:ic=iscG n0):Sc σ0 (r + 1) cs τ g' kvs' (L.set n0 x dx m):=by
 have kx:Kx (·∈cs) σ τ:=bp.kx.mono λb z=>by rcases z with rfl|rfl;exact h.cw.1;exact h.cw.2
 have b:=h.bp bp
 have ge:g'.nat=g.nat∧g'.pre=g.pre∧g.last < g'.last:=by
  obtain ⟨l,e,_⟩:=bp.gs
  exact iAA (by exact rE e rfl) (by exact rE e rfl) hl
 refine ⟨b.bw,h.st.add h0 hs kx h.pr ⟨(by refine rE h.bw.nat ?_;simp),(by refine rE h.bw.pre ?_;simp)⟩ ge nmod e1 e2 e3 e4,?_,b.pr,b.cw,b.nd,Nat.succ_pos _,b.k0,b.c0,b.nc⟩
 refine rE b.bo ?_
 exact congrArg (λa=>some (AV.ref a)) (upd_ne (λz=>hs.1 z.symm)).symm
theorem Sc.keep (h:Sc σ0 r cs σ g kvs L) (k:Kx NoS σ τ):Sc σ0 r cs τ g kvs L:=
 ⟨h.bw.keep k,h.st.kx (k.mono λ_ z=>z.elim) ⟨rfl,rfl,Int.le_refl _⟩,h.bo,(λb hb z=>by
  induction e:σ b with
  |none=>exact h.pr b hb e
  |some o=>rw[k _ _ e not_false] at z;exact nS z),h.cw,h.nd,h.r1,h.k0.trans k,h.c0,h.nc⟩
theorem Sc.new (h:Sc σ0 r cs σ g kvs L) {b:Addr} {o:AO} (hb:Fresh σ b) (e:τ=up σ b o):Sc σ0 r (b :: cs) τ g kvs L:=by
 obtain ⟨k,tb⟩:=new1 hb e
 have h1:=h.keep k
 refine ⟨h1.bw,(h.st.more (C':=(·∈b :: cs)) λc hc=>?_).kx (k.mono λ_ z=>z.elim) ⟨rfl,rfl,Int.le_refl _⟩,h1.bo,λc hc=>?_,⟨.tail _ h1.cw.1,.tail _ h1.cw.2⟩,?_,h1.r1,h1.k0,λc hc=>?_,λz=>?_,λz=>?_⟩
 ·rcases List.mem_cons.mp hc with rfl|hc
  ·exact .inr hb.no
  ·exact .inl hc
 ·rcases List.mem_cons.mp hc with rfl|hc
  ·refine rE tb ?_;exact λz=>by exact nS z
  ·exact h1.pr c hc
 ·exact List.nodup_cons.mpr ⟨λz=>h.pr b z hb.no,h.nd⟩
 ·rcases List.mem_cons.mp hc with rfl|hc
  ·exact h.k0.none hb.no not_false
  ·exact h.c0 c hc
 ·rcases List.mem_cons.mp z with z|z
  ·have:=h.bw.nat;rw[z,hb.no] at this;exact nn this
  ·exact h.nc.1 z
 ·rcases List.mem_cons.mp z with z|z
  ·have:=h.bw.pre;rw[z,hb.no] at this;exact nn this
  ·exact h.nc.2 z
theorem Sc.turn (h:Sc σ0 r cs σ g kvs L) {b:Addr} {o o':AO} (hb:b∈cs) (e:σ b=some o) (ho:∀C d fs,o=.inst C d fs→C≠924∧C≠228) (n:b≠g.made):Sc σ0 r cs (up σ b o') g kvs L:=
 ⟨h.bw.upO e ho ⟨n,λz=>h.nc.1 (z▸hb),λz=>h.nc.2 (z▸hb)⟩,h.st.kx ((Kx.refl _ _).up (.inl hb)) ⟨rfl,rfl,Int.le_refl _⟩,h.bo,(λc hc z=>by
  by_cases q:c=b
  ·rw[q,up_self] at z;exact nS z
  ·rw[up_ne q] at z;exact h.pr c hc z),h.cw,h.nd,h.r1,h.k0.upr (h.c0 b hb),h.c0,h.nc⟩
theorem Sc.ver (h:Sc σ0 r cs σ g kvs L) (v:Int):Sc σ0 r cs (up σ L.wd (.inst 924 L.dw (WF.fs { g with ver:=v }))) { g with ver:=v } kvs L:=
 ⟨h.bw.setW ⟨rfl,rfl,rfl,rfl⟩,h.st.kx ((Kx.refl _ _).up (.inl h.cw.1)) ⟨rfl,rfl,Int.le_refl _⟩,h.bo,(λc hc z=>by
  by_cases q:c=L.wd
  ·rw[q,up_self] at z;exact nS z
  ·rw[up_ne q] at z;exact h.pr c hc z),h.cw,h.nd,h.r1,h.k0.upr (h.c0 _ h.cw.1),h.c0,h.nc⟩
theorem Sc.th (h:Sc σ0 r cs σ g kvs L) (hr:r≤5) (th dth:Addr):Sc σ0 r cs σ g kvs { L with th:=th,dth:=dth }:=by
 refine ⟨h.bw,⟨h.st.std,h.st.num,h.st.le,h.st.me,h.st.mx,h.st.ah,h.st.mxah,λn hn=>?_,h.st.nap⟩,h.bo,h.pr,h.cw,h.nd,h.r1,h.k0,h.c0,h.nc⟩
 have nT:n≠.T:=λz=>by rw[z] at hn;have:5 < r:=hn;lia
 refine xAAAAAAA (h.st.sh n hn) λa1 a2 a3 a4 a5 a6 a7 a8=>?_
 exact ⟨a1,a2,a3,a4,a5,a6,a7,by (refine rE a8 ?_;refine rE (if_neg nT) ?_;exact rE (if_neg nT) rfl)⟩
theorem Sc.perm {cs':List Addr} (h:Sc σ0 r cs σ g kvs L) (p:cs.Perm cs'):Sc σ0 r cs' σ g kvs L:=by
 have e:(λb=>b∈cs')=(λb=>b∈cs):=funext λb=>propext p.mem_iff.symm
 refine ⟨h.bw,by show Stage r (λb=>b∈cs') σ g L;refine rE e ?_;exact h.st,h.bo,λb hb=>h.pr b (p.mem_iff.mpr hb),⟨p.mem_iff.mp h.cw.1,p.mem_iff.mp h.cw.2⟩,p.nodup_iff.mp h.nd,h.r1,h.k0,λb hb=>h.c0 b (p.mem_iff.mpr hb),λz=>h.nc.1 (p.mem_iff.mpr z),λz=>h.nc.2 (p.mem_iff.mpr z)⟩
theorem rk0 {n:Nd} (h:rk n < 1):n=.O∨n=.K∨n=.X:=by
 induction n<;>first|exact .inl rfl|exact .inr (.inl rfl)|exact .inr (.inr rfl)|exact absurd h (dE rfl)
noncomputable def bnS:Nd→Str
 |.O=>Str.ofString "Object"
 |.K=>Str.ofString "Kernel"
 |_=>Str.ofString "BasicObject"
theorem sc_start {wd dw:Addr} (k0:Kx NoS σ0 σ) (cw:σ0 wd=none) (cm:σ0 g.made=none) (bw:BW σ wd dw g kvs) (hs:∀n∈[Str.ofString "Object",Str.ofString "BasicObject",Str.ofString "Kernel"],(kget kvs n).isSome=true) (full:∀n,(kget kvs n).isSome=true→∃a d m,BFull σ g kvs n a d m) :
 ∃L:Ly,L.wd=wd∧L.dw=dw∧Sc σ0 1 [wd,g.made] σ g kvs L:=by
 refine xEEE (full _ (hs _ (.head _))) λaO dO mO fO=>?_
 refine xEEE (full _ (hs _ (.tail _ (.head _)))) λaX dX mX fX=>?_
 refine xEEE (full _ (hs _ (.tail _ (.tail _ (.head _))))) λaK dK mK fK=>?_
 let L:Ly:=⟨wd,dw,λn=>match n with|.O=>aO|.K=>aK|_=>aX,λn=>match n with|.O=>dO|.K=>dK|_=>dX,λn=>match n with|.O=>mO|.K=>mK|_=>mX,0,0⟩
 have F:∀n,rk n < 1→BFull σ g kvs (bnS n) (L.at_ n) (L.dx n) (L.mf n):=λn hn=>by
  rcases rk0 hn with rfl|rfl|rfl
  ·exact fO
  ·exact fK
  ·exact fX
 have kO:kget kvs (Str.ofString "Object")=some (L.ref .O):=fO.at_
 have kX:kget kvs (Str.ofString "BasicObject")=some (L.ref .X):=fX.at_
 have kK:kget kvs (Str.ofString "Kernel")=some (L.ref .K):=fK.at_
 have wm:wd≠g.made:=λz=>by have:=bw.w;rw[z,bw.md] at this;exact nC AO.ctorIdx (sJ this) rfl
 have nc:∀{b o},σ b=some o→(∀d fs,o≠.inst 924 d fs)→b≠g.made→b∉[wd,g.made]:=λe n z q=>by
  rcases List.mem_cons.mp q with q|q
  ·rw[q,bw.w] at e;injection e with e;exact n _ _ e.symm
  ·exact z (List.mem_singleton.mp q)
 have nm:∀{b o},σ b=some o→(∀l,o≠.sdict l)→b≠g.made:=λe n z=>by rw[z,bw.md] at e;injection e with e;exact n _ e.symm
 refine ⟨L,rfl,rfl,bw,⟨λn hn=>?_,λn m hn hm e=>?_,λn hn=>?_,λn m hn hm hs e=>?_,λn m hn hm hs e=>?_,λn m hn hm hs e=>?_,λn m hn hm hs e=>?_,λn hn=>?_,λn hn hs=>?_⟩,kO,λb hb=>?_,⟨.head _,.tail _ (.head _)⟩,?_,Nat.one_pos,k0,λb hb=>?_,nc bw.nat (λ_ _ z=>by exact nC AO.ctorIdx z rfl) bw.natp.1,nc bw.pre (λ_ _ z=>by exact nC AO.ctorIdx z rfl) bw.natp.2⟩
 ·have f:=F n hn
  refine ⟨f.inst,f.mt.1,?_,f.ah,nc f.inst (λ_ _ z=>by cases z) (nm f.inst (λ_ z=>by exact nC AO.ctorIdx z rfl)),nc f.mt.1 (λ_ _ z=>by exact nC AO.ctorIdx z rfl) f.mt.2,nc f.mx.1 (λ_ _ z=>by exact nC AO.ctorIdx z rfl) (nm f.mx.1 (λ_ z=>by exact nC AO.ctorIdx z rfl)),nc f.ah (λ_ _ z=>by exact nC AO.ctorIdx z rfl) (nm f.ah (λ_ z=>by exact nC AO.ctorIdx z rfl))⟩
  refine rE f.mx.1 ?_
  rcases rk0 hn with rfl|rfl|rfl
  ·show some (AO.list [(kget kvs (Str.ofString "Kernel")).getD .none])=some (AO.list [L.ref .K])
   refine rE kK ?_;rfl
  ·rfl
  ·rfl
 ·have h:=bw.inj _ _ _ _ _ _ _ _ (F n hn).at_ (F m hm).at_ (F n hn).inst (F m hm).inst e
  rcases rk0 hn with rfl|rfl|rfl<;>rcases rk0 hm with rfl|rfl|rfl<;>first|rfl|exact absurd h (dE rfl)
 ·obtain ⟨_,a,d,m,e,i,_,le⟩:=bw.mods _ _ (F n hn).at_
  injection e with e
  rw[←e] at i
  refine rE ((inst_inj (F n hn).inst i).1) ?_;exact le
 ·exact absurd (rk_spot.mp hs) (by lia)
 ·exact absurd (rk_spot.mp hs) (by lia)
 ·exact absurd (rk_spot.mp hs) (by lia)
 ·rcases hs with hs|hs<;>exact absurd (rk_spot.mp hs) (by lia)
 ·have f:=F n hn
  refine xAAAAA f.rest λr1 r2 r3 r4 r5 r6=>?_
  refine ⟨f.par.1.trans ?_,f.native.trans ?_,f.name.trans ?_,f.isc.trans ?_,r5,r3,r2,?_⟩
  ·rcases rk0 hn with rfl|rfl|rfl
   ·show (kget kvs (Str.ofString "BasicObject")).getD .none=L.ref .X
    refine rE kX ?_;rfl
   ·rfl
   ·rfl
  ·rcases rk0 hn with rfl|rfl|rfl<;>rfl
  ·rcases rk0 hn with rfl|rfl|rfl<;>rfl
  ·rcases rk0 hn with rfl|rfl|rfl<;>rfl
  ·(refine rE r1 ?_;exact rE (if_neg (λz=>by rw[z] at hn;exact absurd hn (dE rfl))) rfl)
 ·exact absurd (rk_spot.mp hs) (by lia)
 ·rcases List.mem_cons.mp hb with rfl|hb
  ·refine rE bw.w ?_;exact λz=>by exact nS z
  ·(refine rE (List.mem_singleton.mp hb) ?_;refine rE bw.md ?_);exact λz=>by exact nS z
 ·simp[wm]
 ·rcases List.mem_cons.mp hb with rfl|hb
  ·exact cw
  ·refine rE (List.mem_singleton.mp hb) ?_;exact cm
end
structure Sg (σ0:AH) (mods made:Addr) (cs:List Addr) (σ:AH) (g:WF) (kvs:List (Str×AV)) (L:Ly):Prop where
 sc:Sc σ0 6 cs σ g kvs L
 mods:σ mods=some (.sdict (mdsO L))
 th:∃d i f,σ L.th=some (.inst 40 d (tfo i (L.ref .B) f (L.ref .T)))
 ver:g.ver=1
 made:g.made=made
section
variable {prog:Program} {w:World} {K:Frag} {B:Heap} {σ0 σ τ:AH} {Q X:Post} {r:Nat} {cs:List Addr} {g g':WF} {kvs kvs':List (Str×AV)} {L:Ly}
noncomputable def sL (world modules thing model spot parent:Option AV):Loc:=[(S "world",world),(S "modules",modules),(S "thing",thing),(S "model",model),(S "spot",spot),(S "parent",parent),(S "World",none),(S "Thing",none),(S "own_module",none)]
theorem bp_keep (h:Sc σ0 r cs σ g kvs L) (bp:BP σ τ L.wd L.dw g kvs g' kvs') {b:Addr} {o:AO} (e:σ b=some o) (n:b≠L.wd∧b≠g.made):τ b=some o:=bp.kx _ _ e λz=>z.elim n.1 n.2
theorem c_scene4 (kit:Kit prog w K B) {d:Nat} {mods xM xN xA xB:Addr} (h:Sc σ0 5 cs σ g kvs L) (hm:mods∈cs) (n:mods≠L.wd∧mods≠g.made) (hv:g.ver=0) (e:σ mods=some (.sdict [(nmS .M,L.ref .M),(nmS .N,L.ref .N),(nmS .A,L.ref .A),(nmS .B,L.ref .B)]))
 (q:∀τ g' kvs' L',L'.wd=L.wd→Sg σ0 mods g.made (L'.th :: cs) τ g' kvs' L'→fS prog w B (fst 78) (d + 39) X 14 6 (sL (some (.ref L.wd)) (some (.ref mods)) (some (.ref L'.th)) none none none) τ Q) :
 fS prog w B (fst 78) (d + 39) X 16 4 (sL (some (.ref L.wd)) (some (.ref mods)) none none none none) σ Q:=by
 refine meth1 h.bw.w (by rfl) (wf_none _ (dE rfl)) ?_
 refine c_num kit (d:=d + 38) h.bw λτ₁ _ bp=>?_
 have e1:=bp_keep h bp e n
 have h1:=h.bp bp
 refine ⟨_,rd_of e1,L.ref .B,by rfl,?_⟩
 refine callCls kit.gd kit.ini (dE rfl) (d:=d + 38) λt dt ht hdt nt=>c_thingI kit (d:=d + 37) (.head _) λf hf nf=>⟨rfl,?_⟩
 have kf:Kx NoS τ₁ (up τ₁ f (.sdict [])):=(Kx.refl _ _).up (.inr hf.no)
 have h2:=h1.keep kf
 have e2:=kf _ _ e1 not_false
 have ft:Fresh (up τ₁ f (.sdict [])) t:=⟨(up_ne nf.symm).trans ht.no,ht.so⟩
 clear hdt nt
 generalize up τ₁ f (.sdict [])=τ₂ at h2 e2 ft ⊢
 have h3:=(h2.new ft rfl (o:=.inst 40 dt (tfs ({ g with last:=g.last + 1 }:WF).last (L.ref .B) f))).th (Nat.le_refl _) t dt
 have nmt:mods≠t:=λz=>by rw[z,ft.no] at e2;exact nn e2
 have e3:=(up_ne (o:=.inst 40 dt (tfs ({ g with last:=g.last + 1 }:WF).last (L.ref .B) f)) nmt).trans e2
 have t3:up τ₂ t (.inst 40 dt (tfs ({ g with last:=g.last + 1 }:WF).last (L.ref .B) f)) t=some (.inst 40 dt (tfs ({ g with last:=g.last + 1 }:WF).last (L.ref .B) f)):=up_self ..
 show fS prog w B (fst 78) (d + 39) X 15 5 (sL (some (.ref L.wd)) (some (.ref mods)) (some (.ref t)) none none none) (up τ₂ t (.inst 40 dt (tfs ({ g with last:=g.last + 1 }:WF).last (L.ref .B) f))) Q
 generalize up τ₂ t (.inst 40 dt (tfs ({ g with last:=g.last + 1 }:WF).last (L.ref .B) f))=τ₃ at h3 e3 t3 ⊢
 refine c_ownNew kit (d:=d + 7) h3.bw t3 λx dx m τ₄ g' kvs' bp' hl nmod=>?_
 have n':mods≠L.wd∧mods≠g.made:=n
 have e4:=bp_keep h3 bp' e3 n'
 have nw:t≠L.wd:=λz=>by have:=h3.bw.w;rw[show ({ L with th:=t,dth:=dt }:Ly).wd=L.wd from rfl,←z,t3] at this;cases this
 have nm:t≠g.made:=λz=>by have:=h3.bw.md;rw[show ({ g with last:=g.last + 1 }:WF).made=g.made from rfl,←z,t3] at this;exact nC AO.ctorIdx (sJ this) rfl
 have t4:=bp_keep h3 bp' t3 ⟨nw,nm⟩
 obtain ⟨l,rfl,hl'⟩:=bp'.gs
 have h4:=h3.add (n0:=.T) rfl ⟨dE rfl,dE rfl,dE rfl⟩ bp' hl nmod rfl rfl rfl rfl
 have h5:=(h4.turn (b:=t) (o':=.inst 40 dt (tfo ({ g with last:=g.last + 1 }:WF).last (L.ref .B) f (.ref x))) (.head _) t4 (λC d fs z=>by injection z with z;subst z;exact dE rfl) nm).ver (g.ver + 1)
 have e5:=(up_ne (o:=.inst 40 dt (tfo ({ g with last:=g.last + 1 }:WF).last (L.ref .B) f (.ref x))) nmt).trans e4
 have t5:up τ₄ t (.inst 40 dt (tfo ({ g with last:=g.last + 1 }:WF).last (L.ref .B) f (.ref x))) t=some (.inst 40 dt (tfo ({ g with last:=g.last + 1 }:WF).last (L.ref .B) f (.ref x))):=up_self ..
 have e6:=(up_ne (o:=.inst 924 L.dw (WF.fs { g with last:=l,ver:=g.ver + 1 })) n.1).trans e5
 have t6:=(up_ne (o:=.inst 924 L.dw (WF.fs { g with last:=l,ver:=g.ver + 1 })) nw).trans t5
 refine si1 e6 (by exact Nat.le_of_ble_eq_true rfl) (kvs':=mdsO (Ly.set { L with th:=t,dth:=dt } .T x dx m)) (by rfl) ?_
 have h6:=h5.turn (b:=mods) (o':=.sdict (mdsO (Ly.set { L with th:=t,dth:=dt } .T x dx m))) (.tail _ hm) e6 (λC d fs z=>by exact nC AO.ctorIdx z rfl) n.2
 have t7:=(up_ne (o:=.sdict (mdsO (Ly.set { L with th:=t,dth:=dt } .T x dx m))) nmt.symm).trans t6
 exact q _ _ kvs' (Ly.set { L with th:=t,dth:=dt } .T x dx m) rfl ⟨h6,up_self ..,⟨dt,_,f,t7⟩,by show g.ver + 1=1;refine rE hv ?_;rfl,rfl⟩
theorem gs_ver {wd dw:Addr} (bp:BP σ τ wd dw g kvs g' kvs'):g'.ver=g.ver∧g'.made=g.made:=by
 obtain ⟨l,rfl,_⟩:=bp.gs
 exact ⟨rfl,rfl⟩
theorem c_scene3 (kit:Kit prog w K B) {d:Nat} {mods:Addr} (h:Sc σ0 4 cs σ g kvs L) (hm:mods∈cs) (n:mods≠L.wd∧mods≠g.made) (hv:g.ver=0) (e:σ mods=some (.sdict [(nmS .M,L.ref .M),(nmS .N,L.ref .N),(nmS .A,L.ref .A)]))
 (q:∀τ g' kvs' L',L'.wd=L.wd→Sg σ0 mods g.made (L'.th :: cs) τ g' kvs' L'→fS prog w B (fst 78) (d + 39) X 14 6 (sL (some (.ref L.wd)) (some (.ref mods)) (some (.ref L'.th)) none none none) τ Q) :
 fS prog w B (fst 78) (d + 39) X 17 3 (sL (some (.ref L.wd)) (some (.ref mods)) none none none none) σ Q:=by
 refine meth1 h.bw.w (by rfl) (wf_none _ (dE rfl)) ?_
 refine ⟨_,rd_of e,L.ref .A,by rfl,?_⟩
 refine c_newMod4 kit (d:=d + 8) h.bw λx dx m τ₁ g₁ kvs₁ _ bp hl nm=>?_
 have e1:=bp_keep h bp e n
 obtain ⟨v1,m1⟩:=gs_ver bp
 have h1:=h.add (n0:=.B) rfl ⟨dE rfl,dE rfl,dE rfl⟩ bp hl nm rfl rfl rfl rfl
 have n1:mods≠L.wd∧mods≠g₁.made:=by refine rE m1 ?_;exact n
 refine si1 e1 (by exact Nat.le_of_ble_eq_true rfl) (kvs':=[(nmS .M,(L.set .B x dx m).ref .M),(nmS .N,(L.set .B x dx m).ref .N),(nmS .A,(L.set .B x dx m).ref .A),(nmS .B,(L.set .B x dx m).ref .B)]) (by rfl) ?_
 have z:=c_scene4 (prog:=prog) (w:=w) (B:=B) (X:=X) (Q:=Q) kit (d:=d) (xM:=0) (xN:=0) (xA:=0) (xB:=0) (h1.turn hm e1 (o':=.sdict [(nmS .M,(L.set .B x dx m).ref .M),(nmS .N,(L.set .B x dx m).ref .N),(nmS .A,(L.set .B x dx m).ref .A),(nmS .B,(L.set .B x dx m).ref .B)]) (λC d fs z=>by exact nC AO.ctorIdx z rfl) n1.2) hm n1 (v1.trans hv) (up_self ..) (λτ g' kvs' L' ew z=>q τ g' kvs' L' ew (m1▸z))
 exact z
theorem c_scene2 (kit:Kit prog w K B) {d:Nat} {mods:Addr} (h:Sc σ0 3 cs σ g kvs L) (hm:mods∈cs) (n:mods≠L.wd∧mods≠g.made) (hv:g.ver=0) (e:σ mods=some (.sdict [(nmS .M,L.ref .M),(nmS .N,L.ref .N)]))
 (q:∀τ g' kvs' L',L'.wd=L.wd→Sg σ0 mods g.made (L'.th :: cs) τ g' kvs' L'→fS prog w B (fst 78) (d + 39) X 14 6 (sL (some (.ref L.wd)) (some (.ref mods)) (some (.ref L'.th)) none none none) τ Q) :
 fS prog w B (fst 78) (d + 39) X 18 2 (sL (some (.ref L.wd)) (some (.ref mods)) none none none none) σ Q:=by
 refine meth1 h.bw.w (by rfl) (wf_none _ (dE rfl)) ?_
 refine c_newMod3 kit (d:=d + 8) h.bw (.inl ⟨rfl,h.bo⟩) λx dx m τ₁ g₁ kvs₁ _ bp hl nm=>?_
 have e1:=bp_keep h bp e n
 obtain ⟨v1,m1⟩:=gs_ver bp
 have h1:=h.add (n0:=.A) rfl ⟨dE rfl,dE rfl,dE rfl⟩ bp hl nm rfl rfl rfl rfl
 have n1:mods≠L.wd∧mods≠g₁.made:=by refine rE m1 ?_;exact n
 refine si1 e1 (by exact Nat.le_of_ble_eq_true rfl) (kvs':=[(nmS .M,(L.set .A x dx m).ref .M),(nmS .N,(L.set .A x dx m).ref .N),(nmS .A,(L.set .A x dx m).ref .A)]) (by rfl) ?_
 have z:=c_scene3 (prog:=prog) (w:=w) (B:=B) (X:=X) (Q:=Q) kit (d:=d) (h1.turn hm e1 (o':=.sdict [(nmS .M,(L.set .A x dx m).ref .M),(nmS .N,(L.set .A x dx m).ref .N),(nmS .A,(L.set .A x dx m).ref .A)]) (λC d fs z=>by exact nC AO.ctorIdx z rfl) n1.2) hm n1 (v1.trans hv) (up_self ..) (λτ g' kvs' L' ew z=>q τ g' kvs' L' ew (m1▸z))
 exact z
theorem c_scene0 (kit:Kit prog w K B) {d:Nat}
 (q:∀mods τ g kvs L,Sg σ mods g.made [L.th,mods,L.wd,g.made] τ g kvs L→fS prog w B (fst 78) (d + 39) X 14 6 (sL (some (.ref L.wd)) (some (.ref mods)) (some (.ref L.th)) none none none) τ Q) :
 CallOK prog w B (d + 40) 966 [] σ Q X:=by
 refine callFn (n:=20) (d:=d + 39) kit.gd kit.snd (kit.fns 58) ?_
 intro nat τ hn e
 obtain ⟨k,tn⟩:=new1 hn e
 clear e
 refine callCls kit.gd kit.ini (dE rfl) (d:=d + 38) λx dx hx _ _=>c_worldI kit (d:=d + 7) hx tn λg kvs τ₁ bw hv some full k1 cm=>⟨rfl,?_⟩
 (refine xEAA (sc_start (k.trans k1) (k.none hx.no not_false) (k.none cm not_false) bw some full) λL=>?_;rintro rfl rfl h)
 refine meth1 h.bw.w (by rfl) (wf_none _ (dE rfl)) ?_
 refine c_newMod3 kit (d:=d + 8) h.bw (.inr ⟨rfl,rfl⟩) λxM dM mM τ₂ g₂ kvs₂ _ bp2 hl2 nm2=>?_
 obtain ⟨v2,m2⟩:=gs_ver bp2
 have h2:=h.add (n0:=.M) rfl ⟨dE rfl,dE rfl,dE rfl⟩ bp2 hl2 nm2 rfl rfl rfl rfl
 refine meth1 h2.bw.w (by rfl) (wf_none _ (dE rfl)) ?_
 refine c_newMod3 kit (d:=d + 8) h2.bw (.inr ⟨rfl,rfl⟩) λxN dN mN τ₃ g₃ kvs₃ _ bp3 hl3 nm3=>?_
 obtain ⟨v3,m3⟩:=gs_ver bp3
 have h3:=h2.add (n0:=.N) rfl ⟨dE rfl,dE rfl,dE rfl⟩ bp3 hl3 nm3 rfl rfl rfl rfl
 intro mods τ₄ hm e
 have h4:=h3.new hm e
 have tm:τ₄ mods=.some (.sdict [(nmS .M,((L.set .M xM dM mM).set .N xN dN mN).ref .M),(nmS .N,((L.set .M xM dM mM).set .N xN dN mN).ref .N)]):=by refine rE e ?_;exact up_self ..
 have nw:mods≠L.wd:=hm.ne h3.bw.w
 have nm:mods≠g₃.made:=hm.ne h3.bw.md
 have z:=c_scene2 (prog:=prog) (w:=w) (B:=B) (X:=X) (Q:=Q) kit (d:=d) h4 (.head _) ⟨nw,nm⟩ (v3.trans (v2.trans hv)) tm (λτ g' kvs' L' ew z=>by
  have eg:g'.made=g.made:=z.made.trans (m3.trans m2)
  have z':Sg σ mods g'.made [L'.th,mods,L'.wd,g'.made] τ g' kvs' L':=by
   have z:=z
   rw[show g₃.made=g'.made from z.made.symm] at z
   (refine rE ew ?_;refine rE eg ?_)
   rw[eg] at z
   exact z
  have:=q mods τ g' kvs' L' z'
  rw[ew] at this
  exact this)
 exact z
end
section
variable {prog:Program} {w:World} {K:Frag} {B:Heap} {σ0 σ τ:AH} {Q X:Post} {g:WF} {kvs:List (Str×AV)} {L:Ly}
noncomputable def rowAd (W:Lw) (n:Nd):List Addr:=[W.row n,W.ah n,W.mx n,W.df n]
noncomputable def row0 (W:Lw) (n:Nd):List (Str×AV):=[("defs",.ref (W.df n)),("mixed",.ref (W.mx n)),("ahead",.ref (W.ah n)),("parent",parS n),("frozen",.bool false)]
structure Mi (σ0:AH) (mods made md:Addr) (ds:List Nd) (W:Lw) (σ:AH) (g:WF) (kvs:List (Str×AV)) (L:Ly):Prop where
 sc:Sc σ0 6 (ds.reverse.flatMap (rowAd W) ++ [md,mods,L.th,L.wd,made]) σ g kvs L
 md:σ md=some (.sdict (ds.map λn=>(nmS n,.ref (W.row n))))
 row:∀n∈ds,σ (W.row n)=some (.sdict (row0 W n))∧σ (W.df n)=some (.sdict [])∧σ (W.mx n)=some (.list [])∧σ (W.ah n)=some (.list [])
 mods:σ mods=some (.sdict (mdsO L))
 th:∃d i f,σ L.th=some (.inst 40 d (tfo i (L.ref .B) f (L.ref .T)))
 ver:g.ver=1
 made:g.made=made
theorem Mi.keep {mods made md:Addr} {ds:List Nd} {W:Lw} (h:Mi σ0 mods made md ds W σ g kvs L) (k:Kx NoS σ τ):Mi σ0 mods made md ds W τ g kvs L:=by
 refine ⟨h.sc.keep k,k _ _ h.md not_false,λn hn=>?_,k _ _ h.mods not_false,?_,h.ver,h.made⟩
 ·refine xAAA (h.row n hn) λa b c d=>?_
  exact iAAA (k _ _ a not_false) (k _ _ b not_false) (k _ _ c not_false) (k _ _ d not_false)
 ·refine xEEE h.th λd i f e=>?_
  exact ⟨d,i,f,k _ _ e not_false⟩
noncomputable def Lw.put (W:Lw) (c:Nd) (r d m a:Addr):Lw:={ W with row:=upd W.row c r,df:=upd W.df c d,mx:=upd W.mx c m,ah:=upd W.ah c a }
theorem Mi.add {mods made md:Addr} {ds:List Nd} {W:Lw} {c:Nd} {a1 a2 a3 a4:Addr} {τ1 τ2 τ3 τ4:AH} (h:Mi σ0 mods made md ds W σ g kvs L) (hd:∀n∈ds,spot n) (hc:spot c) (hn:c∉ds)
 (f1:Fresh σ a1) (e1:τ1=up σ a1 (.sdict [])) (f2:Fresh τ1 a2) (e2:τ2=up τ1 a2 (.list [])) (f3:Fresh τ2 a3) (e3:τ3=up τ2 a3 (.list [])) (f4:Fresh τ3 a4)
 (e4:τ4=up τ3 a4 (.sdict [("defs",.ref a1),("mixed",.ref a2),("ahead",.ref a3),("parent",parS c),("frozen",.bool false)])) :
 kput (ds.map λn=>(nmS n,AV.ref (W.row n))) (nmS c) (.ref a4)=(ds ++ [c]).map (λn=>(nmS n,.ref ((W.put c a4 a1 a2 a3).row n)))∧τ4 md=some (.sdict (ds.map λn=>(nmS n,.ref (W.row n))))∧
 Mi σ0 mods made md (ds ++ [c]) (W.put c a4 a1 a2 a3) (up τ4 md (.sdict ((ds ++ [c]).map λn=>(nmS n,.ref ((W.put c a4 a1 a2 a3).row n))))) g kvs L:=by
 obtain ⟨k1,t1⟩:=new1 f1 e1
 obtain ⟨k2,t2⟩:=new1 f2 e2
 obtain ⟨k3,t3⟩:=new1 f3 e3
 obtain ⟨k4,t4⟩:=new1 f4 e4
 have s4:=(((h.sc.new f1 e1).new f2 e2).new f3 e3).new f4 e4
 have kk:=((k1.trans k2).trans k3).trans k4
 have h4:=h.keep kk
 have u1:=k4 _ _ (k3 _ _ (k2 _ _ t1 not_false) not_false) not_false
 have u2:=k4 _ _ (k3 _ _ t2 not_false) not_false
 have u3:=k4 _ _ t3 not_false
 have old:∀n∈ds,n≠c:=λn hm z=>hn (z▸hm)
 have rw':∀n∈ds,(W.put c a4 a1 a2 a3).row n=W.row n∧(W.put c a4 a1 a2 a3).df n=W.df n∧(W.put c a4 a1 a2 a3).mx n=W.mx n∧(W.put c a4 a1 a2 a3).ah n=W.ah n:=λn hm=>⟨upd_ne (old n hm),upd_ne (old n hm),upd_ne (old n hm),upd_ne (old n hm)⟩
 have rc:(W.put c a4 a1 a2 a3).row c=a4∧(W.put c a4 a1 a2 a3).df c=a1∧(W.put c a4 a1 a2 a3).mx c=a2∧(W.put c a4 a1 a2 a3).ah c=a3:=⟨upd_self ..,upd_self ..,upd_self ..,upd_self ..⟩
 have key:kput (ds.map λn=>(nmS n,AV.ref (W.row n))) (nmS c) (.ref a4)=(ds ++ [c]).map (λn=>(nmS n,.ref ((W.put c a4 a1 a2 a3).row n))):=by
  rw[kput_new,List.map_append]
  ·refine congr (congrArg _ (List.map_congr_left λn hm=>by rw[(rw' n hm).1])) ?_
   show _=[(nmS c,AV.ref ((W.put c a4 a1 a2 a3).row c))]
   rw[rc.1]
  ·rw[List.any_eq_false]
   intro p hp
   (refine xEA (List.mem_map.mp hp) λn hm=>?_;rintro rfl)
   exact λz=>old n hm (nmS_inj (hd n hm) hc (of_decide_eq_true z))
 have ecs:(ds ++ [c]).reverse.flatMap (rowAd (W.put c a4 a1 a2 a3)) ++ [md,mods,L.th,L.wd,made]=a4 :: a3 :: a2 :: a1 :: (ds.reverse.flatMap (rowAd W) ++ [md,mods,L.th,L.wd,made]):=by
  rw[List.reverse_append,List.reverse_singleton,List.singleton_append,List.flatMap_cons]
  have:ds.reverse.flatMap (rowAd (W.put c a4 a1 a2 a3))=ds.reverse.flatMap (rowAd W):=flat_congr λn hm=>by
   refine xAAA (rw' n (List.mem_reverse.mp hm)) λq1 q2 q3 q4=>?_
   unfold rowAd;(refine rE q1 ?_;refine rE q2 ?_;refine rE q3 ?_;exact rE q4 rfl)
  refine rE this ?_
  unfold rowAd
  (refine rE rc.1 ?_;refine rE rc.2.1 ?_;refine rE rc.2.2.1 ?_;refine rE rc.2.2.2 ?_);rfl
 have mm:md∈ds.reverse.flatMap (rowAd W) ++ [md,mods,L.th,L.wd,made]:=List.mem_append_right _ (.head _)
 have nd:=h.sc.nd
 have ndm:md≠made:=λz=>by
  have:=(List.nodup_append.mp nd).2.1
  rw[List.nodup_cons] at this
  exact this.1 (by refine rE z ?_;simp)
 have apart:∀b,b∈ds.reverse.flatMap (rowAd W)→b≠md:=λb hb z=>(List.nodup_append.mp nd).2.2 b hb md (.head _) z
 have inF:∀n∈ds,∀b∈rowAd W n,b∈ds.reverse.flatMap (rowAd W):=λn hm b hb=>List.mem_flatMap.mpr ⟨n,List.mem_reverse.mpr hm,hb⟩
 have n4:∀{b o},τ4 b=some o→b≠md→∀o',up τ4 md o' b=some o:=λe n o'=>(up_ne n).trans e
 have mne:∀{b o},τ4 b=some o→(∀l,o≠.sdict l)→b≠md:=λe n z=>by rw[z,h4.md] at e;injection e with e;exact n _ e.symm
 refine ⟨key,h4.md,?_,up_self ..,λn hm=>?_,n4 h4.mods (λz=>?_) _,?_,h.ver,h.made⟩
 ·refine rE ecs ?_
  exact s4.turn (.tail _ (.tail _ (.tail _ (.tail _ mm)))) h4.md (λC d fs z=>by exact nC AO.ctorIdx z rfl) (by refine rE h.made ?_;exact ndm)
 ·rcases List.mem_append.mp hm with hm|hm
  ·refine xAAA (rw' n hm) λq1 q2 q3 q4=>?_
   refine xAAA (h4.row n hm) λp1 p2 p3 p4=>?_
   have ap:=λb hb=>apart b (inF n hm b hb)
   unfold row0
   (refine rE q1 ?_;refine rE q2 ?_;refine rE q3 ?_;refine rE q4 ?_)
   exact iAAA (n4 p1 (ap _ (.head _)) _) (n4 p2 (ap _ (.tail _ (.tail _ (.tail _ (.head _))))) _) (n4 p3 (ap _ (.tail _ (.tail _ (.head _)))) _) (n4 p4 (ap _ (.tail _ (.head _))) _)
  ·refine rE (List.mem_singleton.mp hm) ?_
   unfold row0
   (refine rE rc.1 ?_;refine rE rc.2.1 ?_;refine rE rc.2.2.1 ?_;refine rE rc.2.2.2 ?_)
   have m4:=h.md
   have nn:∀{b o τ'},Fresh τ' b→τ' md=some o→b≠md:=λf e=>f.ne e
   exact iAAA (n4 t4 (nn f4 (k3 _ _ (k2 _ _ (k1 _ _ m4 not_false) not_false) not_false)) _) (n4 u1 (nn f1 m4) _) (n4 u2 (nn f2 (k1 _ _ m4 not_false)) _) (n4 u3 (nn f3 (k2 _ _ (k1 _ _ m4 not_false) not_false)) _)
 ·have:=(List.nodup_append.mp nd).2.1
  rw[List.nodup_cons] at this
  exact this.1 (by refine rL z ?_;simp)
 ·refine xEEE h4.th λd i f e=>?_
  exact ⟨d,i,f,n4 e (mne e λ_ z=>by exact nC AO.ctorIdx z rfl) _⟩
inductive RtR (σ:AH):List AV→List Nd→Prop
 |nil:RtR σ [] []
 |cons {t:Addr} {xs:List AV} {n:Nd} {ns:List Nd} (h:σ t=some (.tup [sv n,parS n])) (r:RtR σ xs ns):RtR σ (.ref t :: xs) (n :: ns)
theorem RtR.keep {xs:List AV} {ns:List Nd} (h:RtR σ xs ns) (k:∀t ys,σ t=some (.tup ys)→τ t=some (.tup ys)):RtR τ xs ns:=by
 induction h with
 |nil=>exact .nil
 |cons h _ ih=>exact .cons (k _ _ h) ih
noncomputable abbrev spL:List Nd:=[.M,.N,.A,.B,.T]
theorem spL_spot:∀n∈spL,spot n:=by
 intro n hn
 simp only[List.mem_cons,List.not_mem_nil,or_false] at hn
 rcases hn with rfl|rfl|rfl|rfl|rfl<;>exact ⟨dE rfl,dE rfl,dE rfl⟩
inductive h50I (σ:AH) (L:Ly) (g:WF) (kvs:List (Str×AV)) (mods md l u1 u2 u3 u4 u5:Addr) (rest:List AV) (ρ:Loc) (τ:AH):Prop
 |mk (ds ms W o1 o2) (h1:RtR τ rest ms) (h2:spL=ds ++ ms) (h3:ρ=sL (some (.ref L.wd)) (some (.ref mods)) (some (.ref L.th)) (some (.ref md)) o1 o2) (h4:Mi σ mods g.made md ds W τ g kvs L) (h5:τ l=some (.list [.ref u1,.ref u2,.ref u3,.ref u4,.ref u5])):h50I σ L g kvs mods md l u1 u2 u3 u4 u5 rest ρ τ
theorem c_scene (kit:Kit prog w K B) {d:Nat} (q:∀a mods made md W τ g kvs L,Mi σ mods made md spL W τ g kvs L→τ a=some (.tup [.ref L.wd,.ref mods,.ref md,.ref L.th])→Q (.ref a) τ) :
 CallOK prog w B (d + 40) 966 [] σ Q X:=by
 refine c_scene0 kit λmods τ g kvs L h=>?_
 intro md τ₁ hm e
 have s1:=h.sc.new hm e
 obtain ⟨k1,t1⟩:=new1 hm e
 clear e
 have p1:Sc σ 6 [md,mods,L.th,L.wd,g.made] τ₁ g kvs L:=s1.perm (.cons _ (.swap ..))
 have m0:Mi σ mods g.made md [] ⟨0,λ_=>0,λ_=>0,λ_=>0,λ_=>0⟩ τ₁ g kvs L:=⟨p1,t1,(λn hn=>by cases hn),k1 _ _ h.mods not_false,by refine xEEE h.th λd i f e=>?_;exact ⟨d,i,f,k1 _ _ e not_false⟩,h.ver,rfl⟩
 clear s1 p1
 intro u1 τ₂ h2 e2
 obtain ⟨k2,t2⟩:=new1 h2 e2
 intro u2 τ₃ h3 e3
 obtain ⟨k3,t3⟩:=new1 h3 e3
 intro u3 τ₄ h4 e4
 obtain ⟨k4,t4⟩:=new1 h4 e4
 intro u4 τ₅ h5 e5
 obtain ⟨k5,t5⟩:=new1 h5 e5
 intro u5 τ₆ h6 e6
 obtain ⟨k6,t6⟩:=new1 h6 e6
 intro l τ₇ h7 e7
 obtain ⟨k7,tl⟩:=new1 h7 e7
 clear e2 e3 e4 e5 e6 e7
 have rt:RtR τ₇ [.ref u1,.ref u2,.ref u3,.ref u4,.ref u5] spL:=.cons ((((((k3.trans k4).trans k5).trans k6).trans k7) _ _ t2 not_false)) (.cons ((((k4.trans k5).trans k6).trans k7) _ _ t3 not_false) (.cons (((k5.trans k6).trans k7) _ _ t4 not_false) (.cons ((k6.trans k7) _ _ t5 not_false) (.cons (k7 _ _ t6 not_false) .nil))))
 have m7:=m0.keep (((((k2.trans k3).trans k4).trans k5).trans k6).trans k7)
 refine .inl ⟨_,rd_of tl,(dE rfl:5≤100000),?_⟩
 refine ⟨h50I σ L g kvs mods md l u1 u2 u3 u4 u5,?_,?_,?_⟩
 ·exact ⟨[],spL,_,none,none,rt,rfl,by rfl,m7,tl⟩
 ·rintro ρ τ ⟨ds,ms,W,o1,o2,r1,r2,rfl,r3,r4⟩
  refine ⟨rd_of r4,?_⟩
  have:ms=[]:=by cases r1;rfl
  rw[this,List.append_nil] at r2
  subst r2
  intro a τ₈ h8 e8
  obtain ⟨k8,t8⟩:=new1 h8 e8
  exact q a mods g.made md W τ₈ g kvs L (r3.keep k8) t8
 ·rintro x rest ρ τ ⟨ds,ms,W,o1,o2,r1,r2,rfl,r3,r4⟩
  refine ⟨rd_of r4,?_⟩
  cases r1 with
  |@cons t _ c ms ht hr=>
   have hds:∀n∈ds,spot n:=λn hn=>spL_spot n (by refine rE r2 ?_;exact List.mem_append_left _ hn)
   have hcs:spot c:=spL_spot c (by refine rE r2 ?_;simp)
   have hnc:c∉ds:=λz=>by
    have nd:spL.Nodup:=dE rfl
    rw[r2] at nd
    exact (List.nodup_append.mp nd).2.2 c z c (.head _) rfl
   refine ⟨_,rd_of ht,rfl,?_⟩
   intro a1 σ1 f1 e1
   intro a2 σ2 f2 e2
   intro a3 σ3 f3 e3
   intro a4 σ4 f4 e4
   refine xAA (r3.add hds hcs hnc f1 e1 f2 e2 f3 e3 f4 e4) λkey hmd m'=>?_
   have kk:Kx NoS τ σ4:=(((new1 f1 e1).1.trans (new1 f2 e2).1).trans (new1 f3 e3).1).trans (new1 f4 e4).1
   have ld:ds.length≤5:=by have:=congrArg List.length r2;rw[List.length_append] at this;have:5=_:=this;lia
   refine si1 hmd (by refine rE (List.length_map _) ?_;lia) key ?_
   have ne:∀{b o},σ4 b=some o→(∀l,o≠.sdict l)→b≠md:=λe n z=>by rw[z,hmd] at e;injection e with e;exact n _ e.symm
   refine ⟨ds ++ [c],ms,_,some (sv c),some (parS c),hr.keep λt ys e=>(up_ne (ne (kk _ _ e not_false) λ_ z=>by exact nC AO.ctorIdx z rfl)).trans (kk _ _ e not_false),by refine rE r2 ?_;simp,by rfl,m',(up_ne (ne (kk _ _ r4 not_false) λ_ z=>by exact nC AO.ctorIdx z rfl)).trans (kk _ _ r4 not_false)⟩
noncomputable def wL (scr:Addr) (marks world modules model thing keys scene boxes at_:Option AV):Loc:=[(S "script",some (.ref scr)),(S "marks",marks),(S "world",world),(S "modules",modules),(S "model",model),(S "thing",thing),(S "keys",keys),(S "scene",scene),(S "boxes",boxes),(S "at",at_),
 (S "int",none),(S "len",none),(S "_law_scene",none),(S "dict",none),(S "range",none),(S "_law_deed_right",none),(S "_law_asked_right",none),(S "sum",none)]
noncomputable def mark1 (n:Int):Int:=(n.natAbs:Int) % 1000000000
noncomputable abbrev okM (ms:List Int):Prop:=∀m∈ms,0≤m∧m < 1000000000
theorem multL (b:Bool):((if b=true then (1:Int) else 0)=0∨(if b=true then (1:Int) else 0)=1)∧∃ys:List Int,(if (if b=true then (1:Int) else 0)=0 then [] else [AV.int 3,AV.int 0])=ys.map AV.int∧ys.length≤2∧okM ys∧(b=true→0 < ys.length):=by
 induction b with
 |true=>exact ⟨.inr rfl,[3,0],rfl,dE rfl,by intro m hm;simp at hm;rcases hm with rfl|rfl<;>decide,λ_=>dE rfl⟩
 |false=>exact ⟨.inl rfl,[],rfl,dE rfl,(by intro m hm;cases hm),λz=>by exact Bool.noConfusion z⟩
theorem c_law0 (kit:Kit prog w K B) {d:Nat} {scr:Addr} {ns:List Int} (hs:rd σ scr=some (.list (ns.map AV.int))) (hk:∀τ,Kx NoS σ τ→rd τ scr=some (.list (ns.map AV.int))) (hn:ns.length≤63)
 (q:∀mk ms τ,Kx NoS σ τ→σ mk=none→τ mk=some (.list (ms.map AV.int))→okM ms→ms.length≤12→0 < ms.length→fS prog w B (fst 84) d X 19 1 (wL scr (some (.ref mk)) none none none none none none none none) τ Q) :
 fS prog w B (fst 84) d X 20 0 (wL scr none none none none none none none none none) σ Q:=by
 have ln:(ns.map AV.int).length≤63:=by refine rE (List.length_map _) ?_;exact hn
 refine ⟨dE rfl,dE rfl,_,by lia,.inl ⟨hs,?_⟩⟩
 intro sl τ₁ h1 e1
 obtain ⟨k1,t1⟩:=new1 h1 e1
 clear e1
 have t1:τ₁ sl=some (.list ((ns.take 10).map AV.int)):=by (refine rE t1 ?_;refine rE List.map_take ?_);rfl
 have l1:(ns.take 10).length≤10:=by refine rE List.length_take ?_;lia
 refine .inl ⟨_,rd_of t1,by refine rE (List.length_map _) ?_;lia,?_⟩
 refine comp_map (f:=AV.int) (xs:=ns.take 10) (λds=>(ds.map mark1).map AV.int) (λo=>[(S ".0",none),(S "n",o),(S "abs",none)]) (λ_ _ τ=>τ₁=τ) none rfl (by rfl) rfl rfl (λo τ c=>?_) λds b bs o τ h2 c=>?_
 ·subst c
  refine ⟨rd_of t1,?_⟩
  intro a τ₂ h2' e2
  obtain ⟨k2,t2⟩:=new1 h2' e2
  clear e2
  intro b τ₃ h3 e3
  obtain ⟨k3,t3⟩:=new1 h3 e3
  clear e3
  refine ⟨_,.inl (hk _ ((k1.trans k2).trans k3)),by lia,?_⟩
  obtain ⟨m1,ys,m2,m3,m4,m5⟩:=multL (decide (((ns.map AV.int).length:Int) < 2))
  refine ⟨_,rd_of t3,(by intro z;exact nC List.ctorIdx z rfl),(dE rfl:2≤1000),m1,?_⟩
  refine rE m2 ?_
  intro c τ₄ h4 e4
  obtain ⟨k4,t4⟩:=new1 h4 e4
  clear e4
  have kk:=(k3.trans k4)
  have l2:((ns.take 10).map mark1).length≤10:=by refine rE (List.length_map _) ?_;exact l1
  refine ⟨_,_,?_,.inl ⟨rd_of (kk _ _ t2 not_false),rd_of t4,?_⟩⟩
  ·simp only[List.length_map] at l2 ⊢;lia
  ·intro mk τ₅ h5 e5
   obtain ⟨k5,t5⟩:=new1 h5 e5
   have k14:Kx NoS σ τ₄:=((k1.trans k2).trans kk)
   have z:=q mk ((ns.take 10).map mark1 ++ ys) τ₅ (k14.trans k5) (k14.none h5.no not_false) (by (refine rE t5 ?_;exact rE List.map_append rfl)) (λm hm=>?_) (by rw[List.length_append];lia) ?_
   ·exact z
   ·rcases List.mem_append.mp hm with hm|hm
    ·(refine xEA (List.mem_map.mp hm) λn _=>?_;rintro rfl)
     unfold mark1;lia
    ·exact m4 m hm
   ·rw[List.length_append,List.length_map,List.length_take]
    by_cases z:ns.length < 2
    ·have:=m5 (decide_eq_true (by rw[List.length_map];lia));lia
    ·lia
 ·subst c
  refine ⟨rd_of t1,?_⟩
  refine ⟨rfl,rfl,?_⟩
  refine ⟨dE rfl,?_⟩
  refine ⟨?_,CMap.next h2 (some (.int b)) (by rfl) (by (refine rE List.map_append ?_;refine rE List.map_append ?_);rfl) rfl⟩
  rw[List.length_map,List.length_map]
  have:=congrArg List.length h2
  rw[List.length_append] at this
  lia
end
structure Mk (σ0:AH) (es:List Addr) (mods made md:Addr) (mo:AO) (W:Lw) (σ:AH) (g:WF) (kvs:List (Str×AV)) (L:Ly):Prop where
 sc:Sc σ0 6 (es ++ (spL.reverse.flatMap (rowAd W) ++ [md,mods,L.th,L.wd,made])) σ g kvs L
 md:σ md=some (.sdict (spL.map λn=>(nmS n,.ref (W.row n))))
 row:∀n∈spL,σ (W.row n)=some (.sdict (row0 W n))∧σ (W.df n)=some (.sdict [])∧σ (W.mx n)=some (.list [])∧σ (W.ah n)=some (.list [])
 mods:σ mods=some mo
 th:∃d i f,σ L.th=some (.inst 40 d (tfo i (L.ref .B) f (L.ref .T)))
 ver:g.ver=1
 made:g.made=made
section
variable {prog:Program} {w:World} {K:Frag} {B:Heap} {σ0 σ τ:AH} {Q X:Post} {g:WF} {kvs:List (Str×AV)} {L:Ly} {es:List Addr} {mods made md:Addr} {W:Lw} {mo:AO}
theorem Mk.keep (h:Mk σ0 es mods made md mo W σ g kvs L) (k:Kx NoS σ τ):Mk σ0 es mods made md mo W τ g kvs L:=by
 refine ⟨h.sc.keep k,k _ _ h.md not_false,λn hn=>?_,k _ _ h.mods not_false,?_,h.ver,h.made⟩
 ·refine xAAA (h.row n hn) λa b c d=>?_
  exact iAAA (k _ _ a not_false) (k _ _ b not_false) (k _ _ c not_false) (k _ _ d not_false)
 ·refine xEEE h.th λd i f e=>?_
  exact ⟨d,i,f,k _ _ e not_false⟩
theorem Mi.toMk (h:Mi σ0 mods made md spL W σ g kvs L):Mk σ0 [] mods made md (.sdict (mdsO L)) W σ g kvs L:=⟨h.sc,h.md,h.row,h.mods,h.th,h.ver,h.made⟩
theorem Mk.turn (h:Mk σ0 es mods made md mo W σ g kvs L) (hm:∀C d fs,mo≠.inst C d fs) (mo':AO):Mk σ0 es mods made md mo' W (up σ mods mo') g kvs L:=by
 have nd:=(List.nodup_append.mp h.sc.nd).2.1
 have n2:=(List.nodup_append.mp nd).2.1
 have nmd:md≠mods:=λz=>by rw[List.nodup_cons] at n2;exact n2.1 (by refine rE z ?_;simp)
 have n3:=(List.nodup_cons.mp n2).2
 have nma:mods≠made:=λz=>by rw[List.nodup_cons] at n3;exact n3.1 (by refine rE z ?_;simp)
 have ap:∀n∈spL,∀b∈rowAd W n,b≠mods:=λn hn b hb z=>(List.nodup_append.mp nd).2.2 b (List.mem_flatMap.mpr ⟨n,List.mem_reverse.mpr hn,hb⟩) mods (.tail _ (.head _)) z
 refine ⟨h.sc.turn (List.mem_append_right _ (List.mem_append_right _ (.tail _ (.head _)))) h.mods (λC d fs z=>absurd z (hm C d fs)) (by refine rE h.made ?_;exact nma),(up_ne nmd).trans h.md,λn hn=>?_,up_self ..,?_,h.ver,h.made⟩
 ·refine xAAA (h.row n hn) λa b c d=>?_
  exact iAAA ((up_ne (ap n hn _ (.head _))).trans a) ((up_ne (ap n hn _ (.tail _ (.tail _ (.tail _ (.head _)))))).trans b) ((up_ne (ap n hn _ (.tail _ (.tail _ (.head _))))).trans c) ((up_ne (ap n hn _ (.tail _ (.head _)))).trans d)
 ·refine xEEE h.th λd i f e=>?_
  exact ⟨d,i,f,(up_ne λz=>by rw[z,h.mods] at e;injection e with e;exact hm _ _ _ e).trans e⟩
theorem Mk.new (h:Mk σ0 es mods made md mo W σ g kvs L) {b:Addr} {o:AO} (hb:Fresh σ b) (e:τ=up σ b o):Mk σ0 (b :: es) mods made md mo W τ g kvs L:=by
 have h1:=h.keep (new1 hb e).1
 exact ⟨h.sc.new hb e,h1.md,h1.row,h1.mods,h1.th,h1.ver,h1.made⟩
theorem Mk.turnE (h:Mk σ0 es mods made md mo W σ g kvs L) {b:Addr} {o:AO} (hb:b∈es) (e:σ b=some o) (hn:∀C d fs,o≠.inst C d fs) (o':AO):Mk σ0 es mods made md mo W (up σ b o') g kvs L:=by
 have ap:∀c∈spL.reverse.flatMap (rowAd W) ++ [md,mods,L.th,L.wd,made],c≠b:=λc hc z=>(List.nodup_append.mp h.sc.nd).2.2 b hb c hc z.symm
 have ar:∀n∈spL,∀c∈rowAd W n,c≠b:=λn hn c hc=>ap c (List.mem_append_left _ (List.mem_flatMap.mpr ⟨n,List.mem_reverse.mpr hn,hc⟩))
 have at_:∀c∈[md,mods,L.th,L.wd,made],c≠b:=λc hc=>ap c (List.mem_append_right _ hc)
 refine ⟨h.sc.turn (List.mem_append_left _ hb) e (λC d fs z=>absurd z (hn C d fs)) (by refine rE h.made ?_;exact (at_ _ (by simp)).symm),(up_ne (at_ _ (by simp))).trans h.md,λn hm=>?_,(up_ne (at_ _ (by simp))).trans h.mods,?_,h.ver,h.made⟩
 ·refine xAAA (h.row n hm) λa b c d=>?_
  exact iAAA ((up_ne (ar n hm _ (.head _))).trans a) ((up_ne (ar n hm _ (.tail _ (.tail _ (.tail _ (.head _)))))).trans b) ((up_ne (ar n hm _ (.tail _ (.tail _ (.head _))))).trans c) ((up_ne (ar n hm _ (.tail _ (.head _)))).trans d)
 ·refine xEEE h.th λd i f e'=>?_
  exact ⟨d,i,f,(up_ne (at_ _ (by simp))).trans e'⟩
inductive KpR (L:Ly) (σ:AH):List AV→List Nd→Prop
 |nil:KpR L σ [] []
 |cons {t:Addr} {xs:List AV} {n:Nd} {ns:List Nd} (h:σ t=some (.tup [.int (L.mf n).num,sv n])) (r:KpR L σ xs ns):KpR L σ (.ref t :: xs) (n :: ns)
theorem KpR.keep {xs:List AV} {ns:List Nd} (h:KpR L σ xs ns) (k:∀t ys,σ t=some (.tup ys)→τ t=some (.tup ys)):KpR L τ xs ns:=by
 induction h with
 |nil=>exact .nil
 |cons h _ ih=>exact .cons (k _ _ h) ih
theorem KpR.snoc {xs:List AV} {ns:List Nd} {t:Addr} {n:Nd} (h:KpR L σ xs ns) (ht:σ t=some (.tup [.int (L.mf n).num,sv n])):KpR L σ (xs ++ [.ref t]) (ns ++ [n]):=by
 induction h with
 |nil=>exact .cons ht .nil
 |cons h _ ih=>exact .cons h ih
theorem KpR.len {xs:List AV} {ns:List Nd} (h:KpR L σ xs ns):xs.length=ns.length:=by
 induction h with
 |nil=>rfl
 |cons _ _ ih=>(refine rE List.length_cons ?_;refine rE List.length_cons ?_;exact rE ih rfl)
theorem KpR.at_ {xs:List AV} {ns:List Nd} (h:KpR L σ xs ns):∀(i:Nat) (y:AV),xs[i]?=some y→∃(k:Int) (x:AV) (t:Addr),(ns.map λn=>((L.mf n).num,sv n))[i]?=some (k,x)∧y=AV.ref t∧rd σ t=some (.tup [.int k,x]):=by
 induction h with
 |nil=>intro i y e;simp at e
 |@cons t xs n ns h _ ih=>
  intro i y e
  induction i using Nat.casesOn with
  |zero=>
   simp only[List.getElem?_cons_zero,Option.some.injEq] at e
   exact ⟨(L.mf n).num,sv n,t,rfl,e.symm,rd_of h⟩
  |succ i=>
   simp only[List.getElem?_cons_succ] at e
   exact ih i y e
theorem kget_map (f:Nd→Int) {n:Nd}:∀{l:List Nd},n∈l→(∀a∈l,f a=f n→a=n)→kget (l.map λa=>(f a,sv a)) (f n)=some (sv n):=by
 intro l
 induction l with
 |nil=>intro hn;cases hn
 |cons a l ih=>
  intro hn inj
  unfold kget
  (refine rE List.map_cons ?_;refine rE (List.find?_cons) ?_)
  by_cases z:f a=f n
  ·(refine rE (inj a (.head _) z) ?_;refine rE (decide_eq_true rfl) ?_);rfl
  ·refine rE (decide_eq_false z) ?_
   exact ih ((List.mem_cons.mp hn).resolve_left λq=>z (by exact rE q rfl)) λb hb e=>inj b (.tail _ hb) e
theorem rk6 (n:Nd):rk n < 6:=by induction n<;>exact dE rfl
inductive h52I (σ:AH) (L:Ly) (mods:Addr) (ep:Nat) (rest:List AV) (acc:List AV) (ρ:Loc) (τ:AH):Prop
 |mk (ds ms o) (h1:rest=ms.map sv) (h2:spL=ds ++ ms) (h3:KpR L τ acc ds) (h4:ρ=[(S ".0",none),(S "spot",o),(S "modules",some (.ref mods))]) (h5:Kx NoS (up σ mods (.lock ep (mdsO L))) τ):h52I σ L mods ep rest acc ρ τ
theorem c_law2 (kit:Kit prog w K B) {d:Nat} {scr mk:Addr} (h:Mk σ0 es mods made md (.sdict (mdsO L)) W σ g kvs L)
 (q:∀ks τ,Mk σ0 (ks :: es) mods made md (.sdict (mdsO L)) W τ g kvs L→KeyR L τ ks→Kx (λc=>c=mods) σ τ→fS prog w B (fst 84) d X 17 3 (wL scr (some (.ref mk)) (some (.ref L.wd)) (some (.ref mods)) (some (.ref md)) (some (.ref L.th)) (some (.ref ks)) none none none) τ Q) :
 fS prog w B (fst 84) d X 18 2 (wL scr (some (.ref mk)) (some (.ref L.wd)) (some (.ref mods)) (some (.ref md)) (some (.ref L.th)) none none none none) σ Q:=by
 refine .inr (.inr ⟨_,h.mods,λep=>?_⟩)
 have h1:=h.turn (λC d fs z=>by exact nC AO.ctorIdx z rfl) (.lock ep (mdsO L))
 refine ⟨h52I σ L mods ep,?_,?_,?_⟩
 ·exact ⟨[],spL,none,rfl,rfl,.nil,by rfl,Kx.refl _ _⟩
 ·rintro acc ρ τ ⟨ds,ms,o,r1,r2,r3,rfl,k⟩
  refine ⟨k _ _ (up_self ..) not_false,?_⟩
  have:ms=[]:=by induction ms using List.casesOn with|nil=>rfl|cons _ _=>cases r1
  rw[this,List.append_nil] at r2
  subst r2
  have h2:=h1.keep k
  have h3:=h2.turn (λC d fs z=>by exact nC AO.ctorIdx z rfl) (.sdict (mdsO L))
  have r4:KpR L (up τ mods (.sdict (mdsO L))) acc spL:=r3.keep λt ys e=>(up_ne λz=>by rw[z,h2.mods] at e;exact nC AO.ctorIdx (sJ e) rfl).trans e
  intro l τ₂ hl e
  obtain ⟨k2,tl⟩:=new1 hl e
  clear e
  have lx:=r3.len
  have lx:acc.length=5:=lx
  have nd:((spL.map λn=>((L.mf n).num,sv n)).map (·.1)).Nodup:=by
   refine rE List.map_map ?_
   have dn:spL.Nodup:=dE rfl
   refine List.pairwise_map.mpr (dn.imp λ{a b} ne e=>ne (h.sc.st.num a b (rk6 a) (rk6 b) e))
  refine ⟨acc,rd_of tl,spL.map λn=>((L.mf n).num,sv n),(r4.keep λt ys e=>k2 _ _ e not_false).at_,by refine rE lx ?_;rfl,nd,(dE rfl:5≤900),?_⟩
  intro ks τ₃ hk e3
  obtain ⟨k3,tk⟩:=new1 hk e3
  have kk:Kx (λc=>c=mods) σ τ₃:=(((up_kx (o:=.lock ep (mdsO L))).trans (k.mono λ_ z=>z.elim)).trans up_kx).trans ((k2.trans k3).mono λ_ z=>z.elim)
  exact q ks τ₃ ((h3.keep k2).new hk e3) ⟨_,tk,λn hn=>kget_map (λn=>(L.mf n).num) (by induction n with|O=>exact absurd rfl hn.1|K=>exact absurd rfl hn.2.1|X=>exact absurd rfl hn.2.2|_=>exact dE rfl) λa _ e=>h.sc.st.num a n (rk6 a) (rk6 n) e⟩ kk
 ·rintro x rest acc ρ τ ⟨ds,ms,o,r1,r2,r3,rfl,k⟩
  refine ⟨k _ _ (up_self ..) not_false,?_⟩
  obtain ⟨n,ms,rfl⟩:∃b r,ms=b :: r:=by induction ms using List.casesOn with|nil=>cases r1|cons b r=>exact ⟨b,r,rfl⟩
  obtain ⟨r1,r1'⟩:=List.cons.inj r1
  subst r1 r1'
  have hn:spot n:=spL_spot n (by refine rE r2 ?_;simp)
  have h2:=h1.keep k
  refine ⟨_,rd_of h2.mods,_,mds_get L hn,?_⟩
  refine at1 (h2.sc.st.std n (rk6 n)).inst (by rfl) (x:=.int (L.mf n).num) (by rfl) ?_
  intro t τ' ht e
  obtain ⟨k',t'⟩:=new1 ht e
  clear e
  have ld:=congrArg List.length r2
  rw[List.length_append] at ld
  have ld:5=ds.length + (n :: ms).length:=ld
  refine ⟨by refine rE r3.len ?_;lia,ds ++ [n],ms,some (sv n),rfl,by refine rE r2 ?_;simp,(r3.keep λt ys e=>k' _ _ e not_false).snoc t',by rfl,k.trans k'⟩
theorem nodup_map_inj {α β:Type} {f:α→β}:∀{l:List α},(l.map f).Nodup→∀a∈l,∀b∈l,f a=f b→a=b:=by
 intro l
 induction l with
 |nil=>intro _ a ha;cases ha
 |cons x l ih=>
  intro nd a ha b hb e
  rw[List.map_cons,List.nodup_cons] at nd
  rcases List.mem_cons.mp ha with z|z<;>rcases List.mem_cons.mp hb with z'|z'
  ·(refine rE z ?_;exact rE z' rfl)
  ·rw[z] at e;exact absurd (List.mem_map.mpr ⟨b,z',e.symm⟩) nd.1
  ·rw[z'] at e;exact absurd (List.mem_map.mpr ⟨a,z,e⟩) nd.1
  ·exact ih nd.2 a z b z' e
noncomputable def TL:List Tg:=[.mk,.bxs,.cnt,.ask,.sc,.keys] ++ (spL.reverse.flatMap λn=>[.row n,.ah n,.mx n,.df n]) ++ [.md,.mods]
theorem TL_mem:∀t,okT t→t∈TL:=by
 have h:∀n,spot n→Tg.row n∈TL∧Tg.ah n∈TL∧Tg.mx n∈TL∧Tg.df n∈TL:=λn hn=>by
  have hn:n∈spL:=by induction n with|O=>exact absurd rfl hn.1|K=>exact absurd rfl hn.2.1|X=>exact absurd rfl hn.2.2|_=>exact dE rfl
  have:∀t∈[Tg.row n,.ah n,.mx n,.df n],t∈TL:=λt ht=>List.mem_append_left _ (List.mem_append_right _ (List.mem_flatMap.mpr ⟨n,List.mem_reverse.mpr hn,ht⟩))
  exact iAAA (this _ (.head _)) (this _ (.tail _ (.head _))) (this _ (.tail _ (.tail _ (.head _)))) (this _ (.tail _ (.tail _ (.tail _ (.head _)))))
 intro t ht
 induction t with
 |row n=>exact (h n ht).1
 |ah n=>exact (h n ht).2.1
 |mx n=>exact (h n ht).2.2.1
 |df n=>exact (h n ht).2.2.2
 |mk=>exact List.mem_append_left _ (List.mem_append_left _ (.head _))
 |bxs=>exact List.mem_append_left _ (List.mem_append_left _ (.tail _ (.head _)))
 |cnt=>exact List.mem_append_left _ (List.mem_append_left _ (.tail _ (.tail _ (.head _))))
 |ask=>exact List.mem_append_left _ (List.mem_append_left _ (.tail _ (.tail _ (.tail _ (.head _)))))
 |sc=>exact List.mem_append_left _ (List.mem_append_left _ (.tail _ (.tail _ (.tail _ (.tail _ (.head _))))))
 |keys=>exact List.mem_append_left _ (List.mem_append_left _ (.tail _ (.tail _ (.tail _ (.tail _ (.tail _ (.head _)))))))
 |md=>exact List.mem_append_right _ (.head _)
 |mods=>exact List.mem_append_right _ (.tail _ (.head _))
noncomputable def s0 (g:WF) (kvs:List (Str×AV)):Gs:=⟨λn=>if n=.O then [.K] else [],λ_=>[],λ_=>false,λ_ _=>none,λ_=>.none,g,kvs⟩
noncomputable def t0 (g:WF):Ts:=⟨0,g.ver,λ_=>none,λ_=>⟨none,none,0,0⟩,λ_=>0⟩
theorem subs0 (n:Nd):subs (s0 g kvs) n=if n=.O then [.K] else []:=rfl
theorem sok0:SOK (s0 g kvs):=by
 refine ⟨λn m h=>?_,λn=>⟨?_,List.nodup_nil⟩,⟨by refine rE (subs0 _) ?_;decide,by refine rE (subs0 _) ?_;decide,.inl (by refine rE (subs0 _) ?_;exact dE rfl)⟩,⟨rfl,rfl⟩,⟨rfl,rfl⟩,λn _ k=>rfl⟩
 ·rw[subs0] at h
  by_cases z:n=.O
  ·rw[if_pos z] at h
   exact .inr (.inr ⟨z,List.mem_singleton.mp h⟩)
  ·rw[if_neg z] at h;cases h
 ·show (if n=NdP.O then [NdP.K] else []).Nodup
  split<;>simp
theorem si_start {sc ks ask cnt bxs mk scr:Addr} {sx:List AV} {vx:List Value} {nx:Nat} {ms:List Int} {bx:Nat→Addr} (h:Mk σ0 [bxs,cnt,ask,sc,ks] mods made md (.sdict (mdsO L)) W σ g kvs L) (hm0:σ0 mk≠none) (hm:σ mk=some (.list (ms.map AV.int))) (hml:0 < ms.length)
 (hk:KeyR L σ ks) (hsc:σ sc=some (.sdict (scO L ⟨{ W with md:=md },sc,mods,ks,ask,cnt,bxs,mk,ms,scr,sx,vx,nx,bx⟩ 0))) (ha:σ ask=some (.list [.none,.none,.none])) (hc:σ cnt=some (.list [.int 0,.int 0,.int 0])) (hb:σ bxs=some (.list [.ref (bx 0),.ref (bx 1),.ref (bx 2)]))
 (hx:∀i,i < 3→BxR L σ (bx i) ⟨none,none,0,0⟩) (hne:∀i j,i < 3→j < 3→bx i=bx j→i=j) (tab:σ 980=some (.tab tq1)∧σ 987=some (.tab tq2)) (fx:σ scr=some (.fix sx vx nx)) :
 SI L ⟨{ W with md:=md },sc,mods,ks,ask,cnt,bxs,mk,ms,scr,sx,vx,nx,bx⟩ (s0 g kvs) (t0 g) σ:=by
 have std:=λn=>h.sc.st.std n (rk6 n)
 have sh:=λn=>h.sc.st.sh n (rk6 n)
 have mkn:mk∉[bxs,cnt,ask,sc,ks] ++ (spL.reverse.flatMap (rowAd W) ++ [md,mods,L.th,L.wd,made]):=λz=>hm0 (h.sc.c0 _ z)
 have nd:(mk :: ([bxs,cnt,ask,sc,ks] ++ (spL.reverse.flatMap (rowAd W) ++ [md,mods,L.th,L.wd,made]))).Nodup:=List.nodup_cons.mpr ⟨mkn,h.sc.nd⟩
 let Y:Lx:=⟨{ W with md:=md },sc,mods,ks,ask,cnt,bxs,mk,ms,scr,sx,vx,nx,bx⟩
 have eT:mk :: ([bxs,cnt,ask,sc,ks] ++ (spL.reverse.flatMap (rowAd W) ++ [md,mods,L.th,L.wd,made]))=TL.map Y.at_ ++ [L.th,L.wd,made]:=rfl
 rw[eT] at nd
 have inj:∀a b,okT a→okT b→Y.at_ a=Y.at_ b→a=b:=λa b ha hb e=>nodup_map_inj (List.nodup_append.mp nd).1 a (TL_mem a ha) b (TL_mem b hb) e
 have inT:∀a,okT a→Y.at_ a∈TL.map Y.at_:=λa ha=>List.mem_map.mpr ⟨a,TL_mem a ha,rfl⟩
 have off:∀a,okT a→∀b∈[L.th,L.wd,made],Y.at_ a≠b:=λa ha b hb=>(List.nodup_append.mp nd).2.2 _ (inT a ha) b hb
 have inC:∀a,okT a→Y.at_ a=mk∨Y.at_ a∈[bxs,cnt,ask,sc,ks] ++ (spL.reverse.flatMap (rowAd W) ++ [md,mods,L.th,L.wd,made]):=λa ha=>by
  have:=List.mem_append_left [L.th,L.wd,made] (inT a ha)
  rw[←eT] at this
  exact List.mem_cons.mp this
 have spm:∀n,spot n→n∈spL:=λn hn=>by induction n with|O=>exact absurd rfl hn.1|K=>exact absurd rfl hn.2.1|X=>exact absurd rfl hn.2.2|_=>exact dE rfl
 have nO:∀n,spot n→(s0 g kvs).mx n=[]:=λn hn=>if_neg hn.1
 have emf:∀n,(s0 g kvs).mf L n=L.mf n:=λn=>by
  refine xAAAAAAA (sh n) λ_ _ _ _ _ e1 e2 _=>?_
  unfold Gs.mf
  show ({ L.mf n with frozen:=false,kept:=.none }:MF)=L.mf n
  (refine rL e1 ?_;exact rL e2 rfl)
 have lok:LOK L:=by
  refine ⟨λn m e=>h.sc.st.num n m (rk6 n) (rk6 m) e,λn=>(sh n).1,λn=>(sh n).2.1,λn=>(sh n).2.2.1,λn=>(sh n).2.2.2.1,λn=>(sh n).2.2.2.2.2.2.2,λn=>(sh n).2.2.2.2.1,λn m hs e=>h.sc.st.me n m (rk6 n) (rk6 m) hs e,λn m hs e=>h.sc.st.mx n m (rk6 n) (rk6 m) hs e,λn m hs e=>h.sc.st.ah n m (rk6 n) (rk6 m) hs e,λn m hs=>h.sc.st.mxah n m (rk6 n) (rk6 m) hs⟩
 have lsE:∀n,lsS L n=((s0 g kvs).mx n).map L.ref:=λn=>by
  show lsS L n=(if n=.O then [NdP.K] else []).map L.ref
  unfold lsS
  split<;>rfl
 have mkL:∀n,mk≠(L.mf n).mixed∧mk≠(L.mf n).ahead:=λn=>by
  obtain ⟨m,ms',e⟩:∃m r,ms=m :: r:=by induction ms using List.casesOn with|nil=>cases hml|cons m r=>exact ⟨m,r,rfl⟩
  refine ⟨λz=>?_,λz=>?_⟩
  ·have:=(std n).mx
   rw[←z,hm,e] at this
   unfold lsS at this
   split at this<;>(injection this with this;injection this with this;cases this)
  ·have:=(std n).ah
   rw[←z,hm,e] at this
   injection this with this;injection this with this;cases this
 have gi:GI L Y.Z (s0 g kvs) σ:=by
  refine ⟨lok,sok0,h.sc.bw,h.sc.bo,λn=>?_,λn=>?_,λn=>(std n).ah,λn=>⟨[],(std n).mt,⟨List.nodup_nil,(λk hk=>by cases hk),λk=>.inl ⟨rfl,rfl⟩⟩⟩,λn z=>?_,λn hs=>h.sc.st.nap n (rk6 n) hs,λn=>.inl rfl,?_,λb z=>?_,λb z q=>?_⟩
  ·refine rE (emf n) ?_;exact (std n).inst
  ·(refine rE ((std n).mx) ?_;exact rE (lsE n) rfl)
  ·exact (std n).c.2.1 (by refine rE z ?_;exact h.sc.cw.2)
  ·refine xEEE h.th λd i f e=>?_
   exact ⟨d,i,f,e⟩
  ·(refine xEA z λt ht=>?_;rintro rfl)
   rcases inC t ht with z|z
   ·exact ⟨_,by refine rE z ?_;exact hm⟩
   ·induction e:σ (Y.at_ t) with
    |none=>exact absurd e (h.sc.pr _ z)
    |some o=>exact ⟨o,rfl⟩
  ·(refine xEA z λt ht=>?_;rintro rfl)
   have o1:=off t ht L.wd (by simp)
   have o2:=off t ht made (by simp)
   rcases q with q|q|⟨n,q⟩
   ·exact o1 q
   ·exact o2 (q.trans h.made)
   ·rcases inC t ht with z|z
    ·rcases q with q|q|q|q
     ·have:=(std n).inst;rw[←q,z,hm] at this;exact nC AO.ctorIdx (sJ this) rfl
     ·have:=(std n).mt;rw[←q,z,hm] at this;exact nC AO.ctorIdx (sJ this) rfl
     ·exact (mkL n).1 (z.symm.trans q)
     ·exact (mkL n).2 (z.symm.trans q)
    ·have c:=(std n).c
     rcases q with q|q|q|q
     ·exact c.1 (q▸z)
     ·exact c.2.1 (q▸z)
     ·exact c.2.2.1 (q▸z)
     ·exact c.2.2.2 (q▸z)
 refine ⟨gi,⟨h.md,λn hn=>(h.row n (spm n hn)).1,λn hn=>⟨[],(h.row n (spm n hn)).2.1,⟨List.nodup_nil,(λk hk=>by cases hk),λk=>.inl ⟨rfl,rfl⟩⟩⟩,λn hn=>?_,λn hn=>(h.row n (spm n hn)).2.2.2⟩,
  ⟨inj,hsc,h.mods,hk,⟨_,ha,rfl,λi hi=>?_⟩,⟨_,hc,rfl,λi hi=>?_⟩,⟨_,hb,rfl,λi hi=>?_⟩,hx,hne,tab,hm,fx⟩,
  ⟨⟨by show g.ver=0 + g.ver;lia,Int.le_refl _,by show 0≤g.ver;refine rE h.ver ?_;decide⟩,(λn x E e=>by exact nn e),λi _=>rfl,(λi v n y _ e=>by exact nn e),(λi E _ e=>by exact nn e),λi _=>rfl⟩,λa ha=>?_⟩
 ·refine rE (nO n hn) ?_;exact (h.row n (spm n hn)).2.2.1
 ·match i,hi with
  |0,_=>exact iEA _ rfl rfl
  |1,_=>exact iEA _ rfl rfl
  |2,_=>exact iEA _ rfl rfl
 ·match i,hi with
  |0,_=>rfl
  |1,_=>rfl
  |2,_=>rfl
 ·match i,hi with
  |0,_=>rfl
  |1,_=>rfl
  |2,_=>rfl
 ·rcases inC a ha with z|z
  ·refine rE z ?_
   exact ⟨(λq=>by have:=h.sc.bw.nat;rw[show (s0 g kvs).g.nat=g.nat from rfl] at q;rw[←q,hm] at this;exact nC AO.ctorIdx (sJ this) rfl),(λq=>by have:=h.sc.bw.pre;rw[show (s0 g kvs).g.pre=g.pre from rfl] at q;rw[←q,hm] at this;exact nC AO.ctorIdx (sJ this) rfl)⟩
  ·exact ⟨λq=>h.sc.nc.1 (q▸z),λq=>h.sc.nc.2 (q▸z)⟩
end
section
variable {prog:Program} {w:World} {K:Frag} {B:Heap} {σ0 σ τ:AH} {Q X:Post} {g:WF} {kvs:List (Str×AV)} {L:Ly} {es:List Addr} {mods made md:Addr} {W:Lw} {Y:Lx} {s:Gs} {t:Ts}
theorem BxR.keepN {b:Addr} {x:Bx} (h:BxR L σ b x) (k:Kx NoS σ τ):BxR L τ b x:=by
 obtain ⟨d,v,n,nm,en,e,r,z⟩:=h
 exact ⟨d,v,n,nm,en,k _ _ e not_false,r.keep λe d fs he=>k _ _ he not_false,z⟩
theorem c_law7 (kit:Kit prog w K B) {d:Nat} {scr:Addr} {world modules model thing keys at_:Option AV} (h:SI L Y s t σ) (q:∀τ s' t',SI L Y s' t' τ→Q (.bool true) τ) :
 fS prog w B (fst 84) (d + 40) X 13 7 (wL scr (some (.ref Y.mk_)) world modules model thing keys (some (.ref Y.sc)) (some (.ref Y.bxs)) at_) σ Q:=by
 refine ⟨Y.ms,rd_of h.sr.mkl,?_⟩
 refine ⟨dE rfl,?_⟩
 have z:=c_asked (prog:=prog) (w:=w) (B:=B) (X:=X) kit (d:=d + 20) (rest:=Y.ms.sum % 24) h (by lia) q
 exact z
theorem c_law6 (kit:Kit prog w K B) {d:Nat} {scr:Addr} {world modules model thing keys:Option AV} (h:SI L Y s t σ) (ok:okM Y.ms) (hl:Y.ms.length≤12) (q:∀τ s' t',SI L Y s' t' τ→Q (.bool true) τ) :
 fS prog w B (fst 84) (d + 40) X 14 6 (wL scr (some (.ref Y.mk_)) world modules model thing keys (some (.ref Y.sc)) (some (.ref Y.bxs)) none) σ Q:=by
 have ll:(Y.ms.map AV.int).length≤12:=by refine rE (List.length_map _) ?_;exact hl
 refine ⟨_,.inl (rd_of h.sr.mkl),by lia,?_⟩
 refine ⟨by lia,by lia,?_⟩
 refine ⟨λrest ρ τ=>∃(i:Nat) (o:Option AV) (s:Gs) (t:Ts),rest=(((List.range Y.ms.length).drop i).map λ(j:Nat)=>AV.int j)∧ρ=wL scr (some (.ref Y.mk_)) world modules model thing keys (some (.ref Y.sc)) (some (.ref Y.bxs)) o∧SI L Y s t τ,?_,?_,?_⟩
 ·refine ⟨0,none,s,t,?_,by rfl,h⟩
  show (List.range ((Y.ms.map AV.int).length:Int).toNat).map _=_
  rw[Int.toNat_natCast,List.length_map,List.drop_zero]
 ·(rintro ρ τ zz;refine xEEEEAA zz λi o s t h1=>?_;rintro rfl h2)
  refine ⟨trivial,?_⟩
  have z:=c_law7 (prog:=prog) (w:=w) (B:=B) (X:=X) kit (d:=d) (scr:=scr) (world:=world) (modules:=modules) (model:=model) (thing:=thing) (keys:=keys) (at_:=o) h2 q
  exact z
 ·(rintro x rest ρ τ zz;refine xEEEEAA zz λi o s t h1=>?_;rintro rfl h2)
  refine ⟨trivial,?_⟩
  have hi:i < Y.ms.length:=by
   have:=congrArg List.length h1
   rw[List.length_map,List.length_drop,List.length_range,List.length_cons] at this
   lia
  rw[List.drop_eq_getElem_cons (by rw[List.length_range];exact hi),List.map_cons,List.getElem_range] at h1
  obtain ⟨h1,h1'⟩:=List.cons.inj h1
  subst h1 h1'
  have hm:=ok _ (List.getElem_mem hi)
  have eg:(Y.ms.map AV.int)[((i:Int)).toNat]?=some (.int Y.ms[i]):=by
   rw[Int.toNat_natCast,List.getElem?_map,List.getElem?_eq_getElem hi];rfl
  refine .inl ⟨_,.inl (rd_of h2.sr.mkl),by lia,by lia,_,eg,?_⟩
  have z:=c_deed (prog:=prog) (w:=w) (B:=B) (X:=X) kit (d:=d) (number:=Y.ms[i]) (mark:=10 + (i:Int)) (by lia) h2 (Q:=λv τ=>v=.bool true∧∃s t,SI L Y s t τ) λτ s' t' h'=>⟨rfl,s',t',h'⟩
  refine CallOK.mono z (λv τ' ⟨e,s',t',h'⟩=>?_) λ_ _ z=>z
  subst e
  exact ⟨i + 1,some (.int i),s',t',rfl,by rfl,h'⟩
end
section
variable {prog:Program} {w:World} {K:Frag} {B:Heap} {σ0 σ τ:AH} {Q X:Post} {g:WF} {kvs:List (Str×AV)} {L:Ly} {es:List Addr} {mods made md:Addr} {W:Lw} {s:Gs} {t:Ts}
structure Ow (mk:Addr) (ms:List Int) (scr:Addr) (sx:List AV) (vx:List Value) (nx:Nat) (σ:AH):Prop where
 mkl:σ mk=some (.list (ms.map AV.int))
 ok:okM ms
 len:ms.length≤12
 pos:0 < ms.length
 tab:σ 980=some (.tab tq1)∧σ 987=some (.tab tq2)
 fx:σ scr=some (.fix sx vx nx)
theorem Ow.keep {mk scr:Addr} {ms:List Int} {sx:List AV} {vx:List Value} {nx:Nat} (h:Ow mk ms scr sx vx nx σ) (k:Kx NoS σ τ):Ow mk ms scr sx vx nx τ:=
 ⟨k _ _ h.mkl not_false,h.ok,h.len,h.pos,⟨k _ _ h.tab.1 not_false,k _ _ h.tab.2 not_false⟩,k _ _ h.fx not_false⟩
theorem Ow.kx {mk scr b:Addr} {ms:List Int} {sx:List AV} {vx:List Value} {nx:Nat} {kv:List (Str×AV)} (h:Ow mk ms scr sx vx nx σ) (e:σ b=some (.sdict kv)) (k:Kx (λc=>c=b) σ τ):Ow mk ms scr sx vx nx τ:=
 ⟨k _ _ h.mkl λz=>by (have:=h.mkl;rw[z,e] at this;exact nC AO.ctorIdx (sJ this) rfl),h.ok,h.len,h.pos,⟨k _ _ h.tab.1 λz=>by (have:=h.tab.1;rw[z,e] at this;exact nC AO.ctorIdx (sJ this) rfl),k _ _ h.tab.2 λz=>by (have:=h.tab.2;rw[z,e] at this;exact nC AO.ctorIdx (sJ this) rfl)⟩,k _ _ h.fx λz=>by (have:=h.fx;rw[z,e] at this;exact nC AO.ctorIdx (sJ this) rfl)⟩
inductive h55I (σ:AH) (L:Ly) (rest:List AV) (acc:List AV) (ρ:Loc) (τ:AH):Prop
 |mk (bs:List Addr) (o:Option AV) (h1:acc=bs.map AV.ref) (h2:bs.length + rest.length=3) (h3:bs.Nodup) (h4:(∀b∈bs,BxR L τ b ⟨none,none,0,0⟩)) (h5:ρ=[(S ".0",none),(S "turn",o),(S "CallCache",none)]) (h6:Kx NoS σ τ):h55I σ L rest acc ρ τ
theorem c_law5 (kit:Kit prog w K B) {d:Nat} {mk scr sc ks ask cnt:Addr} {ms:List Int} {sx:List AV} {vx:List Value} {nx:Nat} (ow:Ow mk ms scr sx vx nx σ) (hm0:σ0 mk≠none) (h:Mk σ0 [cnt,ask,sc,ks] mods made md (.sdict (mdsO L)) W σ g kvs L) (hk:KeyR L σ ks)
 (hsc:σ sc=some (.sdict (scO L ⟨{ W with md:=md },sc,mods,ks,ask,cnt,0,mk,ms,scr,sx,vx,nx,λ_=>0⟩ 0))) (ha:σ ask=some (.list [.none,.none,.none])) (hc:σ cnt=some (.list [.int 0,.int 0,.int 0])) (q:∀τ,τ scr=some (.fix sx vx nx)→τ 980=some (.tab tq1)→τ 987=some (.tab tq2)→Q (.bool true) τ) :
 fS prog w B (fst 84) (d + 40) X 15 5 (wL scr (some (.ref mk)) (some (.ref L.wd)) (some (.ref mods)) (some (.ref md)) (some (.ref L.th)) (some (.ref ks)) (some (.ref sc)) none none) σ Q:=by
 refine ⟨dE rfl,dE rfl,?_⟩
 refine ⟨h55I σ L,?_,?_,?_⟩
 ·exact ⟨[],none,rfl,rfl,List.nodup_nil,(λb hb=>by cases hb),by rfl,Kx.refl _ _⟩
 ·rintro acc ρ τ ⟨bs,o,rfl,h2,h3,h4,rfl,k⟩
  refine ⟨trivial,?_⟩
  intro bxs τ₁ hb e
  obtain ⟨k1,tb⟩:=new1 hb e
  have hM:=(h.keep k).new hb e
  have kk:=k.trans k1
  obtain ⟨b0,b1,b2,rfl⟩:∃a b c,bs=[a,b,c]:=by
   rcases bs with _|⟨b0,_|⟨b1,_|⟨b2,_|⟨c,r⟩⟩⟩⟩<;>first|exact ⟨_,_,_,rfl⟩|(simp only[List.length_cons,List.length_nil] at h2;lia)
  have ow1:=ow.keep kk
  have si:=si_start (bx:=λi=>([b0,b1,b2][i]?).getD 0) (ms:=ms) (scr:=scr) (sx:=sx) (vx:=vx) (nx:=nx) hM hm0 ow1.mkl ow1.pos (by obtain ⟨kd,e,r⟩:=hk;exact ⟨kd,kk _ _ e not_false,r⟩) (kk _ _ hsc not_false) (kk _ _ ha not_false) (kk _ _ hc not_false) tb (λi hi=>by
   refine rE (List.getElem?_eq_getElem (show i < [b0,b1,b2].length from hi)) ?_
   exact (h4 _ (List.getElem_mem _)).keepN k1) (λi j hi hj e=>by
   rw[List.getElem?_eq_getElem (show i < [b0,b1,b2].length from hi),List.getElem?_eq_getElem (show j < [b0,b1,b2].length from hj)] at e
   exact (List.getElem_inj h3).mp e) ow1.tab ow1.fx
  have z:=c_law6 (prog:=prog) (w:=w) (B:=B) (X:=X) (Q:=Q) kit (d:=d) (scr:=scr) (world:=some (.ref L.wd)) (modules:=some (.ref mods)) (model:=some (.ref md)) (thing:=some (.ref L.th)) (keys:=some (.ref ks)) si ow.ok ow.len λτ s' t' h'=>q τ h'.sr.fx h'.sr.tab.1 h'.sr.tab.2
  exact z
 ·rintro x rest acc ρ τ ⟨bs,o,rfl,h2,h3,h4,rfl,k⟩
  refine ⟨trivial,?_⟩
  refine c_newBox kit (L:=L) (d:=d + 38) λb τ' nb k' hb=>?_
  have lb:(bs.map AV.ref).length≤100000:=by refine rE (List.length_map _) ?_;lia
  refine ⟨lb,bs ++ [b],some x,by refine rE List.map_append ?_;rfl,by refine rE List.length_append ?_;rw[List.length_cons] at h2;show bs.length + 1 + _=3;lia,?_,λc hc=>?_,by rfl,k.trans k'⟩
  ·rw[List.nodup_append]
   refine iAA h3 (by simp) (λc hc c' hc' z=>?_)
   rw[List.mem_singleton] at hc'
   obtain ⟨d,v,n,nm,en,e,_⟩:=h4 c hc
   rw[z,hc',nb] at e;exact nn e
  ·rcases List.mem_append.mp hc with hc|hc
   ·exact (h4 c hc).keepN k'
   ·refine rE (List.mem_singleton.mp hc) ?_;exact hb
theorem c_law3 (kit:Kit prog w K B) {d:Nat} {mk scr ks:Addr} {ms:List Int} {sx:List AV} {vx:List Value} {nx:Nat} (ow:Ow mk ms scr sx vx nx σ) (hm0:σ0 mk≠none) (h:Mk σ0 [ks] mods made md (.sdict (mdsO L)) W σ g kvs L) (hk:KeyR L σ ks)
 (q:∀τ,τ scr=some (.fix sx vx nx)→τ 980=some (.tab tq1)→τ 987=some (.tab tq2)→Q (.bool true) τ) :
 fS prog w B (fst 84) (d + 40) X 17 3 (wL scr (some (.ref mk)) (some (.ref L.wd)) (some (.ref mods)) (some (.ref md)) (some (.ref L.th)) (some (.ref ks)) none none none) σ Q:=by
 intro sc τ₁ h1 e1
 obtain ⟨k1,t1⟩:=new1 h1 e1
 have m1:=h.new h1 e1
 clear e1
 intro ask τ₂ h2 e2
 obtain ⟨k2,t2⟩:=new1 h2 e2
 have m2:=m1.new h2 e2
 clear e2
 intro cnt τ₃ h3 e3
 obtain ⟨k3,t3⟩:=new1 h3 e3
 have m3:=m2.new h3 e3
 clear e3
 have tsc:=k3 _ _ (k2 _ _ t1 not_false) not_false
 have na:ask≠sc:=h2.ne t1
 have nc:cnt≠sc:=h3.ne (k2 _ _ t1 not_false)
 have nk:ks≠sc:=λz=>by obtain ⟨kd,e,_⟩:=hk;rw[z,h1.no] at e;exact nn e
 have kk:=(k1.trans k2).trans k3
 refine si1 tsc (by exact Nat.le_of_ble_eq_true rfl) (kvs':=(scO L ⟨{ W with md:=md },sc,mods,ks,ask,cnt,0,mk,ms,scr,sx,vx,nx,λ_=>0⟩ 0).take 7) (by rfl) ?_
 have m4:=m3.turnE (b:=sc) (.tail _ (.tail _ (.head _))) tsc (λC d fs z=>by exact nC AO.ctorIdx z rfl) (.sdict ((scO L ⟨{ W with md:=md },sc,mods,ks,ask,cnt,0,mk,ms,scr,sx,vx,nx,λ_=>0⟩ 0).take 7))
 have ow4:=(ow.keep kk).kx tsc (up_kx (o:=.sdict ((scO L ⟨{ W with md:=md },sc,mods,ks,ask,cnt,0,mk,ms,scr,sx,vx,nx,λ_=>0⟩ 0).take 7)))
 refine si1 (up_self ..) (by exact Nat.le_of_ble_eq_true rfl) (kvs':=scO L ⟨{ W with md:=md },sc,mods,ks,ask,cnt,0,mk,ms,scr,sx,vx,nx,λ_=>0⟩ 0) (by rfl) ?_
 have m5:=m4.turnE (b:=sc) (.tail _ (.tail _ (.head _))) (up_self ..) (λC d fs z=>by exact nC AO.ctorIdx z rfl) (.sdict (scO L ⟨{ W with md:=md },sc,mods,ks,ask,cnt,0,mk,ms,scr,sx,vx,nx,λ_=>0⟩ 0))
 have ow5:=ow4.kx (up_self ..) (up_kx (o:=.sdict (scO L ⟨{ W with md:=md },sc,mods,ks,ask,cnt,0,mk,ms,scr,sx,vx,nx,λ_=>0⟩ 0)))
 have z:=c_law5 (prog:=prog) (w:=w) (B:=B) (X:=X) (Q:=Q) kit (d:=d) ow5 hm0 m5 (by obtain ⟨kd,e,r⟩:=hk;exact ⟨kd,(up_ne nk).trans ((up_ne nk).trans (kk _ _ e not_false)),r⟩) (up_self ..) ((up_ne na).trans ((up_ne na).trans (k3 _ _ t2 not_false))) ((up_ne nc).trans ((up_ne nc).trans t3)) q
 exact z
theorem c_law (kit:Kit prog w K B) (fn:FnK K 1004 1 [] (fst 84)) {d:Nat} {scr:Addr} {ns:List Int} {vx:List Value} {nx:Nat} (hs:σ scr=some (.fix (ns.map AV.int) vx nx)) (hn:ns.length≤63) (tab:σ 980=some (.tab tq1)∧σ 987=some (.tab tq2))
 (q:∀τ,τ scr=some (.fix (ns.map AV.int) vx nx)→τ 980=some (.tab tq1)→τ 987=some (.tab tq2)→Q (.bool true) τ):CallOK prog w B (d + 41) 1004 [.ref scr] σ Q X:=by
 refine callFn (n:=20) (d:=d + 40) kit.gd kit.snd fn ?_
 have z:=c_law0 (prog:=prog) (w:=w) (B:=B) (X:=X) (Q:=Q) kit (d:=d + 40) (σ:=σ) (scr:=scr) (ns:=ns) (rd_of hs) (λτ k=>rd_of (k _ _ hs not_false)) hn λmk ms τ k nm hm ok hl hp=>?_
 ·exact z
 ·have ow:Ow mk ms scr (ns.map AV.int) vx nx τ:=⟨hm,ok,hl,hp,⟨k _ _ tab.1 not_false,k _ _ tab.2 not_false⟩,k _ _ hs not_false⟩
  refine c_scene kit (d:=d) λa mods made md W τ₁ g kvs L mi ta=>?_
  refine ⟨_,rd_of ta,rfl,?_⟩
  have k1:=mi.sc.k0
  have z:=c_law2 (prog:=prog) (w:=w) (B:=B) (X:=X) (Q:=Q) kit (d:=d + 40) (scr:=scr) (mk:=mk) mi.toMk λks τ₂ m2 hk k2=>c_law3 kit ((ow.keep k1).kx mi.mods k2) (by refine rE hm ?_;exact λz=>by exact nS z) m2 hk q
  exact z
end
inductive LitIs (P:Params):List DictEntry→List (Str×AV)→Prop
 |nil:LitIs P [] []
 |cons {k:Str} {t:Tok} {v:Value} {a:AV} {es:List DictEntry} {kvs:List (Str×AV)} (h:a.Is v) (r:LitIs P es kvs):LitIs P (⟨PyData.keyHash P k,.str k t,v⟩ :: es) ((k,a) :: kvs)
noncomputable def SoLit (P:Params) (K:Frag) (a:Addr):AO→Prop
 |.tup xs=>∃vs,K.lookup a=some (tupObj vs)∧AllIs xs vs
 |.sdict kvs=>∃es n,K.lookup a=some { cls:=.type "dict",data:=.dict es.toArray n }∧LitIs P es kvs∧(kvs.map (·.1)).Nodup
 |_=>False
noncomputable def tuK (K:Frag) (a:Addr):List Value:=match K.lookup a with
 |some ⟨_,_,.seq xs _,_⟩=>xs.toList
 |_=>[]
noncomputable def esOf (K:Frag) (a:Addr):List DictEntry×Nat:=match K.lookup a with
 |some ⟨_,_,.dict es n,_⟩=>(es.toList,n)
 |_=>([],0)
noncomputable def reE (P:Params):List (Str×AV)→List DictEntry→List DictEntry
 |(k,_) :: kvs,e :: es=>⟨PyData.keyHash P k,.str k (match e.key with|.str _ t=>t|_=>0),e.val⟩ :: reE P kvs es
 |_,_=>[]
theorem lit_of {P:Params}:∀{kvs:List (Str×AV)} {es:List DictEntry},dfB (kvs.map (·.2)) (es.map (·.val))=true→LitIs P (reE P kvs es) kvs:=by
 intro kvs
 induction kvs with
 |nil=>intro es _;exact .nil
 |cons p kvs ih=>intro es h;induction es using List.casesOn with
  |nil=>exact nF h
  |cons=>exact .cons (dfV_is (Bool.and_eq_true_iff.mp h).1) (ih (Bool.and_eq_true_iff.mp h).2)
noncomputable def SoQ (P:Params) (K:Frag) (a:Addr):Prop:=match so a with
 |some (.tup xs)=>K.lookup a=some (tupObj (tuK K a))∧dfB xs (tuK K a)=true
 |some (.sdict kvs)=>K.lookup a=some { cls:=.type "dict",data:=.dict (reE P kvs (esOf K a).1).toArray (esOf K a).2 }∧(dfB (kvs.map (·.2)) ((esOf K a).1.map (·.val)) && decide (kvs.map (·.1)).Nodup)=true
 |_=>False
theorem so_lit {P:Params} {K:Frag} {a:Addr} {o:AO} (q:SoQ P K a) (e:so a=some o):SoLit P K a o:=by
 unfold SoQ at q
 rw[e] at q
 cases o with
 |tup xs=>exact ⟨_,q.1,dfB_is q.2⟩
 |sdict kvs=>
  have z:=q.2
  rw[Bool.and_eq_true] at z
  exact ⟨_,_,q.1,lit_of z.1,of_decide_eq_true z.2⟩
 |_=>exact q.elim
theorem iteE {β:Type} {c:Prop} [Decidable c] {x o:β} {y:Option β} {G:Prop} (e:(if c then some x else y)=some o) (h:c→G) (k:y=some o→G):G:=by
 by_cases z:c
 ·exact h z
 ·rw[if_neg z] at e;exact k e
theorem so_mem {Q:Addr→Prop} (h:∀a∈[657,658,661,662,663,664,665,666,667,668],Q a) {a:Addr} {o:AO} (e:so a=some o):Q a:=by
 unfold so at e
 refine iteE e (λz=>z▸h _ (dE rfl)) λe=>iteE e (λz=>z▸h _ (dE rfl)) λe=>iteE e (λz=>z▸h _ (dE rfl)) λe=>iteE e (λz=>z▸h _ (dE rfl)) λe=>iteE e (λz=>z▸h _ (dE rfl)) λe=>iteE e (λz=>z▸h _ (dE rfl)) λe=>iteE e (λz=>z▸h _ (dE rfl)) λe=>iteE e (λz=>z▸h _ (dE rfl)) λe=>iteE e (λz=>z▸h _ (dE rfl)) λe=>iteE e (λz=>z▸h _ (dE rfl)) λe=>nn e
section
variable {prog:Program} {w:World} {K:Frag}
theorem lit_dict {P:Params} (hP:P=w.params) {h:Heap} {a:Addr} {es:List DictEntry} {kvs:List (Str×AV)} {n:Nat} (e:h.get? a=some { cls:=.type "dict",data:=.dict es.toArray n }) (l:LitIs P es kvs) (nd:(kvs.map (·.1)).Nodup):ORep prog w h a (.sdict kvs):=by
 subst hP
 have key:∃kv',KvIs kvs kv'∧Pairs (strKind prog w) es kv'∧∀e∈es,∃k,(strKind prog w).is k e.key=true∧e.hash=(strKind prog w).hash k:=by
  clear e nd
  induction l with
  |nil=>exact iEAA ([]) .nil .nil (λe he=>by cases he)
  |@cons k t v a es kvs h _ ih=>
   refine xEAA ih λkv' h1 h2 h3=>?_
   have hk:(strKind prog w).is k (.str k t)=true:=by show Value.isStrOf k (.str k t)=true;simp[Value.isStrOf]
   refine iEAA ((k,v) :: kv') (.cons h h1) (.cons hk rfl h2) (λe he=>?_)
   rcases List.mem_cons.mp he with rfl|he
   ·exact iEA k hk rfl
   ·exact h3 e he
 refine xEAA key λkv' h1 h2 h3=>?_
 exact ⟨kv',⟨_,es.toArray,n,e,⟨rfl,rfl,rfl⟩,rfl,λe he=>h3 e (by simpa using he),h2,by refine rL h1.keys ?_;exact nd⟩,h1⟩
theorem allIs_ints {vs:List Value} {ns:List Int} (h:IntsAre vs ns):AllIs (ns.map AV.int) vs:=by
 induction h with
 |nil=>exact .nil
 |cons _ _ _ ih=>exact .cons ⟨_,rfl⟩ ih
theorem law_call {p:Program} {loose:List Str} {mean:ExcName→Option Value} {mg mb:Str→Option Value} {s₁:Shared} (KX:K.In s₁.heap) (T:Top p loose mean mg mb s₁.heap) (a_fld:kFld K=true) (a_glob:kGlob K=true) (a_bi:kBi K=true) (a_meth:kMeth K=true) (a_isi:kIsi K=true) (a_cat:kCat K=true) (a_ini:kIni K=true) (a_exc:ExcK K) (a_exg:kExcGet K=true) (a_fns:Fns K) (a_law:FnK K 1004 1 [] (fst 84)) (a_so:∀a o,so a=some o→SoLit w.params K a o) (a_lfn:FnK K 959 1 [] (fst 77)) (a_lglob:nsIn K mainGlobals "_law_error"=some (some (.ref 959))) (a_lkeep:keepIn K (.ref 959)=true) (a_noT:noTabs K=true) (a_noL:(K.all λp=>p.2.cls != .type "list")=true) (a_low:(K.lookup 3).isSome=true) (a_two:(K.lookup 2).isSome=true) (hT:∀P∈[987,980],s₁.heap.get? P=some (tabObj #[])) {scr:Addr} {vs:List Value} {ns:List Int}
 (hL:s₁.heap.get? scr=some (listObj vs 0)) (hI:IntsAre vs ns) (hn:ns.length≤63) (hs:(scr == sysModules)=false) :
 codeAny (model prog w) callerA (.call (.ref 1004) ⟨[.ref scr],[]⟩) (λr s'=>r=.ok (.ret (.bool true))∧(∀b o,s₁.heap.get? b=some o→b≠987→b≠980→s'.heap.get? b=some o)∧(∃ps,s'.heap.get? 987=some (tabObj ps))∧(∃ps,s'.heap.get? 980=some (tabObj ps))∧s'.gens=s₁.gens∧s'.os=s₁.os) s₁:=by
 have t1:=hT 987 (.head _)
 have t2:=hT 980 (.tail _ (.head _))
 let B:Heap:=hideAll s₁.heap [987,980,scr]
 have off:∀b∈[987,980,scr],∃o,s₁.heap.get? b=some o∧(o=tabObj #[]∨o=listObj vs 0):=λb hb=>by
  simp only[List.mem_cons,List.not_mem_nil,or_false] at hb
  rcases hb with rfl|rfl|rfl
  ·exact iEA _ t1 (.inl rfl)
  ·exact iEA _ t2 (.inl rfl)
  ·exact iEA _ hL (.inr rfl)
 have keepB:∀{b o},s₁.heap.get? b=some o→o≠tabObj #[]→o≠listObj vs 0→B.get? b=some o:=λ{b o} e n1 n2=>hideAll_get _ e λm=>by
  refine xEA (off b m) λo' e' z=>?_
  rw[e] at e';injection e' with e'
  exact z.elim (λz=>n1 (e'.trans z)) λz=>n2 (e'.trans z)
 have XB:K.In B:=λa o e=>by
  refine keepB (KX a o e) (λq=>?_) λq=>?_
  ·have h2:=List.all_eq_true.mp a_noT (a,o) (mem_of_lookupK e)
   subst q
   exact absurd (show false=true from h2) Bool.false_ne_true
  ·have h2:=List.all_eq_true.mp a_noL (a,o) (mem_of_lookupK e)
   subst q
   simp at h2
 have nsB:∀{a:Addr} {mm:Str→Option Value},s₁.heap.Ns a mm→B.Ns a mm:=λ{a mm} x=>by
  refine xEEEAA x λo es ep e hd r=>?_
  exact ⟨o,es,ep,keepB e (λq=>by rw[q] at hd;exact nC Data.ctorIdx hd rfl) (λq=>by rw[q] at hd;exact nC Data.ctorIdx hd rfl),hd,r⟩
 have limB:B.NoLimit:=by
  refine xEA T.nolimit λmc a r=>?_
  exact ⟨mc,nsB a,r⟩
 have TR:TopRead p loose mg mb B:=⟨nsB T.g,nsB T.b,limB,T.builtins,T.free⟩
 have soB:∀a o,so a=some o→ORep prog w B a o:=λa o e=>by
  have z:=a_so a o e
  induction o with
  |tup xs=>refine xEA z λvs e1 e2=>?_;exact ⟨vs,XB _ _ e1,e2⟩
  |sdict kvs=>refine xEEAA z λes n e1 e2 e3=>?_;exact lit_dict rfl (XB _ _ e1) e2 e3
  |_=>exact z.elim
 have lowB:∃b o,2 < b∧B.get? b=some o:=by
  obtain ⟨o,e⟩:=Option.isSome_iff_exists.mp a_low
  exact iEEA 3 o (dE rfl) (XB _ _ e)
 have gd:Gd prog w K B:=⟨XB,limB,⟨p,loose,mg,mb,TR⟩,a_fld,a_glob,a_bi,a_meth,a_isi,a_cat,soB,lowB⟩
 have lk:LawK K B:=⟨a_lfn,a_lglob,a_lkeep,by
  refine xEEAAAA T.bmain λbm ob a1 a2 a3 a4 r=>?_
  exact ⟨mg,bm,ob,nsB T.g,a1,a2,keepB a3 (λq=>by rw[q] at a4;exact nC Value.ctorIdx a4 rfl) (λq=>by rw[q] at a4;have z:Value.type "list"=Value.type "module":=a4;exact absurd z (dE rfl)),a4,r⟩⟩
 have kit:Kit prog w K B:=⟨gd,snd_all gd (dict_snd gd) (λR h=>law_snd gd a_exc a_exg lk R h) (raise_snd gd a_exc),a_fns,a_ini⟩
 have n1:scr≠987:=λz=>by rw[z,t1] at hL;cases hL
 have n2:scr≠980:=λz=>by rw[z,t2] at hL;cases hL
 have n3:(987:Addr)≠980:=dE rfl
 let σ:AH:=λa=>if a=scr then some (.fix (ns.map AV.int) vs 0) else if a=980 then some (.tab tq1) else if a=987 then some (.tab tq2) else none
 have s1:σ scr=some (.fix (ns.map AV.int) vs 0):=if_pos rfl
 have s2:σ 980=some (.tab tq1):=(if_neg n2.symm).trans (if_pos rfl)
 have s3:σ 987=some (.tab tq2):=(if_neg n1.symm).trans ((if_neg n3).trans (if_pos rfl))
 have sc:∀a o,σ a=some o→(a=scr∧o=.fix (ns.map AV.int) vs 0)∨(a=980∧o=.tab tq1)∨(a=987∧o=.tab tq2):=λa o e=>by
  by_cases h1:a=scr
  ·rw[h1,s1] at e;injection e with e;exact .inl ⟨h1,e.symm⟩
  ·by_cases h2:a=980
   ·rw[h2,s2] at e;injection e with e;exact .inr (.inl ⟨h2,e.symm⟩)
   ·by_cases h3:a=987
    ·rw[h3,s3] at e;injection e with e;exact .inr (.inr ⟨h3,e.symm⟩)
    ·have:σ a=none:=(if_neg h1).trans ((if_neg h2).trans (if_neg h3))
     rw[this] at e;exact nn e
 have big:2 < scr:=by
  have h0:scr≠0:=λz=>by
   refine xEEEAA T.b λo es ep e hd _=>?_
   rw[show builtinsNs=scr from z.symm,hL] at e;(have e:=sJ e;subst e);exact nC Data.ctorIdx hd rfl
  have h1:scr≠1:=λz=>by rw[z] at hs;exact absurd hs (dE rfl)
  have h2:scr≠2:=λz=>by
   obtain ⟨o,e⟩:=Option.isSome_iff_exists.mp a_two
   have h2:=List.all_eq_true.mp a_noL (2,o) (mem_of_lookupK e)
   have:=KX _ _ e
   rw[←z,hL] at this;injection this with this
   rw[←this] at h2;simp at h2
  rcases Nat.lt_or_ge 2 scr with h|h
  ·exact h
  ·have key:∀n:Nat,n≠0→n≠1→n≠2→2 < n:=λn a b c=>by lia
   exact key scr h0 h1 h2
 have emp:∀q,TabRep s₁.heap #[] q:=λq=>⟨trivial,λpos cv e=>by exact nn e⟩
 have rep:Rep prog w B σ s₁.heap:=by
  refine ⟨λa o e=>?_,λx y C d fs C' fs' e _=>?_,λx C d fs e=>?_,λb m=>?_⟩
  ·rcases sc a o e with ⟨rfl,rfl⟩|⟨rfl,rfl⟩|⟨rfl,rfl⟩
   ·exact ⟨hL,allIs_ints hI⟩
   ·exact ⟨_,t2,emp _⟩
   ·exact ⟨_,t1,emp _⟩
  ·rcases sc _ _ e with ⟨_,z⟩|⟨_,z⟩|⟨_,z⟩<;>exact nC AO.ctorIdx z rfl
  ·rcases sc _ _ e with ⟨_,z⟩|⟨_,z⟩|⟨_,z⟩<;>exact nC AO.ctorIdx z rfl
  ·rcases m with ⟨o,e⟩|⟨x,C,fs,e⟩
   ·rcases sc _ _ e with ⟨rfl,_⟩|⟨rfl,_⟩|⟨rfl,_⟩
    ·exact ⟨hideAll_none _ (.tail _ (.tail _ (.head _))),big⟩
    ·exact ⟨hideAll_none _ (.tail _ (.head _)),dE rfl⟩
    ·exact ⟨hideAll_none _ (.head _),dE rfl⟩
   ·rcases sc _ _ e with ⟨_,z⟩|⟨_,z⟩|⟨_,z⟩<;>exact nC AO.ctorIdx z rfl
 have W:WS prog w B [] σ s₁:=⟨λb o e=>of_hideAll _ e,trivial,rep,(λb hb=>by cases hb),⟨lowB,λa e z=>by
  obtain ⟨o,e⟩:=Option.isSome_iff_exists.mp e
  have:=soB a o e
  induction o with
  |tup xs=>refine xEA this λvs e _=>?_;rw[z] at e;exact nn e
  |sdict kvs=>(refine xEA this λkv=>?_;(rintro zz;refine xEEEA zz λo es ep e _ _=>?_));rw[z] at e;exact nn e
  |_=>exact a_so a _ e⟩⟩
 have C:=c_law (X:=λ_ _=>False) (Q:=λv τ=>v=.bool true∧τ scr=some (.fix (ns.map AV.int) vs 0)∧τ 980=some (.tab tq1)∧τ 987=some (.tab tq2)) kit a_law (d:=0) s1 hn ⟨s2,s3⟩ λτ h1 h2 h3=>⟨rfl,h1,h2,h3⟩
 refine codeAny_mono (C.ok callerA [] s₁ [.ref scr] ⟨dE rfl,dE rfl⟩ rfl rfl W (.cons rfl .nil)) λr s' hr=>?_
 induction r with
 |error e=>
  obtain ⟨v,σ',_,_,_,x⟩:=hr
  exact x.elim
 |ok f=>
  induction f with
  |ret v=>
   obtain ⟨a,σ',ha,W',ev,rfl,h1,h2,h3⟩:=hr
   have ha:v=.bool true:=ha
   subst ha
   have o1:=W'.rep.obj _ _ h1
   refine xEA (W'.rep.obj _ _ h2) λp2 o2 _=>?_
   refine xEA (W'.rep.obj _ _ h3) λp3 o3 _=>?_
   refine ⟨rfl,λb o e m1 m2=>?_,⟨p3,o3⟩,⟨p2,o2⟩,ev.same.1,ev.same.2.2⟩
   by_cases z:b=scr
   ·rw[z,hL] at e;injection e with e
    (refine rE z ?_;refine rL e ?_);exact o1.1
   ·exact W'.stays b o (hideAll_get _ e (by simp[m1,m2,z]))
  |_=>exact hr.elim
theorem well_list {P:Params} {h:Heap} {a:Addr} {xs:List PyData} (x:Well P h (.ref a) (ofPy (.list xs))):∃vs,h.get? a=some (listObj vs 0):=by
 generalize e:ofPy (.list xs)=d at x
 cases x with
 |list h _=>exact ⟨_,h⟩
 |_=>simp[ofPy] at e
theorem list_same {h:Heap} {a:Addr} {vs us:List Value} (e:h.get? a=some (listObj us 0)) (hL:h.IsList a vs.toArray):h.get? a=some (listObj vs 0):=by
 obtain ⟨o,e',_,n,hd⟩:=hL
 rw[e] at e';(have e':=sJ e';subst e')
 injection hd with h1 h2
 have:us=vs:=by simpa using congrArg Array.toList h1
 (refine rE e ?_;exact rE this rfl)
theorem reads_mem {h:Heap} {a:Addr} {xs:List PyData} {as:List Addr} (r:Reads h (.ref a) (.list xs) as):a∈as:=by
 cases r with
 |list=>exact .head _
end
end Internal
namespace Internal.hd
def tw10001992485921976627:=True
def tw10005708998634600245:=True
def tw10005856457394034785:=True
def tw1001612749206785523:=True
def tw10016130854518153449:=True
def tw10043391442095480640:=True
def tw10075818427768521578:=True
def tw10095963528470022590:=True
def tw10099845830165383096:=True
def tw10100135975862883169:=True
def tw1011437121363862178:=True
def tw10140960926464624683:=True
def tw10148452162278243878:=True
def tw10181157687209708768:=True
def tw101922433275776466:=True
def tw1019675658927285762:=True
def tw10234359527050687566:=True
def tw10299358826930649213:=True
def tw10315820941808103201:=True
def tw10334094516224581275:=True
def tw10347164384930280586:=True
def tw1036609957400432650:=True
def tw10370532484665568544:=True
def tw10375935349049092972:=True
def tw10392483242637480492:=True
def tw10393973999733046980:=True
def tw10395503251304245746:=True
def tw10398490479921882955:=True
def tw10415728199610772133:=True
def tw10420969903924336549:=True
def tw10426067029911217438:=True
def tw10429980902143460950:=True
def tw10450640359370975400:=True
def tw10454116183544060458:=True
def tw104784629726787265:=True
def tw10503374662559469449:=True
def tw10505315879459099137:=True
def tw10508673307494548011:=True
def tw10512918863386317685:=True
def tw1051726995440662439:=True
def tw10522142906282191139:=True
def tw10548874870928871317:=True
def tw10564761483531488840:=True
def tw10574863511915220739:=True
def tw10612518496355651152:=True
def tw10620783554267986089:=True
def tw10622155086216830290:=True
def tw10623129965879614329:=True
def tw10623905553884473115:=True
def tw10624238441893430512:=True
def tw10662956664893492766:=True
def tw10663827007968790611:=True
def tw10665278153753488358:=True
def tw10675626547466352841:=True
def tw10709634973910462635:=True
def tw10726158900718542740:=True
def tw10775211591593427027:=True
def tw1077576681421950554:=True
def tw10824435440731335410:=True
def tw10837065933932300189:=True
def tw10848958470259746749:=True
def tw10851545809410325009:=True
def tw10860967145484525269:=True
def tw10861032233629893696:=True
def tw10865293071261761346:=True
def tw10897456159636907143:=True
def tw10906446242255168231:=True
def tw10931561214512107474:=True
def tw10934686263152613070:=True
def tw10936422620351546577:=True
def tw10941091006436961451:=True
def tw10941992129310047545:=True
def tw10943507631099144667:=True
def tw1094403024686072914:=True
def tw1094702753225318346:=True
def tw10958530852151739086:=True
def tw10964609834395472500:=True
def tw10974007619348641565:=True
def tw1099665936852001206:=True
def tw11019287909107265412:=True
def tw11019744619928731704:=True
def tw11020219107076220017:=True
def tw11056541300624366477:=True
def tw11060312919212673600:=True
def tw11062292196625866695:=True
def tw11069559896815943858:=True
def tw11091710821060036069:=True
def tw11102082477538948765:=True
def tw11115881015983151962:=True
def tw11124402170138811487:=True
def tw11133436300934848493:=True
def tw11145217363588805798:=True
def tw1116418598772759508:=True
def tw11257713925879054527:=True
def tw11266919334084659915:=True
def tw11268569540984943241:=True
def tw11323116850808888523:=True
def tw11363395720938027954:=True
def tw11371855425108365103:=True
def tw11386977966700943874:=True
def tw11403142172108034784:=True
def tw11417141742614095440:=True
def tw11429141640460403175:=True
def tw11458960218540070792:=True
def tw11474934111426491260:=True
def tw11545326874067876449:=True
def tw11554334663356544241:=True
def tw11572183890506486076:=True
def tw11579371501097318840:=True
def tw11593154620752502189:=True
def tw1159343741072944170:=True
def tw11593506298621157059:=True
def tw11595816992686948428:=True
def tw11617893596809867050:=True
def tw11631897761040388377:=True
def tw11636109143156476386:=True
def tw11662947804576482948:=True
def tw11687449945647309398:=True
def tw11693261567659620456:=True
def tw11700123158548107777:=True
def tw11703484354612917873:=True
def tw11732141095885505998:=True
def tw11743288973319137855:=True
def tw11760812138195836383:=True
def tw11787106197998430909:=True
def tw11801450806673847440:=True
def tw11822821278319027428:=True
def tw11824619205240528852:=True
def tw11842044745845840140:=True
def tw11858841358664133453:=True
def tw11863172454965222893:=True
def tw1186527713067842299:=True
def tw11899781632844357592:=True
def tw11902867308383104635:=True
def tw11920793586167018131:=True
def tw11944909209799462787:=True
def tw11947455871594222477:=True
def tw11978095302133871170:=True
def tw11996096656980279111:=True
def tw11999192523398801809:=True
def tw12015645038501663027:=True
def tw12016493989603638800:=True
def tw120225112161462897:=True
def tw12026556490639160391:=True
def tw12088847141121169412:=True
def tw12103043104401021783:=True
def tw12111509841788716716:=True
def tw12132616004374318722:=True
def tw12151119385422167023:=True
def tw12163800244546989999:=True
def tw12169836023341212455:=True
def tw12191056341617282388:=True
def tw1219998159448165659:=True
def tw12212443022367867875:=True
def tw1222278539330529098:=True
def tw12266130348658892483:=True
def tw12268330103429756051:=True
def tw12268930352529838183:=True
def tw12280333375643602447:=True
def tw12296338415888805005:=True
def tw12306506108289384701:=True
def tw12316563644840345596:=True
def tw1231826601009634979:=True
def tw12339408333195338243:=True
def tw12340460820290011942:=True
def tw1237787582622387158:=True
def tw1239417350240595311:=True
def tw12416162455556995403:=True
def tw12419310680303812237:=True
def tw12422579013124520637:=True
def tw12432470725715869802:=True
def tw12448952742096070163:=True
def tw12499755471279658265:=True
def tw12513476627704458570:=True
def tw12519152098023653292:=True
def tw12533099976785439231:=True
def tw12536487192995023441:=True
def tw12548449163480537459:=True
def tw12562990875430803590:=True
def tw12572438918184453082:=True
def tw12583815173464946574:=True
def tw12584526509626173844:=True
def tw12590642718916448014:=True
def tw12620322511228011085:=True
def tw12625706063010518655:=True
def tw12647075395763676048:=True
def tw12663083826999758394:=True
def tw12706433267321799611:=True
def tw12709097106518229211:=True
def tw12720189209168244:=True
def tw12733047869069538704:=True
def tw12753088804195536969:=True
def tw12753994775634088370:=True
def tw12759722620975008610:=True
def tw1278431184892273591:=True
def tw12787527816411597480:=True
def tw12789795722270780567:=True
def tw12810366952381166103:=True
def tw12814619303234960096:=True
def tw12833905556279163092:=True
def tw12839789420118797277:=True
def tw12871633749768148069:=True
def tw12877654084819912307:=True
def tw1289711181234957809:=True
def tw12904415183443119307:=True
def tw12905293451980374153:=True
def tw12958446387425618437:=True
def tw12988293175146348590:=True
def tw12996337026464575078:=True
def tw12997799559311756543:=True
def tw12999642992478983476:=True
def tw13041068710509249743:=True
def tw13045506002610557522:=True
def tw13061749131262194147:=True
def tw13081726089331318555:=True
def tw13090225288613809575:=True
def tw13094651006523987230:=True
def tw13104724490997379360:=True
def tw13127896314765467449:=True
def tw13171680411349456406:=True
def tw13193573089975369142:=True
def tw13214470254155160194:=True
def tw13222113050665440512:=True
def tw13236572730929614893:=True
def tw1324492073421761586:=True
def tw13281318346060872889:=True
def tw13288727727284583449:=True
def tw13289411879962126793:=True
def tw13290102881659926906:=True
def tw13321029653260742873:=True
def tw13338799930852570135:=True
def tw13403894056764834993:=True
def tw13415622722347245961:=True
def tw13422365323611817648:=True
def tw13432671492455668465:=True
def tw1348070629609397346:=True
def tw13481468767422775869:=True
def tw13486325289056041110:=True
def tw13499180142448757361:=True
def tw13506101737699270729:=True
def tw13511337342951640308:=True
def tw13523189546712184577:=True
def tw13528585341068153353:=True
def tw13537420238741464255:=True
def tw1354321664782747952:=True
def tw13556730166136926958:=True
def tw13570526862058812679:=True
def tw13612830711409150470:=True
def tw1364689732239308606:=True
def tw13675891462989184878:=True
def tw13690361397528219187:=True
def tw13700459567615956841:=True
def tw1370784955829727867:=True
def tw13740340874940788846:=True
def tw13746133461942862473:=True
def tw13754495028572260105:=True
def tw13767608393101039953:=True
def tw13770744265619056577:=True
def tw13782697119457462293:=True
def tw1378971098952622441:=True
def tw13793928850813483675:=True
def tw13805710804469236364:=True
def tw13811790358684228658:=True
def tw13821133716210592197:=True
def tw13822958859075076282:=True
def tw13826536605769969390:=True
def tw13830456426566120433:=True
def tw1383884024512268635:=True
def tw13841405664609734819:=True
def tw13844959249713521:=True
def tw13851273552300496160:=True
def tw13853505175431977914:=True
def tw13865440277717236997:=True
def tw1386973583075871864:=True
def tw13904819764683146496:=True
def tw1391995902984641313:=True
def tw1392663872802866975:=True
def tw13928808152158837523:=True
def tw13940859661378993245:=True
def tw13976146580602026291:=True
def tw13998049858788257369:=True
def tw14025536341287964139:=True
def tw14034189516665853385:=True
def tw1403480525703932604:=True
def tw1405302370914791146:=True
def tw14063426392534606729:=True
def tw14083342361509322414:=True
def tw14096756967589857147:=True
def tw14103336391350778401:=True
def tw14122757388020673915:=True
def tw14125835847297629254:=True
def tw14151234096270816531:=True
def tw14181908990333642572:=True
def tw14191059761543176954:=True
def tw14209509429288382460:=True
def tw14210215349378096481:=True
def tw14211065238851186134:=True
def tw14223087635380619966:=True
def tw14236136237780053721:=True
def tw14250536222013072001:=True
def tw14274891285453856914:=True
def tw14290423060000269657:=True
def tw14301364644029662030:=True
def tw14301370601945162044:=True
def tw14330326232105547283:=True
def tw14348552707202098355:=True
def tw14349493244449400994:=True
def tw14354612637830977468:=True
def tw14368806923287628310:=True
def tw14386870750997632119:=True
def tw14393409239379164749:=True
def tw1442108512403945491:=True
def tw14442512086360708980:=True
def tw14452056930019356448:=True
def tw14469182797978768247:=True
def tw14477324352427246711:=True
def tw14477572620181602454:=True
def tw14477704187958709261:=True
def tw14515542528788412852:=True
def tw14522416740128784742:=True
def tw14531893542179062670:=True
def tw14544054836163639280:=True
def tw14573277868960017339:=True
def tw1458219612536818874:=True
def tw14590462467446607695:=True
def tw1459795914260650307:=True
def tw14639563582192914100:=True
def tw14646427270978712891:=True
def tw14646515703026211767:=True
def tw14652202304231340024:=True
def tw14654185949130881400:=True
def tw14660231454763530844:=True
def tw14674455169122048235:=True
def tw1468006524078938543:=True
def tw14680881176108007578:=True
def tw14734751732727888287:=True
def tw14738598200318543233:=True
def tw14739930756839496094:=True
def tw14741139401667792169:=True
def tw14742048150501957901:=True
def tw14771016345712951445:=True
def tw14779043918684391712:=True
def tw14802951223186737598:=True
def tw14804025245142546751:=True
def tw14815886647299168689:=True
def tw14828616495616524915:=True
def tw14853091503123672011:=True
def tw14897647175058481000:=True
def tw14897895186112150289:=True
def tw14917455049007321428:=True
def tw14957338785233325918:=True
def tw14974789410466948691:=True
def tw15009173949682060117:=True
def tw15014864374427509513:=True
def tw15019233996244117429:=True
def tw15023302422791850607:=True
def tw15052752960402935660:=True
def tw15082281222128775398:=True
def tw15097198251595372223:=True
def tw15103174701931019461:=True
def tw15104063816372697934:=True
def tw15114544219447212027:=True
def tw15153238720720054220:=True
def tw15177493958314062752:=True
def tw15195581765812382172:=True
def tw1520082748038569835:=True
def tw15251410585421389472:=True
def tw15256037721705923702:=True
def tw15271950683597425025:=True
def tw15335470556242840145:=True
def tw15353548097261016194:=True
def tw15366960712275211343:=True
def tw1539466643248600205:=True
def tw15403062652265173058:=True
def tw15410332876727949508:=True
def tw15414395211874071153:=True
def tw15429860577099214682:=True
def tw15454287266590604360:=True
def tw1549456365303667504:=True
def tw15497791716928828153:=True
def tw15511198046167533671:=True
def tw15522919220213378971:=True
def tw15525782262838367602:=True
def tw15526240772951040771:=True
def tw15573539443315035966:=True
def tw1559097038097173098:=True
def tw15593747137696908787:=True
def tw15602308501071646344:=True
def tw15625289449433173889:=True
def tw15627094399483972566:=True
def tw15634166540496332812:=True
def tw1564194744281516356:=True
def tw15653408398343399999:=True
def tw15666012086181674615:=True
def tw15668584727096310074:=True
def tw15668885284569346283:=True
def tw15669474841877616254:=True
def tw15674759688467119183:=True
def tw15695530338428521049:=True
def tw1571974647341748443:=True
def tw15720666268240137756:=True
def tw15722323720102506145:=True
def tw15745525313258363270:=True
def tw15770055891024842072:=True
def tw1577348515833851686:=True
def tw15801703999076829885:=True
def tw15811235109061008576:=True
def tw15817739405329848341:=True
def tw15839128451589321676:=True
def tw15864853391178135988:=True
def tw15893537720499194095:=True
def tw15924228899910928284:=True
def tw15942474022670234325:=True
def tw15951814873115792128:=True
def tw15955137346456084177:=True
def tw15965095254700699982:=True
def tw15980835409555150271:=True
def tw15994459718727468163:=True
def tw15999404234225547064:=True
def tw16001617740604480348:=True
def tw16016264731872636737:=True
def tw16022776505871077992:=True
def tw16046277050099991540:=True
def tw160927626161779547:=True
def tw16108109633940737546:=True
def tw16127360873654452165:=True
def tw16187486486285702928:=True
def tw16196577740954983344:=True
def tw16211002986546560449:=True
def tw1624285833959099642:=True
def tw16290197049952981165:=True
def tw16329933876453699037:=True
def tw16332956138314415666:=True
def tw16340912105492628050:=True
def tw16343578168052136487:=True
def tw16349857353446204580:=True
def tw1635113622322831739:=True
def tw16358315467499267580:=True
def tw16363236147539395112:=True
def tw16368768482815899850:=True
def tw16385651914709962473:=True
def tw1639151097525357578:=True
def tw16410563500888458126:=True
def tw16413001206500408242:=True
def tw16424367777625218339:=True
def tw16472601056794031164:=True
def tw16482584825685293480:=True
def tw16485643503633892819:=True
def tw16498318597754002336:=True
def tw16544468901942660135:=True
def tw16607832408109025313:=True
def tw16624150136650608520:=True
def tw16625562795253513190:=True
def tw16638118709621758338:=True
def tw16640938288354531928:=True
def tw16663773571865620083:=True
def tw16671641837757964955:=True
def tw16736909838359210181:=True
def tw16757522591940390977:=True
def tw16785131897988297040:=True
def tw16788585100438445326:=True
def tw16807263245876828757:=True
def tw16829732679450133647:=True
def tw16849649798566196875:=True
def tw16850154658524508285:=True
def tw16870593333958586619:=True
def tw16874452486922954552:=True
def tw16875406360220844906:=True
def tw16893380224398250031:=True
def tw16928310941355100837:=True
def tw16938671951675023267:=True
def tw16942984186805004282:=True
def tw16945961774346355196:=True
def tw16952158070623090385:=True
def tw1696924901609127714:=True
def tw16975955248211274306:=True
def tw16976017992712772430:=True
def tw16980693693005314516:=True
def tw16988774470950484754:=True
def tw16997699945332499986:=True
def tw17009136768298945959:=True
def tw17033920138087832540:=True
def tw17058166996486771748:=True
def tw17073680362817931906:=True
def tw17090441650740472938:=True
def tw17103775842344534028:=True
def tw17119550800317781002:=True
def tw17124305765059946309:=True
def tw1713195017167251161:=True
def tw17133566892352576458:=True
def tw17136996437030821819:=True
def tw17139283298595857740:=True
def tw17164048838349303524:=True
def tw17168490086171053022:=True
def tw1717917871691806458:=True
def tw17189979746689338426:=True
def tw17196587213445994185:=True
def tw17203973741956575243:=True
def tw17222641659959590885:=True
def tw17245420893042858222:=True
def tw17253524142897805803:=True
def tw17257173465149494714:=True
def tw1730017989630563894:=True
def tw17301826669911605506:=True
def tw17335243831487503463:=True
def tw1733972151114013055:=True
def tw17369972315388169072:=True
def tw17372667601252207288:=True
def tw17400746227064736636:=True
def tw17404251207950291102:=True
def tw17410961774077631851:=True
def tw17424143163750403425:=True
def tw1746000170988532097:=True
def tw17465317703883541060:=True
def tw17516407376342219541:=True
def tw17518969022757177897:=True
def tw17524787527956739707:=True
def tw17525344234334482662:=True
def tw17526753596081888935:=True
def tw1754505126532606167:=True
def tw17586460757293780242:=True
def tw17590214407153235606:=True
def tw17594503912642047578:=True
def tw17618955541465371921:=True
def tw17622563022720173199:=True
def tw1763800503113934308:=True
def tw17647143098625746179:=True
def tw17655160255746998807:=True
def tw17690202650392844338:=True
def tw17707484699966678710:=True
def tw17722062628493435411:=True
def tw17749788690761918544:=True
def tw17752098934248369999:=True
def tw17766009064274997435:=True
def tw17798512609682917413:=True
def tw17858306117260949110:=True
def tw17898720110932613080:=True
def tw17916658222899216955:=True
def tw17931021397896403526:=True
def tw17988836301259537384:=True
def tw18006021806232142405:=True
def tw18038929314539735662:=True
def tw18050278957960543659:=True
def tw18052936475789343906:=True
def tw18086208194332043409:=True
def tw18101009099069167701:=True
def tw18170606692422237425:=True
def tw18190420572188320607:=True
def tw18230927959024796034:=True
def tw18276155186482565071:=True
def tw18281428437736870059:=True
def tw18300627402035433452:=True
def tw18304836399790808021:=True
def tw18316999121531359451:=True
def tw18333342408902806285:=True
def tw18334148287958194060:=True
def tw18376332877866143987:=True
def tw18397548692098852233:=True
def tw18417399881843885248:=True
def tw18421135390528765203:=True
def tw1857982623548059457:=True
def tw1863982338543477417:=True
def tw1879345575532200314:=True
def tw1887411990797159005:=True
def tw189628540275108968:=True
def tw1944504369077830016:=True
def tw19666528285418545:=True
def tw1980160023600612770:=True
def tw1985263977473100390:=True
def tw1998879770593946454:=True
def tw2008280420872713622:=True
def tw2019544474697219383:=True
def tw202728956601336389:=True
def tw2042029353292172603:=True
def tw206144337948561626:=True
def tw2102290444741974935:=True
def tw2142840568294159595:=True
def tw2149614576455030062:=True
def tw2170958436011992932:=True
def tw2182604616191311257:=True
def tw220415183130203243:=True
def tw2207736654527720782:=True
def tw2213075100011854754:=True
def tw2224753337476400623:=True
def tw2241282177797121430:=True
def tw2245311599384607468:=True
def tw2296797925737282124:=True
def tw2316740228756841208:=True
def tw2320562150761524678:=True
def tw2352698728026257529:=True
def tw2359293500649179588:=True
def tw236607690984116086:=True
def tw2377584763577142263:=True
def tw2403230823933928637:=True
def tw2406228445604829132:=True
def tw2428417751237496126:=True
def tw2443256711351526742:=True
def tw24441621105271749:=True
def tw2458464075087105067:=True
def tw2469014286009839113:=True
def tw2469267545129562850:=True
def tw2478598396378003763:=True
def tw2481098973894046328:=True
def tw2492269483886926087:=True
def tw2519005966273631440:=True
def tw2568210145590783468:=True
def tw2572053681995187203:=True
def tw2582726732493600512:=True
def tw2582841738888091723:=True
def tw2617850206892625666:=True
def tw2626526391636417999:=True
def tw263180319954125680:=True
def tw2643571172558659562:=True
def tw2654889352047876994:=True
def tw2658701883715970059:=True
def tw2670736749469337836:=True
def tw2675051713822939964:=True
def tw270786111885757085:=True
def tw2709283270928075683:=True
def tw27310443502740254:=True
def tw2739588891241566591:=True
def tw2741169678308303921:=True
def tw2742663124558685205:=True
def tw2756673159323292420:=True
def tw2796928947248265438:=True
def tw279997403591149496:=True
def tw2820072796180569060:=True
def tw2835518560102734989:=True
def tw2847995707915659949:=True
def tw2848372389219974284:=True
def tw2850484217422521419:=True
def tw2852545102511263916:=True
def tw2868596393985577089:=True
def tw2897212937579508192:=True
def tw2919213619174264158:=True
def tw2928506496150146841:=True
def tw2956453559025460256:=True
def tw2964940720226930644:=True
def tw2965696318584982397:=True
def tw2976193630682088188:=True
def tw2997455132849010957:=True
def tw2999939432857438418:=True
def tw3003896553677608111:=True
def tw3012487283307588293:=True
def tw3013775473565788392:=True
def tw3064152690267101951:=True
def tw3066513602252398403:=True
def tw3070218416593208786:=True
def tw309235027927911904:=True
def tw3119782221384844768:=True
def tw3135869920181669800:=True
def tw3139340090392033464:=True
def tw3167825495766489002:=True
def tw3169699957479951225:=True
def tw321611905470155476:=True
def tw3219137766647878959:=True
def tw3233353753744385269:=True
def tw3234260644580324942:=True
def tw324161089897834510:=True
def tw3268878441627258546:=True
def tw3269517320468644134:=True
def tw3285399122956089229:=True
def tw3288058162842917408:=True
def tw3292483126221245184:=True
def tw3297123016211798081:=True
def tw3310007393909424322:=True
def tw3314458362891496647:=True
def tw3337892841820540521:=True
def tw3351494546436096406:=True
def tw3354688644850799876:=True
def tw3372621630709075285:=True
def tw3379881977220203790:=True
def tw3382870775498938847:=True
def tw33942012028192643:=True
def tw3413167518640242841:=True
def tw3415516956984166381:=True
def tw3422744358550000323:=True
def tw3427009550993781340:=True
def tw3439508601453179633:=True
def tw3448031229043693631:=True
def tw3466709965401368107:=True
def tw3469156724231326115:=True
def tw3495490084073478536:=True
def tw3505125194061795658:=True
def tw3508695008224253533:=True
def tw3513240780735926903:=True
def tw3515077956347266428:=True
def tw3520380498036124030:=True
def tw3533858769625230707:=True
def tw3548058266440450571:=True
def tw3599576616020892386:=True
def tw360696571584227803:=True
def tw3623750404624834615:=True
def tw3626459307677100741:=True
def tw364174472926177202:=True
def tw3654699203649154360:=True
def tw3658144818123695219:=True
def tw3709521787285855510:=True
def tw3737671134193419527:=True
def tw3743887007856963923:=True
def tw3806229682564492635:=True
def tw3831787309748365390:=True
def tw3878123071886859118:=True
def tw3881941394308184787:=True
def tw3893462472484076757:=True
def tw3893884216892241011:=True
def tw3894765775711385866:=True
def tw3896384253797195065:=True
def tw3911326174615841140:=True
def tw3964923869552250717:=True
def tw4020084140658458339:=True
def tw4032683959641245657:=True
def tw4035207521453572091:=True
def tw4071292090837830620:=True
def tw4074844412663754681:=True
def tw4076941890658198799:=True
def tw4098748974740862499:=True
def tw4105331117932440408:=True
def tw4128330254090908173:=True
def tw4148293027118830900:=True
def tw4157139264866027717:=True
def tw4168995393022081422:=True
def tw4182125787878968324:=True
def tw4193394213414652919:=True
def tw4197433268886563203:=True
def tw422217375928953049:=True
def tw4227102297820127858:=True
def tw4245578281288811140:=True
def tw4252467008740969511:=True
def tw4262366214402998535:=True
def tw4266855532820876259:=True
def tw4291337983880760439:=True
def tw430075040864413426:=True
def tw4328298461902493689:=True
def tw4333929327225477165:=True
def tw4344201731060463506:=True
def tw434546514313101075:=True
def tw4353099923240748951:=True
def tw4353523500900550613:=True
def tw437601318089738974:=True
def tw4377363852382091673:=True
def tw4393534728107590735:=True
def tw4420323450164426543:=True
def tw44428682356337693:=True
def tw4444494109532137285:=True
def tw4448910071246504948:=True
def tw4482972274055369060:=True
def tw4490092440318204680:=True
def tw4491515588147870054:=True
def tw4493106323957654372:=True
def tw4533438240839401508:=True
def tw4547240793627636321:=True
def tw4556495454636001428:=True
def tw4559191544711963518:=True
def tw4564649252000965581:=True
def tw4595467058856967784:=True
def tw4605488483375148898:=True
def tw4615014568471574654:=True
def tw4616391784162994253:=True
def tw4616964449860601774:=True
def tw4643881312963093774:=True
def tw464944992764635000:=True
def tw465668992431339964:=True
def tw4669167937774967972:=True
def tw4672879850602635977:=True
def tw4679108012783675430:=True
def tw4681306090555152135:=True
def tw4716031083891814559:=True
def tw4733107627709747384:=True
def tw4759997960575610695:=True
def tw4773458834280566362:=True
def tw4777901293662557652:=True
def tw4839631148077617111:=True
def tw4850841254024095332:=True
def tw4871214378844638804:=True
def tw4872747777861270661:=True
def tw4895696551291579129:=True
def tw4911602864274217736:=True
def tw4914932950298770942:=True
def tw4945454463699368336:=True
def tw4951352156402027293:=True
def tw4971893800144617181:=True
def tw4995346963289987101:=True
def tw5019779354490680658:=True
def tw5030248397850124408:=True
def tw5049892346109561826:=True
def tw5074910044483247396:=True
def tw5083429980610926151:=True
def tw5111251859778337983:=True
def tw5144802807351929841:=True
def tw5152858519953853985:=True
def tw5161282926468021695:=True
def tw5163120127571601921:=True
def tw5177406268807223509:=True
def tw5196982216596058700:=True
def tw5203131080314571296:=True
def tw520567230120096548:=True
def tw5208886562661396981:=True
def tw5271237653266445272:=True
def tw528546411005238425:=True
def tw5288708699427073244:=True
def tw5320063200073466437:=True
def tw5338192173278452256:=True
def tw5342660307335014428:=True
def tw5362903359081827374:=True
def tw5386071101210877686:=True
def tw5402163456391837881:=True
def tw5434698040693932060:=True
def tw5447439002021596434:=True
def tw5453995407635669502:=True
def tw5461135896615774049:=True
def tw548413406253599861:=True
def tw5488491853823350600:=True
def tw5490391374524482305:=True
def tw5498571532352971509:=True
def tw5501919727277399244:=True
def tw5528031551053358955:=True
def tw5598743033335487785:=True
def tw5623053221762365778:=True
def tw5634593539632583168:=True
def tw5654189372713818609:=True
def tw5671782520752771716:=True
def tw5697700964702106522:=True
def tw5713132034584357562:=True
def tw5716176411662835969:=True
def tw5716366176858478156:=True
def tw5719538076358516458:=True
def tw5741263987765525180:=True
def tw5742768038754576329:=True
def tw5782367528569683909:=True
def tw5801093646880478105:=True
def tw5804843865802868776:=True
def tw5832504809732696057:=True
def tw5860129760369596817:=True
def tw586286630929711865:=True
def tw5870353875855078964:=True
def tw5875445963498908105:=True
def tw5882613889025386406:=True
def tw5905337993091817256:=True
def tw5905712234276481177:=True
def tw5911031940367895741:=True
def tw5914940951965904499:=True
def tw5940757305967045105:=True
def tw5963482206656438858:=True
def tw6003407717449724787:=True
def tw604412784603069617:=True
def tw6047057218342449154:=True
def tw6086523161725186694:=True
def tw6104807300759453357:=True
def tw6123715487306275965:=True
def tw6127639237873772453:=True
def tw6151903818339924049:=True
def tw6170400507931883198:=True
def tw6198421520323231516:=True
def tw623696288853445375:=True
def tw6242729526566096904:=True
def tw6256118788854780900:=True
def tw6284383350475274109:=True
def tw6288793228433064393:=True
def tw6303270554686432908:=True
def tw632514245838764543:=True
def tw6349569331910629274:=True
def tw6366568345164524182:=True
def tw6418233905177154922:=True
def tw6444393363245681329:=True
def tw6451871378699365796:=True
def tw6472154355794868549:=True
def tw6473144345647074275:=True
def tw6480591704842671431:=True
def tw6489309012216710365:=True
def tw6491828018263070556:=True
def tw6510880628429535614:=True
def tw6525848436775874494:=True
def tw6530187180701640433:=True
def tw6534975183588318934:=True
def tw6541427637965257158:=True
def tw6565235386587244853:=True
def tw6611922355815652454:=True
def tw661486327186722557:=True
def tw6620493241342459157:=True
def tw6628133919287248508:=True
def tw665443062051598780:=True
def tw6687167939477284288:=True
def tw6697660123779613371:=True
def tw6699417484392397697:=True
def tw6700225418162832351:=True
def tw6710183260432734867:=True
def tw6711135459476707476:=True
def tw6727385546725524892:=True
def tw6755131322935315177:=True
def tw6769487601706853667:=True
def tw6788029928833092824:=True
def tw6791297611157962133:=True
def tw6795949151189089239:=True
def tw6813529581816460127:=True
def tw685506763991531296:=True
def tw6859150039641882422:=True
def tw6923099545994794861:=True
def tw6943076106034445940:=True
def tw6945325130093623359:=True
def tw6962090014424897008:=True
def tw6977965988800746429:=True
def tw6984120914784606500:=True
def tw6998341418085032593:=True
def tw7041979354331264150:=True
def tw7048946220934452386:=True
def tw7050028721970766094:=True
def tw7067983756540517096:=True
def tw7074704886698500368:=True
def tw7081406278903835604:=True
def tw7086162786622479705:=True
def tw7094489143655882661:=True
def tw7097729570456278813:=True
def tw7105852593925209356:=True
def tw713812493022708681:=True
def tw7141079179341789797:=True
def tw7213217687226886720:=True
def tw7217763183391756511:=True
def tw7244771537619644807:=True
def tw7265104843109614179:=True
def tw7294999715723487530:=True
def tw733129993654757942:=True
def tw7341936335531581999:=True
def tw7342942735413543495:=True
def tw7343430595644296181:=True
def tw7362439065989421992:=True
def tw7381189840310028085:=True
def tw7382406923237350546:=True
def tw7389277345028355692:=True
def tw7408473787599763343:=True
def tw7410339088278563437:=True
def tw74272087597385014:=True
def tw7427411563360338177:=True
def tw7436944708925936001:=True
def tw7466097812155078355:=True
def tw7474996292144253225:=True
def tw7475784505573829164:=True
def tw7482732331103056662:=True
def tw7498092793858789166:=True
def tw7502770682046562993:=True
def tw752410913414997875:=True
def tw7548460175736233964:=True
def tw7612385936910728323:=True
def tw7636949429371544135:=True
def tw7640469974519210245:=True
def tw7656145954948000683:=True
def tw7674122169917323231:=True
def tw769288596682862358:=True
def tw7705532849440959255:=True
def tw7731515965384562433:=True
def tw7746754953690816364:=True
def tw7772626626091502981:=True
def tw7776539204499164004:=True
def tw7779340113226276655:=True
def tw7782623562844684779:=True
def tw7783588426614932851:=True
def tw7809365212636091531:=True
def tw7810501331800694209:=True
def tw7822540148344514165:=True
def tw7827418536447422899:=True
def tw7850501407708986255:=True
def tw7894648590927578825:=True
def tw7897291522695187164:=True
def tw7908790587633502514:=True
def tw7929442092739419749:=True
def tw7946661399774301859:=True
def tw7955089661804911815:=True
def tw79612259878952219:=True
def tw796516017285899673:=True
def tw797790108351388172:=True
def tw7988518016161809909:=True
def tw8051374182318705109:=True
def tw8065715595683183125:=True
def tw8078352517649720794:=True
def tw808801254044413314:=True
def tw8102964069444367078:=True
def tw8163209612429909677:=True
def tw8186162423539702082:=True
def tw8208148102712501736:=True
def tw8216664120879510980:=True
def tw82300018779286415:=True
def tw8243095795765042742:=True
def tw826180646817822160:=True
def tw8262663749659881514:=True
def tw8296376774440993624:=True
def tw8301135971998798830:=True
def tw8318406996274602851:=True
def tw8326374489882043092:=True
def tw8338394627564185651:=True
def tw8349462339761466485:=True
def tw8364146410392551862:=True
def tw8387545853279466625:=True
def tw8390931726522298983:=True
def tw8394226568634963262:=True
def tw8398333052011993931:=True
def tw840117697228804475:=True
def tw8413947969467334266:=True
def tw8464895963948507427:=True
def tw84685216110397903:=True
def tw8502823132190071803:=True
def tw8519383621262380410:=True
def tw8529721147808891396:=True
def tw8545457170176464207:=True
def tw8551036906187150627:=True
def tw8551225721875838934:=True
def tw8571711218292672072:=True
def tw85808370880393378:=True
def tw85823066500005351:=True
def tw8589531953792132672:=True
def tw86017571954364702:=True
def tw8692321174329145334:=True
def tw8718731696551146652:=True
def tw8732141156338659416:=True
def tw8766127320415409569:=True
def tw8770678727375587532:=True
def tw8786170107641011926:=True
def tw8866599676168509812:=True
def tw8882566574046520574:=True
def tw8886746472886192977:=True
def tw8923540963333682522:=True
def tw8926541547870133320:=True
def tw8934779687364377644:=True
def tw8940997174434962351:=True
def tw8958593393136518657:=True
def tw8959049600961510574:=True
def tw8970518579738633216:=True
def tw9001952124189092007:=True
def tw9033406306492160028:=True
def tw904164649452708584:=True
def tw9051710109663119759:=True
def tw9061480253541974800:=True
def tw9076693247417420865:=True
def tw9084613747539263150:=True
def tw9108156891707574409:=True
def tw9126996644646649730:=True
def tw9173091227442905323:=True
def tw9179441080511628133:=True
def tw918207990634813780:=True
def tw9184118854802427207:=True
def tw9190526633010149502:=True
def tw9242819443189498220:=True
def tw9249187085595546751:=True
def tw9263044415696216338:=True
def tw9281004623583606925:=True
def tw9289239091547518824:=True
def tw9292459997855250544:=True
def tw9294034391469660248:=True
def tw9297826919358361996:=True
def tw9306109553969473543:=True
def tw9316839712820276727:=True
def tw9337743775674422313:=True
def tw9363213757689917635:=True
def tw9365166710699811136:=True
def tw9388332012382739197:=True
def tw9415029995376892174:=True
def tw9421624746344370694:=True
def tw9450061166678542860:=True
def tw9451738552292942846:=True
def tw9455172873863246388:=True
def tw9468994536159387368:=True
def tw9473090327843463977:=True
def tw9474469099279913726:=True
def tw9486214918660822797:=True
def tw9493147403733347870:=True
def tw9530774746412438502:=True
def tw953719362329525420:=True
def tw9562679880670498972:=True
def tw9565052832656556288:=True
def tw9572136578085604464:=True
def tw9581701411849741941:=True
def tw9587445600146406811:=True
def tw9587960298635282377:=True
def tw9624890091197321783:=True
def tw963006954484365484:=True
def tw9655270633726498857:=True
def tw9663187027716159180:=True
def tw9709073966801621590:=True
def tw9710459519416062900:=True
def tw971112630432419332:=True
def tw9712472515296349864:=True
def tw9715973121787720739:=True
def tw9718065009121090107:=True
def tw9755959814062749017:=True
def tw9769410230878716277:=True
def tw9770398386189583640:=True
def tw977109850258319035:=True
def tw9775252617147894002:=True
def tw9793919083051461601:=True
def tw9807905254056213164:=True
def tw9821874392207860037:=True
def tw9827902161954470593:=True
def tw9830315592936585096:=True
def tw9845687092145595157:=True
def tw9859319582583979606:=True
def tw9913630285280485408:=True
def tw9914644556707033377:=True
def tw9917164517862920859:=True
def tw9921632385384028651:=True
def tw9930374097513633086:=True
def tw9982580073342162093:=True
def tw9990854237507128546:=True
def tw17180928116061977303:=True
def tw18122447844444875966:=True
end Internal.hd
set_option Elab.async true in
set_option tactic.hygienic true in
set_option maxRecDepth 100000 in
set_option maxHeartbeats 80000000 in
theorem Internal.hd:PySem.Challenge.rw_nu0289_01.Holds:=by
 w_on;o_law;k_head
 case hw=>w_witness2
 k_fill
 intro w s₀ s₁ mg mb G Y fa o pm cd doc dV kV ho hd hcd hD hmg hg args vals as hpre hlay hrd hwl hlo
 have KX:=km_in_of Y
 km_tabs Y
 refine Ground.open G ?_
 intro T B D TE TW
 try (refine guard_noD D (by decide +kernel) ?_;clear D)
 km_lay T hmg ho hd cd
 have hlo2:=hlo
 wrow_args hpre hlay hrd hwl hlo
 refine enter_call ?_
 have e4:mg (Str.ofString "law")=some (Value.ref 1004):=mg_of KX T.g (by rfl)
 have e5:some (Value.ref fa)=some (Value.ref 1004):=hmg.symm.trans e4
 injection e5 with e5
 injection e5 with e5
 subst e5
 rename_i ns _ _ _ _ _ _ _ scr vs _ hL _ w1 r0 hI _ hc _
 obtain ⟨us,eu⟩:=Internal.well_list w1
 have lo:(scr == sysModules)=false:=hlo2 scr (List.mem_append_left _ (Internal.reads_mem r0))
 open Internal in
 refine kn_post hT9 (λa x=>rfl) (codeAny_mono (Internal.law_call KX T
  (by rfl)
  (by rfl)
  (by rfl)
  (by rfl)
  (by rfl)
  (by rfl)
  (by rfl)
  ({
   exc:=by rfl
   gem:=fnD (by kernel_rfl) (ag2 λ_ _ _=>by kernel_rfl) (by kernel_rfl)
   rai:=fnD (by kernel_rfl) (ag2 λ_ _ _=>by kernel_rfl) (by kernel_rfl)
   cls:=⟨_,_,_,_,_,_,_,_,_,_,_,_,_,_,_,rfl⟩
   ini:=by rfl
   fn:=by rfl
   glob:=by rfl
   reads:=by rfl
   attr:=by rfl
   meth:=by rfl
   keep:=by rfl
  })
  (by rfl)
  (fns_of (
   fnc (fnD (by kernel_rfl) (ag1 λ_ _=>by kernel_rfl) (by kernel_rfl)) <|
   fnc (fnD (by kernel_rfl) (ag2 λ_ _ _=>by kernel_rfl) (by kernel_rfl)) <|
   fnc (fnD (by kernel_rfl) (ag1 λ_ _=>by kernel_rfl) (by kernel_rfl)) <|
   fnc (fnD (by kernel_rfl) (ag2 λ_ _ _=>by kernel_rfl) (by kernel_rfl)) <|
   fnc (fnE (by kernel_rfl) (ag1 λ_ _=>by kernel_rfl) (by kernel_rfl)) <|
   fnc (fnD (by kernel_rfl) (ag2 λ_ _ _=>by kernel_rfl) (by kernel_rfl)) <|
   fnc (fnD (by kernel_rfl) (ag1 λ_ _=>by kernel_rfl) (by kernel_rfl)) <|
   fnc (fnD (by kernel_rfl) (ag1 λ_ _=>by kernel_rfl) (by kernel_rfl)) <|
   fnc (fnD (by kernel_rfl) (ag2 λ_ _ _=>by kernel_rfl) (by kernel_rfl)) <|
   fnc (fnD (by kernel_rfl) (ag2 λ_ _ _=>by kernel_rfl) (by kernel_rfl)) <|
   fnc (fnD (by kernel_rfl) (ag3 λ_ _ _ _=>by kernel_rfl) (by kernel_rfl)) <|
   fnc (fnD (by kernel_rfl) (ag3 λ_ _ _ _=>by kernel_rfl) (by kernel_rfl)) <|
   fnc (fnD (by kernel_rfl) (ag3 λ_ _ _ _=>by kernel_rfl) (by kernel_rfl)) <|
   fnc (fnD (by kernel_rfl) (ag3 λ_ _ _ _=>by kernel_rfl) (by kernel_rfl)) <|
   fnc (fnD (by kernel_rfl) (ag4 λ_ _ _ _ _=>by kernel_rfl) (by kernel_rfl)) <|
   fnc (fnD (by kernel_rfl) (ag1 λ_ _=>by kernel_rfl) (by kernel_rfl)) <|
   fnc (fnD (by kernel_rfl) (ag2 λ_ _ _=>by kernel_rfl) (by kernel_rfl)) <|
   fnc (fnD (by kernel_rfl) (ag2 λ_ _ _=>by kernel_rfl) (by kernel_rfl)) <|
   fnc (fnD (by kernel_rfl) (ag3 λ_ _ _ _=>by kernel_rfl) (by kernel_rfl)) <|
   fnc (fnD (by kernel_rfl) (ag4 λ_ _ _ _ _=>by kernel_rfl) (by kernel_rfl)) <|
   fnc (fnD (by kernel_rfl) (ag1 λ_ _=>by kernel_rfl) (by kernel_rfl)) <|
   fnc (fnD (by kernel_rfl) (ag3 λ_ _ _ _=>by kernel_rfl) (by kernel_rfl)) <|
   fnc (fnD (by kernel_rfl) (ag3 λ_ _ _ _=>by kernel_rfl) (by kernel_rfl)) <|
   fnc (fnD (by kernel_rfl) (ag3 λ_ _ _ _=>by kernel_rfl) (by kernel_rfl)) <|
   fnc (fnD (by kernel_rfl) (ag2 λ_ _ _=>by kernel_rfl) (by kernel_rfl)) <|
   fnc (fnD (by kernel_rfl) (ag4 λ_ _ _ _ _=>by kernel_rfl) (by kernel_rfl)) <|
   fnc (fnD (by kernel_rfl) (ag4 λ_ _ _ _ _=>by kernel_rfl) (by kernel_rfl)) <|
   fnc (fnD (by kernel_rfl) (ag3 λ_ _ _ _=>by kernel_rfl) (by kernel_rfl)) <|
   fnc (fnD (by kernel_rfl) (ag3 λ_ _ _ _=>by kernel_rfl) (by kernel_rfl)) <|
   fnc (fnD (by kernel_rfl) (ag3 λ_ _ _ _=>by kernel_rfl) (by kernel_rfl)) <|
   fnc (fnD (by kernel_rfl) (ag3 λ_ _ _ _=>by kernel_rfl) (by kernel_rfl)) <|
   fnc (fnD (by kernel_rfl) (ag3 λ_ _ _ _=>by kernel_rfl) (by kernel_rfl)) <|
   fnc (fnD (by kernel_rfl) (ag4 λ_ _ _ _ _=>by kernel_rfl) (by kernel_rfl)) <|
   fnc (fnD (by kernel_rfl) (ag4 λ_ _ _ _ _=>by kernel_rfl) (by kernel_rfl)) <|
   fnc (fnE (by kernel_rfl) (ag5 λ_ _ _ _ _ _=>by kernel_rfl) (by kernel_rfl)) <|
   fnc (fnD (by kernel_rfl) (ag7 λ_ _ _ _ _ _ _ _=>by kernel_rfl) (by kernel_rfl)) <|
   fnc (fnD (by kernel_rfl) (ag7 λ_ _ _ _ _ _ _ _=>by kernel_rfl) (by kernel_rfl)) <|
   fnc (fnD (by kernel_rfl) (ag4 λ_ _ _ _ _=>by kernel_rfl) (by kernel_rfl)) <|
   fnc (fnD (by kernel_rfl) (ag1 λ_ _=>by kernel_rfl) (by kernel_rfl)) <|
   fnc (fnD (by kernel_rfl) (ag4 λ_ _ _ _ _=>by kernel_rfl) (by kernel_rfl)) <|
   fnc (fnD (by kernel_rfl) (ag1 λ_ _=>by kernel_rfl) (by kernel_rfl)) <|
   fnc (fnD (by kernel_rfl) (ag4 λ_ _ _ _ _=>by kernel_rfl) (by kernel_rfl)) <|
   fnc (fnE (by kernel_rfl) (ag2 λ_ _ _=>by kernel_rfl) (by kernel_rfl)) <|
   fnc (fnD (by kernel_rfl) (ag1 λ_ _=>by kernel_rfl) (by kernel_rfl)) <|
   fnc (fnD (by kernel_rfl) (ag2 λ_ _ _=>by kernel_rfl) (by kernel_rfl)) <|
   fnc (fnD (by kernel_rfl) (ag2 λ_ _ _=>by kernel_rfl) (by kernel_rfl)) <|
   fnc (fnD (by kernel_rfl) (ag2 λ_ _ _=>by kernel_rfl) (by kernel_rfl)) <|
   fnc (fnE (by kernel_rfl) (ag3 λ_ _ _ _=>by kernel_rfl) (by kernel_rfl)) <|
   fnc (fnE (by kernel_rfl) (ag4 λ_ _ _ _ _=>by kernel_rfl) (by kernel_rfl)) <|
   fnc (fnD (by kernel_rfl) (ag6 λ_ _ _ _ _ _ _=>by kernel_rfl) (by kernel_rfl)) <|
   fnc (fnD (by kernel_rfl) (ag2 λ_ _ _=>by kernel_rfl) (by kernel_rfl)) <|
   fnc (fnD (by kernel_rfl) (ag2 λ_ _ _=>by kernel_rfl) (by kernel_rfl)) <|
   fnc (fnD (by kernel_rfl) (ag3 λ_ _ _ _=>by kernel_rfl) (by kernel_rfl)) <|
   fnc (fnD (by kernel_rfl) (ag3 λ_ _ _ _=>by kernel_rfl) (by kernel_rfl)) <|
   fnc (fnD (by kernel_rfl) (ag2 λ_ _ _=>by kernel_rfl) (by kernel_rfl)) <|
   fnc (fnD (by kernel_rfl) (ag2 λ_ _ _=>by kernel_rfl) (by kernel_rfl)) <|
   fnc (fnD (by kernel_rfl) (ag3 λ_ _ _ _=>by kernel_rfl) (by kernel_rfl)) <|
   fnc (fnD (by kernel_rfl) (ag2 λ_ _ _=>by kernel_rfl) (by kernel_rfl)) <|
   fnc (fnD (by kernel_rfl) (arg0 λ_=>by kernel_rfl) (by kernel_rfl)) <|
   fnc (fnD (by kernel_rfl) (ag3 λ_ _ _ _=>by kernel_rfl) (by kernel_rfl)) <|
   fnc (fnD (by kernel_rfl) (ag4 λ_ _ _ _ _=>by kernel_rfl) (by kernel_rfl)) <|
   fnc (fnT (by kernel_rfl) (ag3 λ_ _ _ _=>by kernel_rfl) (by kernel_rfl)) <|
   fnc (fnT (by kernel_rfl) (ag4 λ_ _ _ _ _=>by kernel_rfl) (by kernel_rfl)) <|
   fnc (fnD (by kernel_rfl) (ag4 λ_ _ _ _ _=>by kernel_rfl) (by kernel_rfl)) <|
   λ_ z=>nomatch z))
  (fnD (by kernel_rfl) (ag1 λ_ _=>by kernel_rfl) (by kernel_rfl))
  (λ_ _ e=>so_lit (so_mem (Q:=SoQ _ _) (by
   repeat refine List.forall_mem_cons.2 ⟨⟨by kernel_rfl,by kernel_rfl⟩,?_⟩
   exact λ_ z=>nomatch z) e) e)
  (fnD (by kernel_rfl) (ag1 λ_ _=>by kernel_rfl) (by kernel_rfl))
  (by rfl)
  (by rfl)
  (by rfl)
  (by rfl)
  (rfl)
  (rfl)
  hT8 (Internal.list_same eu hL) hI (by omega) lo) λr s' h=>?_)
 obtain ⟨rfl,hk,h7,h0,h1,h2⟩:=h
 refine ⟨⟨.inl ⟨.bool true,.bool true,[],rfl,λ_=>rfl,.bool true,by wrow_post,λ_=>⟨List.nodup_nil,λa h=>by cases h⟩⟩,λb o e=>hk b o (of_hideAll _ e) (λz=>?_) λz=>?_,h2,h1.trans hg⟩,h7,h0,trivial⟩
 · subst z;exact absurd (e.symm.trans (hideAll_none (h:=s₁.heap) [987,980] (.head _))) (λq=>by cases q)
 · subst z;exact absurd (e.symm.trans (hideAll_none (h:=s₁.heap) [987,980] (.tail _ (.head _)))) (λq=>by cases q)
theorem PySem.Challenge.cw_nu0289_01_holds : PySem.Challenge.rw_nu0289_01.Holds :=
 Internal.hd
