import PyProof.Rows.All
import Wide.All
import OpenK.AllK
import PyProof.P3In
import PyProof.ListIndexNeg
import Wide.FinOn
import Wide.Well
import PySem.Challenge.RW_pq1074_01
set_option maxRecDepth 100000
set_option linter.unusedVariables false
set_option linter.unusedSimpArgs false
set_option Elab.async false
set_option maxHeartbeats 2000000
set_option genSizeOf false
set_option bootstrap.genMatcherCode false
set_option genInjectivity false
set_option genCtorIdx false
set_option tactic.hygienic false
section
namespace Dg
theorem bc {P:Prop} (h:¬ P→False):P:=Classical.byContradiction h
theorem sN {α:Type} {z:α} {C:Prop} (h:some z=none):C:=by cases h
theorem tF {C:Prop} (h:true=false):C:=by cases h
theorem fT {C:Prop} (h:false=true):C:=by cases h
theorem cN {α:Type} {a:α} {l:List α} {C:Prop} (h:a :: l=[]):C:=by cases h
theorem nS {α:Type} {z:α} {C:Prop} (h:none=some z):C:=by cases h
section
variable {C:Prop}
theorem gD {P0 P1 P2:Prop} (h:P0∧P1∧P2) (K:P0→P1→P2→C):C:=K h.1 h.2.1 h.2.2
theorem cw {P0 P1 P2:Prop} (h0:P0) (h1:P1) (h2:P2):P0∧P1∧P2:=⟨h0,h1,h2⟩
theorem gC {P0 P1 P2 P3:Prop} (h:P0∧P1∧P2∧P3) (K:P0→P1→P2→P3→C):C:=gD h.2 (K h.1)
theorem fS {P0 P1 P2 P3:Prop} (h0:P0) (h1:P1) (h2:P2) (h3:P3):P0∧P1∧P2∧P3:=⟨h0,cw h1 h2 h3⟩
theorem dR {P0 P1 P2 P3 P4:Prop} (h:P0∧P1∧P2∧P3∧P4) (K:P0→P1→P2→P3→P4→C):C:=gC h.2 (K h.1)
theorem ij {P0 P1 P2 P3 P4:Prop} (h0:P0) (h1:P1) (h2:P2) (h3:P3) (h4:P4):P0∧P1∧P2∧P3∧P4:=⟨h0,fS h1 h2 h3 h4⟩
theorem BA {P0 P1 P2 P3 P4 P5:Prop} (h:P0∧P1∧P2∧P3∧P4∧P5) (K:P0→P1→P2→P3→P4→P5→C):C:=dR h.2 (K h.1)
theorem xO {P0 P1 P2 P3 P4 P5:Prop} (h0:P0) (h1:P1) (h2:P2) (h3:P3) (h4:P4) (h5:P5):P0∧P1∧P2∧P3∧P4∧P5:=⟨h0,ij h1 h2 h3 h4 h5⟩
theorem pV {P0 P1 P2 P3 P4 P5 P6:Prop} (h:P0∧P1∧P2∧P3∧P4∧P5∧P6) (K:P0→P1→P2→P3→P4→P5→P6→C):C:=BA h.2 (K h.1)
theorem qL {P0 P1 P2 P3 P4 P5 P6:Prop} (h0:P0) (h1:P1) (h2:P2) (h3:P3) (h4:P4) (h5:P5) (h6:P6):P0∧P1∧P2∧P3∧P4∧P5∧P6:=⟨h0,xO h1 h2 h3 h4 h5 h6⟩
theorem Ee {P0 P1 P2 P3 P4 P5 P6 P7:Prop} (h:P0∧P1∧P2∧P3∧P4∧P5∧P6∧P7) (K:P0→P1→P2→P3→P4→P5→P6→P7→C):C:=pV h.2 (K h.1)
theorem EO {P0 P1 P2 P3 P4 P5 P6 P7:Prop} (h0:P0) (h1:P1) (h2:P2) (h3:P3) (h4:P4) (h5:P5) (h6:P6) (h7:P7):P0∧P1∧P2∧P3∧P4∧P5∧P6∧P7:=⟨h0,qL h1 h2 h3 h4 h5 h6 h7⟩
theorem Ed {α0:Type} {P0:α0→Prop} (h:∃ a0,P0 a0) (K:∀ (a0:α0),P0 a0→C):C:=h.elim fun a0 h=>K a0 h
theorem EN {α0:Type} {P0:α0→Prop} (a0:α0) (h0:P0 a0):∃ a0,P0 a0:=⟨a0,h0⟩
theorem aB {α0:Type} {P0 P1:α0→Prop} (h:∃ a0,P0 a0∧P1 a0) (K:∀ (a0:α0),P0 a0→P1 a0→C):C:=h.elim fun a0 h=>K a0 h.1 h.2
theorem m1a2 {α0:Type} {P0 P1:α0→Prop} (a0:α0) (h0:P0 a0) (h1:P1 a0):∃ a0,P0 a0∧P1 a0:=⟨a0,h0,h1⟩
theorem fq {α0:Type} {P0 P1 P2:α0→Prop} (h:∃ a0,P0 a0∧P1 a0∧P2 a0) (K:∀ (a0:α0),P0 a0→P1 a0→P2 a0→C):C:=h.elim fun a0 h=>gD h (K a0)
theorem dT {α0:Type} {P0 P1 P2:α0→Prop} (a0:α0) (h0:P0 a0) (h1:P1 a0) (h2:P2 a0):∃ a0,P0 a0∧P1 a0∧P2 a0:=⟨a0,cw h0 h1 h2⟩
theorem t4 {α0:Type} {P0 P1 P2 P3:α0→Prop} (h:∃ a0,P0 a0∧P1 a0∧P2 a0∧P3 a0) (K:∀ (a0:α0),P0 a0→P1 a0→P2 a0→P3 a0→C):C:=h.elim fun a0 h=>gC h (K a0)
theorem xN {α0:Type} {P0 P1 P2 P3:α0→Prop} (a0:α0) (h0:P0 a0) (h1:P1 a0) (h2:P2 a0) (h3:P3 a0):∃ a0,P0 a0∧P1 a0∧P2 a0∧P3 a0:=⟨a0,fS h0 h1 h2 h3⟩
theorem xe {α0:Type} {P0 P1 P2 P3 P4:α0→Prop} (h:∃ a0,P0 a0∧P1 a0∧P2 a0∧P3 a0∧P4 a0) (K:∀ (a0:α0),P0 a0→P1 a0→P2 a0→P3 a0→P4 a0→C):C:=h.elim fun a0 h=>dR h (K a0)
theorem m1a5 {α0:Type} {P0 P1 P2 P3 P4:α0→Prop} (a0:α0) (h0:P0 a0) (h1:P1 a0) (h2:P2 a0) (h3:P3 a0) (h4:P4 a0):∃ a0,P0 a0∧P1 a0∧P2 a0∧P3 a0∧P4 a0:=⟨a0,ij h0 h1 h2 h3 h4⟩
theorem Ec {α0:Type} {P0 P1 P2 P3 P4 P5:α0→Prop} (h:∃ a0,P0 a0∧P1 a0∧P2 a0∧P3 a0∧P4 a0∧P5 a0) (K:∀ (a0:α0),P0 a0→P1 a0→P2 a0→P3 a0→P4 a0→P5 a0→C):C:=h.elim fun a0 h=>BA h (K a0)
theorem EM {α0:Type} {P0 P1 P2 P3 P4 P5:α0→Prop} (a0:α0) (h0:P0 a0) (h1:P1 a0) (h2:P2 a0) (h3:P3 a0) (h4:P4 a0) (h5:P5 a0):∃ a0,P0 a0∧P1 a0∧P2 a0∧P3 a0∧P4 a0∧P5 a0:=⟨a0,xO h0 h1 h2 h3 h4 h5⟩
theorem Eb {α0:Type} {P0 P1 P2 P3 P4 P5 P6:α0→Prop} (h:∃ a0,P0 a0∧P1 a0∧P2 a0∧P3 a0∧P4 a0∧P5 a0∧P6 a0) (K:∀ (a0:α0),P0 a0→P1 a0→P2 a0→P3 a0→P4 a0→P5 a0→P6 a0→C):C:=h.elim fun a0 h=>pV h (K a0)
theorem EL {α0:Type} {P0 P1 P2 P3 P4 P5 P6:α0→Prop} (a0:α0) (h0:P0 a0) (h1:P1 a0) (h2:P2 a0) (h3:P3 a0) (h4:P4 a0) (h5:P5 a0) (h6:P6 a0):∃ a0,P0 a0∧P1 a0∧P2 a0∧P3 a0∧P4 a0∧P5 a0∧P6 a0:=⟨a0,qL h0 h1 h2 h3 h4 h5 h6⟩
theorem Ea {α0:Type} {P0 P1 P2 P3 P4 P5 P6 P7:α0→Prop} (h:∃ a0,P0 a0∧P1 a0∧P2 a0∧P3 a0∧P4 a0∧P5 a0∧P6 a0∧P7 a0) (K:∀ (a0:α0),P0 a0→P1 a0→P2 a0→P3 a0→P4 a0→P5 a0→P6 a0→P7 a0→C):C:=h.elim fun a0 h=>Ee h (K a0)
theorem EK {α0:Type} {P0 P1 P2 P3 P4 P5 P6 P7:α0→Prop} (a0:α0) (h0:P0 a0) (h1:P1 a0) (h2:P2 a0) (h3:P3 a0) (h4:P4 a0) (h5:P5 a0) (h6:P6 a0) (h7:P7 a0):∃ a0,P0 a0∧P1 a0∧P2 a0∧P3 a0∧P4 a0∧P5 a0∧P6 a0∧P7 a0:=⟨a0,EO h0 h1 h2 h3 h4 h5 h6 h7⟩
theorem cG {α0:Type} {α1:Type} {P0:α0→α1→Prop} (h:∃ a0,∃ a1,P0 a0 a1) (K:∀ (a0:α0) (a1:α1),P0 a0 a1→C):C:=h.elim fun a0 h=>Ed h (K a0)
theorem bV {α0:Type} {α1:Type} {P0:α0→α1→Prop} (a0:α0) (a1:α1) (h0:P0 a0 a1):∃ a0,∃ a1,P0 a0 a1:=⟨a0,EN a1 h0⟩
theorem eW {α0:Type} {α1:Type} {P0 P1:α0→α1→Prop} (h:∃ a0,∃ a1,P0 a0 a1∧P1 a0 a1) (K:∀ (a0:α0) (a1:α1),P0 a0 a1→P1 a0 a1→C):C:=h.elim fun a0 h=>aB h (K a0)
theorem g8 {α0:Type} {α1:Type} {P0 P1:α0→α1→Prop} (a0:α0) (a1:α1) (h0:P0 a0 a1) (h1:P1 a0 a1):∃ a0,∃ a1,P0 a0 a1∧P1 a0 a1:=⟨a0,m1a2 a1 h0 h1⟩
theorem cu {α0:Type} {α1:Type} {P0 P1 P2:α0→α1→Prop} (h:∃ a0,∃ a1,P0 a0 a1∧P1 a0 a1∧P2 a0 a1) (K:∀ (a0:α0) (a1:α1),P0 a0 a1→P1 a0 a1→P2 a0 a1→C):C:=h.elim fun a0 h=>fq h (K a0)
theorem dr {α0:Type} {α1:Type} {P0 P1 P2:α0→α1→Prop} (a0:α0) (a1:α1) (h0:P0 a0 a1) (h1:P1 a0 a1) (h2:P2 a0 a1):∃ a0,∃ a1,P0 a0 a1∧P1 a0 a1∧P2 a0 a1:=⟨a0,dT a1 h0 h1 h2⟩
theorem tZ {α0:Type} {α1:Type} {P0 P1 P2 P3:α0→α1→Prop} (h:∃ a0,∃ a1,P0 a0 a1∧P1 a0 a1∧P2 a0 a1∧P3 a0 a1) (K:∀ (a0:α0) (a1:α1),P0 a0 a1→P1 a0 a1→P2 a0 a1→P3 a0 a1→C):C:=h.elim fun a0 h=>t4 h (K a0)
theorem m2a4 {α0:Type} {α1:Type} {P0 P1 P2 P3:α0→α1→Prop} (a0:α0) (a1:α1) (h0:P0 a0 a1) (h1:P1 a0 a1) (h2:P2 a0 a1) (h3:P3 a0 a1):∃ a0,∃ a1,P0 a0 a1∧P1 a0 a1∧P2 a0 a1∧P3 a0 a1:=⟨a0,xN a1 h0 h1 h2 h3⟩
theorem Bz {α0:Type} {α1:Type} {P0 P1 P2 P3 P4:α0→α1→Prop} (h:∃ a0,∃ a1,P0 a0 a1∧P1 a0 a1∧P2 a0 a1∧P3 a0 a1∧P4 a0 a1) (K:∀ (a0:α0) (a1:α1),P0 a0 a1→P1 a0 a1→P2 a0 a1→P3 a0 a1→P4 a0 a1→C):C:=h.elim fun a0 h=>xe h (K a0)
theorem xM {α0:Type} {α1:Type} {P0 P1 P2 P3 P4:α0→α1→Prop} (a0:α0) (a1:α1) (h0:P0 a0 a1) (h1:P1 a0 a1) (h2:P2 a0 a1) (h3:P3 a0 a1) (h4:P4 a0 a1):∃ a0,∃ a1,P0 a0 a1∧P1 a0 a1∧P2 a0 a1∧P3 a0 a1∧P4 a0 a1:=⟨a0,m1a5 a1 h0 h1 h2 h3 h4⟩
theorem D9 {α0:Type} {α1:Type} {P0 P1 P2 P3 P4 P5:α0→α1→Prop} (h:∃ a0,∃ a1,P0 a0 a1∧P1 a0 a1∧P2 a0 a1∧P3 a0 a1∧P4 a0 a1∧P5 a0 a1) (K:∀ (a0:α0) (a1:α1),P0 a0 a1→P1 a0 a1→P2 a0 a1→P3 a0 a1→P4 a0 a1→P5 a0 a1→C):C:=h.elim fun a0 h=>Ec h (K a0)
theorem zZ {α0:Type} {α1:Type} {P0 P1 P2 P3 P4 P5:α0→α1→Prop} (a0:α0) (a1:α1) (h0:P0 a0 a1) (h1:P1 a0 a1) (h2:P2 a0 a1) (h3:P3 a0 a1) (h4:P4 a0 a1) (h5:P5 a0 a1):∃ a0,∃ a1,P0 a0 a1∧P1 a0 a1∧P2 a0 a1∧P3 a0 a1∧P4 a0 a1∧P5 a0 a1:=⟨a0,EM a1 h0 h1 h2 h3 h4 h5⟩
theorem vh {α0:Type} {α1:Type} {P0 P1 P2 P3 P4 P5 P6:α0→α1→Prop} (h:∃ a0,∃ a1,P0 a0 a1∧P1 a0 a1∧P2 a0 a1∧P3 a0 a1∧P4 a0 a1∧P5 a0 a1∧P6 a0 a1) (K:∀ (a0:α0) (a1:α1),P0 a0 a1→P1 a0 a1→P2 a0 a1→P3 a0 a1→P4 a0 a1→P5 a0 a1→P6 a0 a1→C):C:=h.elim fun a0 h=>Eb h (K a0)
theorem zY {α0:Type} {α1:Type} {P0 P1 P2 P3 P4 P5 P6:α0→α1→Prop} (a0:α0) (a1:α1) (h0:P0 a0 a1) (h1:P1 a0 a1) (h2:P2 a0 a1) (h3:P3 a0 a1) (h4:P4 a0 a1) (h5:P5 a0 a1) (h6:P6 a0 a1):∃ a0,∃ a1,P0 a0 a1∧P1 a0 a1∧P2 a0 a1∧P3 a0 a1∧P4 a0 a1∧P5 a0 a1∧P6 a0 a1:=⟨a0,EL a1 h0 h1 h2 h3 h4 h5 h6⟩
theorem By {α0:Type} {α1:Type} {P0 P1 P2 P3 P4 P5 P6 P7:α0→α1→Prop} (h:∃ a0,∃ a1,P0 a0 a1∧P1 a0 a1∧P2 a0 a1∧P3 a0 a1∧P4 a0 a1∧P5 a0 a1∧P6 a0 a1∧P7 a0 a1) (K:∀ (a0:α0) (a1:α1),P0 a0 a1→P1 a0 a1→P2 a0 a1→P3 a0 a1→P4 a0 a1→P5 a0 a1→P6 a0 a1→P7 a0 a1→C):C:=h.elim fun a0 h=>Ea h (K a0)
theorem B1 {α0:Type} {α1:Type} {P0 P1 P2 P3 P4 P5 P6 P7:α0→α1→Prop} (a0:α0) (a1:α1) (h0:P0 a0 a1) (h1:P1 a0 a1) (h2:P2 a0 a1) (h3:P3 a0 a1) (h4:P4 a0 a1) (h5:P5 a0 a1) (h6:P6 a0 a1) (h7:P7 a0 a1):∃ a0,∃ a1,P0 a0 a1∧P1 a0 a1∧P2 a0 a1∧P3 a0 a1∧P4 a0 a1∧P5 a0 a1∧P6 a0 a1∧P7 a0 a1:=⟨a0,EK a1 h0 h1 h2 h3 h4 h5 h6 h7⟩
theorem n5 {α0:Type} {α1:Type} {α2:Type} {P0:α0→α1→α2→Prop} (h:∃ a0,∃ a1,∃ a2,P0 a0 a1 a2) (K:∀ (a0:α0) (a1:α1) (a2:α2),P0 a0 a1 a2→C):C:=h.elim fun a0 h=>cG h (K a0)
theorem pC {α0:Type} {α1:Type} {α2:Type} {P0:α0→α1→α2→Prop} (a0:α0) (a1:α1) (a2:α2) (h0:P0 a0 a1 a2):∃ a0,∃ a1,∃ a2,P0 a0 a1 a2:=⟨a0,bV a1 a2 h0⟩
theorem dB {α0:Type} {α1:Type} {α2:Type} {P0 P1:α0→α1→α2→Prop} (h:∃ a0,∃ a1,∃ a2,P0 a0 a1 a2∧P1 a0 a1 a2) (K:∀ (a0:α0) (a1:α1) (a2:α2),P0 a0 a1 a2→P1 a0 a1 a2→C):C:=h.elim fun a0 h=>eW h (K a0)
theorem fc {α0:Type} {α1:Type} {α2:Type} {P0 P1:α0→α1→α2→Prop} (a0:α0) (a1:α1) (a2:α2) (h0:P0 a0 a1 a2) (h1:P1 a0 a1 a2):∃ a0,∃ a1,∃ a2,P0 a0 a1 a2∧P1 a0 a1 a2:=⟨a0,g8 a1 a2 h0 h1⟩
theorem eV {α0:Type} {α1:Type} {α2:Type} {P0 P1 P2:α0→α1→α2→Prop} (h:∃ a0,∃ a1,∃ a2,P0 a0 a1 a2∧P1 a0 a1 a2∧P2 a0 a1 a2) (K:∀ (a0:α0) (a1:α1) (a2:α2),P0 a0 a1 a2→P1 a0 a1 a2→P2 a0 a1 a2→C):C:=h.elim fun a0 h=>cu h (K a0)
theorem k9 {α0:Type} {α1:Type} {α2:Type} {P0 P1 P2:α0→α1→α2→Prop} (a0:α0) (a1:α1) (a2:α2) (h0:P0 a0 a1 a2) (h1:P1 a0 a1 a2) (h2:P2 a0 a1 a2):∃ a0,∃ a1,∃ a2,P0 a0 a1 a2∧P1 a0 a1 a2∧P2 a0 a1 a2:=⟨a0,dr a1 a2 h0 h1 h2⟩
theorem ga {α0:Type} {α1:Type} {α2:Type} {P0 P1 P2 P3:α0→α1→α2→Prop} (h:∃ a0,∃ a1,∃ a2,P0 a0 a1 a2∧P1 a0 a1 a2∧P2 a0 a1 a2∧P3 a0 a1 a2) (K:∀ (a0:α0) (a1:α1) (a2:α2),P0 a0 a1 a2→P1 a0 a1 a2→P2 a0 a1 a2→P3 a0 a1 a2→C):C:=h.elim fun a0 h=>tZ h (K a0)
theorem jL {α0:Type} {α1:Type} {α2:Type} {P0 P1 P2 P3:α0→α1→α2→Prop} (a0:α0) (a1:α1) (a2:α2) (h0:P0 a0 a1 a2) (h1:P1 a0 a1 a2) (h2:P2 a0 a1 a2) (h3:P3 a0 a1 a2):∃ a0,∃ a1,∃ a2,P0 a0 a1 a2∧P1 a0 a1 a2∧P2 a0 a1 a2∧P3 a0 a1 a2:=⟨a0,m2a4 a1 a2 h0 h1 h2 h3⟩
theorem D8 {α0:Type} {α1:Type} {α2:Type} {P0 P1 P2 P3 P4:α0→α1→α2→Prop} (h:∃ a0,∃ a1,∃ a2,P0 a0 a1 a2∧P1 a0 a1 a2∧P2 a0 a1 a2∧P3 a0 a1 a2∧P4 a0 a1 a2) (K:∀ (a0:α0) (a1:α1) (a2:α2),P0 a0 a1 a2→P1 a0 a1 a2→P2 a0 a1 a2→P3 a0 a1 a2→P4 a0 a1 a2→C):C:=h.elim fun a0 h=>Bz h (K a0)
theorem EJ {α0:Type} {α1:Type} {α2:Type} {P0 P1 P2 P3 P4:α0→α1→α2→Prop} (a0:α0) (a1:α1) (a2:α2) (h0:P0 a0 a1 a2) (h1:P1 a0 a1 a2) (h2:P2 a0 a1 a2) (h3:P3 a0 a1 a2) (h4:P4 a0 a1 a2):∃ a0,∃ a1,∃ a2,P0 a0 a1 a2∧P1 a0 a1 a2∧P2 a0 a1 a2∧P3 a0 a1 a2∧P4 a0 a1 a2:=⟨a0,xM a1 a2 h0 h1 h2 h3 h4⟩
theorem rJ {α0:Type} {α1:Type} {α2:Type} {P0 P1 P2 P3 P4 P5:α0→α1→α2→Prop} (h:∃ a0,∃ a1,∃ a2,P0 a0 a1 a2∧P1 a0 a1 a2∧P2 a0 a1 a2∧P3 a0 a1 a2∧P4 a0 a1 a2∧P5 a0 a1 a2) (K:∀ (a0:α0) (a1:α1) (a2:α2),P0 a0 a1 a2→P1 a0 a1 a2→P2 a0 a1 a2→P3 a0 a1 a2→P4 a0 a1 a2→P5 a0 a1 a2→C):C:=h.elim fun a0 h=>D9 h (K a0)
theorem sb {α0:Type} {α1:Type} {α2:Type} {P0 P1 P2 P3 P4 P5:α0→α1→α2→Prop} (a0:α0) (a1:α1) (a2:α2) (h0:P0 a0 a1 a2) (h1:P1 a0 a1 a2) (h2:P2 a0 a1 a2) (h3:P3 a0 a1 a2) (h4:P4 a0 a1 a2) (h5:P5 a0 a1 a2):∃ a0,∃ a1,∃ a2,P0 a0 a1 a2∧P1 a0 a1 a2∧P2 a0 a1 a2∧P3 a0 a1 a2∧P4 a0 a1 a2∧P5 a0 a1 a2:=⟨a0,zZ a1 a2 h0 h1 h2 h3 h4 h5⟩
theorem D7 {α0:Type} {α1:Type} {α2:Type} {P0 P1 P2 P3 P4 P5 P6:α0→α1→α2→Prop} (h:∃ a0,∃ a1,∃ a2,P0 a0 a1 a2∧P1 a0 a1 a2∧P2 a0 a1 a2∧P3 a0 a1 a2∧P4 a0 a1 a2∧P5 a0 a1 a2∧P6 a0 a1 a2) (K:∀ (a0:α0) (a1:α1) (a2:α2),P0 a0 a1 a2→P1 a0 a1 a2→P2 a0 a1 a2→P3 a0 a1 a2→P4 a0 a1 a2→P5 a0 a1 a2→P6 a0 a1 a2→C):C:=h.elim fun a0 h=>vh h (K a0)
theorem zX {α0:Type} {α1:Type} {α2:Type} {P0 P1 P2 P3 P4 P5 P6:α0→α1→α2→Prop} (a0:α0) (a1:α1) (a2:α2) (h0:P0 a0 a1 a2) (h1:P1 a0 a1 a2) (h2:P2 a0 a1 a2) (h3:P3 a0 a1 a2) (h4:P4 a0 a1 a2) (h5:P5 a0 a1 a2) (h6:P6 a0 a1 a2):∃ a0,∃ a1,∃ a2,P0 a0 a1 a2∧P1 a0 a1 a2∧P2 a0 a1 a2∧P3 a0 a1 a2∧P4 a0 a1 a2∧P5 a0 a1 a2∧P6 a0 a1 a2:=⟨a0,zY a1 a2 h0 h1 h2 h3 h4 h5 h6⟩
theorem D6 {α0:Type} {α1:Type} {α2:Type} {P0 P1 P2 P3 P4 P5 P6 P7:α0→α1→α2→Prop} (h:∃ a0,∃ a1,∃ a2,P0 a0 a1 a2∧P1 a0 a1 a2∧P2 a0 a1 a2∧P3 a0 a1 a2∧P4 a0 a1 a2∧P5 a0 a1 a2∧P6 a0 a1 a2∧P7 a0 a1 a2) (K:∀ (a0:α0) (a1:α1) (a2:α2),P0 a0 a1 a2→P1 a0 a1 a2→P2 a0 a1 a2→P3 a0 a1 a2→P4 a0 a1 a2→P5 a0 a1 a2→P6 a0 a1 a2→P7 a0 a1 a2→C):C:=h.elim fun a0 h=>By h (K a0)
theorem EI {α0:Type} {α1:Type} {α2:Type} {P0 P1 P2 P3 P4 P5 P6 P7:α0→α1→α2→Prop} (a0:α0) (a1:α1) (a2:α2) (h0:P0 a0 a1 a2) (h1:P1 a0 a1 a2) (h2:P2 a0 a1 a2) (h3:P3 a0 a1 a2) (h4:P4 a0 a1 a2) (h5:P5 a0 a1 a2) (h6:P6 a0 a1 a2) (h7:P7 a0 a1 a2):∃ a0,∃ a1,∃ a2,P0 a0 a1 a2∧P1 a0 a1 a2∧P2 a0 a1 a2∧P3 a0 a1 a2∧P4 a0 a1 a2∧P5 a0 a1 a2∧P6 a0 a1 a2∧P7 a0 a1 a2:=⟨a0,B1 a1 a2 h0 h1 h2 h3 h4 h5 h6 h7⟩
theorem tY {α0:Type} {α1:Type} {α2:Type} {α3:Type} {P0:α0→α1→α2→α3→Prop} (h:∃ a0,∃ a1,∃ a2,∃ a3,P0 a0 a1 a2 a3) (K:∀ (a0:α0) (a1:α1) (a2:α2) (a3:α3),P0 a0 a1 a2 a3→C):C:=h.elim fun a0 h=>n5 h (K a0)
theorem uC {α0:Type} {α1:Type} {α2:Type} {α3:Type} {P0:α0→α1→α2→α3→Prop} (a0:α0) (a1:α1) (a2:α2) (a3:α3) (h0:P0 a0 a1 a2 a3):∃ a0,∃ a1,∃ a2,∃ a3,P0 a0 a1 a2 a3:=⟨a0,pC a1 a2 a3 h0⟩
theorem vg {α0:Type} {α1:Type} {α2:Type} {α3:Type} {P0 P1:α0→α1→α2→α3→Prop} (h:∃ a0,∃ a1,∃ a2,∃ a3,P0 a0 a1 a2 a3∧P1 a0 a1 a2 a3) (K:∀ (a0:α0) (a1:α1) (a2:α2) (a3:α3),P0 a0 a1 a2 a3→P1 a0 a1 a2 a3→C):C:=h.elim fun a0 h=>dB h (K a0)
theorem qK {α0:Type} {α1:Type} {α2:Type} {α3:Type} {P0 P1:α0→α1→α2→α3→Prop} (a0:α0) (a1:α1) (a2:α2) (a3:α3) (h0:P0 a0 a1 a2 a3) (h1:P1 a0 a1 a2 a3):∃ a0,∃ a1,∃ a2,∃ a3,P0 a0 a1 a2 a3∧P1 a0 a1 a2 a3:=⟨a0,fc a1 a2 a3 h0 h1⟩
theorem Bx {α0:Type} {α1:Type} {α2:Type} {α3:Type} {P0 P1 P2:α0→α1→α2→α3→Prop} (h:∃ a0,∃ a1,∃ a2,∃ a3,P0 a0 a1 a2 a3∧P1 a0 a1 a2 a3∧P2 a0 a1 a2 a3) (K:∀ (a0:α0) (a1:α1) (a2:α2) (a3:α3),P0 a0 a1 a2 a3→P1 a0 a1 a2 a3→P2 a0 a1 a2 a3→C):C:=h.elim fun a0 h=>eV h (K a0)
theorem uB {α0:Type} {α1:Type} {α2:Type} {α3:Type} {P0 P1 P2:α0→α1→α2→α3→Prop} (a0:α0) (a1:α1) (a2:α2) (a3:α3) (h0:P0 a0 a1 a2 a3) (h1:P1 a0 a1 a2 a3) (h2:P2 a0 a1 a2 a3):∃ a0,∃ a1,∃ a2,∃ a3,P0 a0 a1 a2 a3∧P1 a0 a1 a2 a3∧P2 a0 a1 a2 a3:=⟨a0,k9 a1 a2 a3 h0 h1 h2⟩
theorem D5 {α0:Type} {α1:Type} {α2:Type} {α3:Type} {P0 P1 P2 P3:α0→α1→α2→α3→Prop} (h:∃ a0,∃ a1,∃ a2,∃ a3,P0 a0 a1 a2 a3∧P1 a0 a1 a2 a3∧P2 a0 a1 a2 a3∧P3 a0 a1 a2 a3) (K:∀ (a0:α0) (a1:α1) (a2:α2) (a3:α3),P0 a0 a1 a2 a3→P1 a0 a1 a2 a3→P2 a0 a1 a2 a3→P3 a0 a1 a2 a3→C):C:=h.elim fun a0 h=>ga h (K a0)
theorem EH {α0:Type} {α1:Type} {α2:Type} {α3:Type} {P0 P1 P2 P3:α0→α1→α2→α3→Prop} (a0:α0) (a1:α1) (a2:α2) (a3:α3) (h0:P0 a0 a1 a2 a3) (h1:P1 a0 a1 a2 a3) (h2:P2 a0 a1 a2 a3) (h3:P3 a0 a1 a2 a3):∃ a0,∃ a1,∃ a2,∃ a3,P0 a0 a1 a2 a3∧P1 a0 a1 a2 a3∧P2 a0 a1 a2 a3∧P3 a0 a1 a2 a3:=⟨a0,jL a1 a2 a3 h0 h1 h2 h3⟩
theorem D4 {α0:Type} {α1:Type} {α2:Type} {α3:Type} {P0 P1 P2 P3 P4:α0→α1→α2→α3→Prop} (h:∃ a0,∃ a1,∃ a2,∃ a3,P0 a0 a1 a2 a3∧P1 a0 a1 a2 a3∧P2 a0 a1 a2 a3∧P3 a0 a1 a2 a3∧P4 a0 a1 a2 a3) (K:∀ (a0:α0) (a1:α1) (a2:α2) (a3:α3),P0 a0 a1 a2 a3→P1 a0 a1 a2 a3→P2 a0 a1 a2 a3→P3 a0 a1 a2 a3→P4 a0 a1 a2 a3→C):C:=h.elim fun a0 h=>D8 h (K a0)
theorem EG {α0:Type} {α1:Type} {α2:Type} {α3:Type} {P0 P1 P2 P3 P4:α0→α1→α2→α3→Prop} (a0:α0) (a1:α1) (a2:α2) (a3:α3) (h0:P0 a0 a1 a2 a3) (h1:P1 a0 a1 a2 a3) (h2:P2 a0 a1 a2 a3) (h3:P3 a0 a1 a2 a3) (h4:P4 a0 a1 a2 a3):∃ a0,∃ a1,∃ a2,∃ a3,P0 a0 a1 a2 a3∧P1 a0 a1 a2 a3∧P2 a0 a1 a2 a3∧P3 a0 a1 a2 a3∧P4 a0 a1 a2 a3:=⟨a0,EJ a1 a2 a3 h0 h1 h2 h3 h4⟩
theorem EF {α0:Type} {α1:Type} {α2:Type} {α3:Type} {P0 P1 P2 P3 P4 P5:α0→α1→α2→α3→Prop} (a0:α0) (a1:α1) (a2:α2) (a3:α3) (h0:P0 a0 a1 a2 a3) (h1:P1 a0 a1 a2 a3) (h2:P2 a0 a1 a2 a3) (h3:P3 a0 a1 a2 a3) (h4:P4 a0 a1 a2 a3) (h5:P5 a0 a1 a2 a3):∃ a0,∃ a1,∃ a2,∃ a3,P0 a0 a1 a2 a3∧P1 a0 a1 a2 a3∧P2 a0 a1 a2 a3∧P3 a0 a1 a2 a3∧P4 a0 a1 a2 a3∧P5 a0 a1 a2 a3:=⟨a0,sb a1 a2 a3 h0 h1 h2 h3 h4 h5⟩
theorem D2 {α0:Type} {α1:Type} {α2:Type} {α3:Type} {P0 P1 P2 P3 P4 P5 P6:α0→α1→α2→α3→Prop} (h:∃ a0,∃ a1,∃ a2,∃ a3,P0 a0 a1 a2 a3∧P1 a0 a1 a2 a3∧P2 a0 a1 a2 a3∧P3 a0 a1 a2 a3∧P4 a0 a1 a2 a3∧P5 a0 a1 a2 a3∧P6 a0 a1 a2 a3) (K:∀ (a0:α0) (a1:α1) (a2:α2) (a3:α3),P0 a0 a1 a2 a3→P1 a0 a1 a2 a3→P2 a0 a1 a2 a3→P3 a0 a1 a2 a3→P4 a0 a1 a2 a3→P5 a0 a1 a2 a3→P6 a0 a1 a2 a3→C):C:=h.elim fun a0 h=>D7 h (K a0)
theorem EE {α0:Type} {α1:Type} {α2:Type} {α3:Type} {P0 P1 P2 P3 P4 P5 P6:α0→α1→α2→α3→Prop} (a0:α0) (a1:α1) (a2:α2) (a3:α3) (h0:P0 a0 a1 a2 a3) (h1:P1 a0 a1 a2 a3) (h2:P2 a0 a1 a2 a3) (h3:P3 a0 a1 a2 a3) (h4:P4 a0 a1 a2 a3) (h5:P5 a0 a1 a2 a3) (h6:P6 a0 a1 a2 a3):∃ a0,∃ a1,∃ a2,∃ a3,P0 a0 a1 a2 a3∧P1 a0 a1 a2 a3∧P2 a0 a1 a2 a3∧P3 a0 a1 a2 a3∧P4 a0 a1 a2 a3∧P5 a0 a1 a2 a3∧P6 a0 a1 a2 a3:=⟨a0,zX a1 a2 a3 h0 h1 h2 h3 h4 h5 h6⟩
theorem zn {α0:Type} {α1:Type} {α2:Type} {α3:Type} {P0 P1 P2 P3 P4 P5 P6 P7:α0→α1→α2→α3→Prop} (h:∃ a0,∃ a1,∃ a2,∃ a3,P0 a0 a1 a2 a3∧P1 a0 a1 a2 a3∧P2 a0 a1 a2 a3∧P3 a0 a1 a2 a3∧P4 a0 a1 a2 a3∧P5 a0 a1 a2 a3∧P6 a0 a1 a2 a3∧P7 a0 a1 a2 a3) (K:∀ (a0:α0) (a1:α1) (a2:α2) (a3:α3),P0 a0 a1 a2 a3→P1 a0 a1 a2 a3→P2 a0 a1 a2 a3→P3 a0 a1 a2 a3→P4 a0 a1 a2 a3→P5 a0 a1 a2 a3→P6 a0 a1 a2 a3→P7 a0 a1 a2 a3→C):C:=h.elim fun a0 h=>D6 h (K a0)
theorem B0 {α0:Type} {α1:Type} {α2:Type} {α3:Type} {P0 P1 P2 P3 P4 P5 P6 P7:α0→α1→α2→α3→Prop} (a0:α0) (a1:α1) (a2:α2) (a3:α3) (h0:P0 a0 a1 a2 a3) (h1:P1 a0 a1 a2 a3) (h2:P2 a0 a1 a2 a3) (h3:P3 a0 a1 a2 a3) (h4:P4 a0 a1 a2 a3) (h5:P5 a0 a1 a2 a3) (h6:P6 a0 a1 a2 a3) (h7:P7 a0 a1 a2 a3):∃ a0,∃ a1,∃ a2,∃ a3,P0 a0 a1 a2 a3∧P1 a0 a1 a2 a3∧P2 a0 a1 a2 a3∧P3 a0 a1 a2 a3∧P4 a0 a1 a2 a3∧P5 a0 a1 a2 a3∧P6 a0 a1 a2 a3∧P7 a0 a1 a2 a3:=⟨a0,EI a1 a2 a3 h0 h1 h2 h3 h4 h5 h6 h7⟩
theorem pg {α0:Type} {α1:Type} {α2:Type} {α3:Type} {α4:Type} {P0:α0→α1→α2→α3→α4→Prop} (h:∃ a0,∃ a1,∃ a2,∃ a3,∃ a4,P0 a0 a1 a2 a3 a4) (K:∀ (a0:α0) (a1:α1) (a2:α2) (a3:α3) (a4:α4),P0 a0 a1 a2 a3 a4→C):C:=h.elim fun a0 h=>tY h (K a0)
theorem pB {α0:Type} {α1:Type} {α2:Type} {α3:Type} {α4:Type} {P0:α0→α1→α2→α3→α4→Prop} (a0:α0) (a1:α1) (a2:α2) (a3:α3) (a4:α4) (h0:P0 a0 a1 a2 a3 a4):∃ a0,∃ a1,∃ a2,∃ a3,∃ a4,P0 a0 a1 a2 a3 a4:=⟨a0,uC a1 a2 a3 a4 h0⟩
theorem zm {α0:Type} {α1:Type} {α2:Type} {α3:Type} {α4:Type} {P0 P1:α0→α1→α2→α3→α4→Prop} (h:∃ a0,∃ a1,∃ a2,∃ a3,∃ a4,P0 a0 a1 a2 a3 a4∧P1 a0 a1 a2 a3 a4) (K:∀ (a0:α0) (a1:α1) (a2:α2) (a3:α3) (a4:α4),P0 a0 a1 a2 a3 a4→P1 a0 a1 a2 a3 a4→C):C:=h.elim fun a0 h=>vg h (K a0)
theorem xL {α0:Type} {α1:Type} {α2:Type} {α3:Type} {α4:Type} {P0 P1:α0→α1→α2→α3→α4→Prop} (a0:α0) (a1:α1) (a2:α2) (a3:α3) (a4:α4) (h0:P0 a0 a1 a2 a3 a4) (h1:P1 a0 a1 a2 a3 a4):∃ a0,∃ a1,∃ a2,∃ a3,∃ a4,P0 a0 a1 a2 a3 a4∧P1 a0 a1 a2 a3 a4:=⟨a0,qK a1 a2 a3 a4 h0 h1⟩
theorem nZ {α0:Type} {α1:Type} {α2:Type} {α3:Type} {α4:Type} {P0 P1 P2 P3:α0→α1→α2→α3→α4→Prop} (h:∃ a0,∃ a1,∃ a2,∃ a3,∃ a4,P0 a0 a1 a2 a3 a4∧P1 a0 a1 a2 a3 a4∧P2 a0 a1 a2 a3 a4∧P3 a0 a1 a2 a3 a4) (K:∀ (a0:α0) (a1:α1) (a2:α2) (a3:α3) (a4:α4),P0 a0 a1 a2 a3 a4→P1 a0 a1 a2 a3 a4→P2 a0 a1 a2 a3 a4→P3 a0 a1 a2 a3 a4→C):C:=h.elim fun a0 h=>D5 h (K a0)
theorem uA {α0:Type} {α1:Type} {α2:Type} {α3:Type} {α4:Type} {P0 P1 P2 P3:α0→α1→α2→α3→α4→Prop} (a0:α0) (a1:α1) (a2:α2) (a3:α3) (a4:α4) (h0:P0 a0 a1 a2 a3 a4) (h1:P1 a0 a1 a2 a3 a4) (h2:P2 a0 a1 a2 a3 a4) (h3:P3 a0 a1 a2 a3 a4):∃ a0,∃ a1,∃ a2,∃ a3,∃ a4,P0 a0 a1 a2 a3 a4∧P1 a0 a1 a2 a3 a4∧P2 a0 a1 a2 a3 a4∧P3 a0 a1 a2 a3 a4:=⟨a0,EH a1 a2 a3 a4 h0 h1 h2 h3⟩
theorem D1 {α0:Type} {α1:Type} {α2:Type} {α3:Type} {α4:Type} {P0 P1 P2 P3 P4:α0→α1→α2→α3→α4→Prop} (h:∃ a0,∃ a1,∃ a2,∃ a3,∃ a4,P0 a0 a1 a2 a3 a4∧P1 a0 a1 a2 a3 a4∧P2 a0 a1 a2 a3 a4∧P3 a0 a1 a2 a3 a4∧P4 a0 a1 a2 a3 a4) (K:∀ (a0:α0) (a1:α1) (a2:α2) (a3:α3) (a4:α4),P0 a0 a1 a2 a3 a4→P1 a0 a1 a2 a3 a4→P2 a0 a1 a2 a3 a4→P3 a0 a1 a2 a3 a4→P4 a0 a1 a2 a3 a4→C):C:=h.elim fun a0 h=>D4 h (K a0)
theorem ED {α0:Type} {α1:Type} {α2:Type} {α3:Type} {α4:Type} {P0 P1 P2 P3 P4:α0→α1→α2→α3→α4→Prop} (a0:α0) (a1:α1) (a2:α2) (a3:α3) (a4:α4) (h0:P0 a0 a1 a2 a3 a4) (h1:P1 a0 a1 a2 a3 a4) (h2:P2 a0 a1 a2 a3 a4) (h3:P3 a0 a1 a2 a3 a4) (h4:P4 a0 a1 a2 a3 a4):∃ a0,∃ a1,∃ a2,∃ a3,∃ a4,P0 a0 a1 a2 a3 a4∧P1 a0 a1 a2 a3 a4∧P2 a0 a1 a2 a3 a4∧P3 a0 a1 a2 a3 a4∧P4 a0 a1 a2 a3 a4:=⟨a0,EG a1 a2 a3 a4 h0 h1 h2 h3 h4⟩
theorem Bw {α0:Type} {α1:Type} {α2:Type} {α3:Type} {α4:Type} {P0 P1 P2 P3 P4 P5 P6:α0→α1→α2→α3→α4→Prop} (h:∃ a0,∃ a1,∃ a2,∃ a3,∃ a4,P0 a0 a1 a2 a3 a4∧P1 a0 a1 a2 a3 a4∧P2 a0 a1 a2 a3 a4∧P3 a0 a1 a2 a3 a4∧P4 a0 a1 a2 a3 a4∧P5 a0 a1 a2 a3 a4∧P6 a0 a1 a2 a3 a4) (K:∀ (a0:α0) (a1:α1) (a2:α2) (a3:α3) (a4:α4),P0 a0 a1 a2 a3 a4→P1 a0 a1 a2 a3 a4→P2 a0 a1 a2 a3 a4→P3 a0 a1 a2 a3 a4→P4 a0 a1 a2 a3 a4→P5 a0 a1 a2 a3 a4→P6 a0 a1 a2 a3 a4→C):C:=h.elim fun a0 h=>D2 h (K a0)
theorem zW {α0:Type} {α1:Type} {α2:Type} {α3:Type} {α4:Type} {P0 P1 P2 P3 P4 P5 P6:α0→α1→α2→α3→α4→Prop} (a0:α0) (a1:α1) (a2:α2) (a3:α3) (a4:α4) (h0:P0 a0 a1 a2 a3 a4) (h1:P1 a0 a1 a2 a3 a4) (h2:P2 a0 a1 a2 a3 a4) (h3:P3 a0 a1 a2 a3 a4) (h4:P4 a0 a1 a2 a3 a4) (h5:P5 a0 a1 a2 a3 a4) (h6:P6 a0 a1 a2 a3 a4):∃ a0,∃ a1,∃ a2,∃ a3,∃ a4,P0 a0 a1 a2 a3 a4∧P1 a0 a1 a2 a3 a4∧P2 a0 a1 a2 a3 a4∧P3 a0 a1 a2 a3 a4∧P4 a0 a1 a2 a3 a4∧P5 a0 a1 a2 a3 a4∧P6 a0 a1 a2 a3 a4:=⟨a0,EE a1 a2 a3 a4 h0 h1 h2 h3 h4 h5 h6⟩
theorem vf {α0:Type} {α1:Type} {α2:Type} {α3:Type} {α4:Type} {α5:Type} {P0:α0→α1→α2→α3→α4→α5→Prop} (h:∃ a0,∃ a1,∃ a2,∃ a3,∃ a4,∃ a5,P0 a0 a1 a2 a3 a4 a5) (K:∀ (a0:α0) (a1:α1) (a2:α2) (a3:α3) (a4:α4) (a5:α5),P0 a0 a1 a2 a3 a4 a5→C):C:=h.elim fun a0 h=>pg h (K a0)
theorem pA {α0:Type} {α1:Type} {α2:Type} {α3:Type} {α4:Type} {α5:Type} {P0:α0→α1→α2→α3→α4→α5→Prop} (a0:α0) (a1:α1) (a2:α2) (a3:α3) (a4:α4) (a5:α5) (h0:P0 a0 a1 a2 a3 a4 a5):∃ a0,∃ a1,∃ a2,∃ a3,∃ a4,∃ a5,P0 a0 a1 a2 a3 a4 a5:=⟨a0,pB a1 a2 a3 a4 a5 h0⟩
theorem ve {α0:Type} {α1:Type} {α2:Type} {α3:Type} {α4:Type} {α5:Type} {P0 P1 P2 P3 P4:α0→α1→α2→α3→α4→α5→Prop} (h:∃ a0,∃ a1,∃ a2,∃ a3,∃ a4,∃ a5,P0 a0 a1 a2 a3 a4 a5∧P1 a0 a1 a2 a3 a4 a5∧P2 a0 a1 a2 a3 a4 a5∧P3 a0 a1 a2 a3 a4 a5∧P4 a0 a1 a2 a3 a4 a5) (K:∀ (a0:α0) (a1:α1) (a2:α2) (a3:α3) (a4:α4) (a5:α5),P0 a0 a1 a2 a3 a4 a5→P1 a0 a1 a2 a3 a4 a5→P2 a0 a1 a2 a3 a4 a5→P3 a0 a1 a2 a3 a4 a5→P4 a0 a1 a2 a3 a4 a5→C):C:=h.elim fun a0 h=>D1 h (K a0)
theorem zV {α0:Type} {α1:Type} {α2:Type} {α3:Type} {α4:Type} {α5:Type} {P0 P1 P2 P3 P4:α0→α1→α2→α3→α4→α5→Prop} (a0:α0) (a1:α1) (a2:α2) (a3:α3) (a4:α4) (a5:α5) (h0:P0 a0 a1 a2 a3 a4 a5) (h1:P1 a0 a1 a2 a3 a4 a5) (h2:P2 a0 a1 a2 a3 a4 a5) (h3:P3 a0 a1 a2 a3 a4 a5) (h4:P4 a0 a1 a2 a3 a4 a5):∃ a0,∃ a1,∃ a2,∃ a3,∃ a4,∃ a5,P0 a0 a1 a2 a3 a4 a5∧P1 a0 a1 a2 a3 a4 a5∧P2 a0 a1 a2 a3 a4 a5∧P3 a0 a1 a2 a3 a4 a5∧P4 a0 a1 a2 a3 a4 a5:=⟨a0,ED a1 a2 a3 a4 a5 h0 h1 h2 h3 h4⟩
theorem D0 {α0:Type} {α1:Type} {α2:Type} {α3:Type} {α4:Type} {α5:Type} {P0 P1 P2 P3 P4 P5 P6:α0→α1→α2→α3→α4→α5→Prop} (h:∃ a0,∃ a1,∃ a2,∃ a3,∃ a4,∃ a5,P0 a0 a1 a2 a3 a4 a5∧P1 a0 a1 a2 a3 a4 a5∧P2 a0 a1 a2 a3 a4 a5∧P3 a0 a1 a2 a3 a4 a5∧P4 a0 a1 a2 a3 a4 a5∧P5 a0 a1 a2 a3 a4 a5∧P6 a0 a1 a2 a3 a4 a5) (K:∀ (a0:α0) (a1:α1) (a2:α2) (a3:α3) (a4:α4) (a5:α5),P0 a0 a1 a2 a3 a4 a5→P1 a0 a1 a2 a3 a4 a5→P2 a0 a1 a2 a3 a4 a5→P3 a0 a1 a2 a3 a4 a5→P4 a0 a1 a2 a3 a4 a5→P5 a0 a1 a2 a3 a4 a5→P6 a0 a1 a2 a3 a4 a5→C):C:=h.elim fun a0 h=>Bw h (K a0)
theorem EC {α0:Type} {α1:Type} {α2:Type} {α3:Type} {α4:Type} {α5:Type} {P0 P1 P2 P3 P4 P5 P6:α0→α1→α2→α3→α4→α5→Prop} (a0:α0) (a1:α1) (a2:α2) (a3:α3) (a4:α4) (a5:α5) (h0:P0 a0 a1 a2 a3 a4 a5) (h1:P1 a0 a1 a2 a3 a4 a5) (h2:P2 a0 a1 a2 a3 a4 a5) (h3:P3 a0 a1 a2 a3 a4 a5) (h4:P4 a0 a1 a2 a3 a4 a5) (h5:P5 a0 a1 a2 a3 a4 a5) (h6:P6 a0 a1 a2 a3 a4 a5):∃ a0,∃ a1,∃ a2,∃ a3,∃ a4,∃ a5,P0 a0 a1 a2 a3 a4 a5∧P1 a0 a1 a2 a3 a4 a5∧P2 a0 a1 a2 a3 a4 a5∧P3 a0 a1 a2 a3 a4 a5∧P4 a0 a1 a2 a3 a4 a5∧P5 a0 a1 a2 a3 a4 a5∧P6 a0 a1 a2 a3 a4 a5:=⟨a0,zW a1 a2 a3 a4 a5 h0 h1 h2 h3 h4 h5 h6⟩
theorem DZ {α0:Type} {α1:Type} {α2:Type} {α3:Type} {α4:Type} {α5:Type} {α6:Type} {P0 P1 P2 P3 P4 P5 P6:α0→α1→α2→α3→α4→α5→α6→Prop} (h:∃ a0,∃ a1,∃ a2,∃ a3,∃ a4,∃ a5,∃ a6,P0 a0 a1 a2 a3 a4 a5 a6∧P1 a0 a1 a2 a3 a4 a5 a6∧P2 a0 a1 a2 a3 a4 a5 a6∧P3 a0 a1 a2 a3 a4 a5 a6∧P4 a0 a1 a2 a3 a4 a5 a6∧P5 a0 a1 a2 a3 a4 a5 a6∧P6 a0 a1 a2 a3 a4 a5 a6) (K:∀ (a0:α0) (a1:α1) (a2:α2) (a3:α3) (a4:α4) (a5:α5) (a6:α6),P0 a0 a1 a2 a3 a4 a5 a6→P1 a0 a1 a2 a3 a4 a5 a6→P2 a0 a1 a2 a3 a4 a5 a6→P3 a0 a1 a2 a3 a4 a5 a6→P4 a0 a1 a2 a3 a4 a5 a6→P5 a0 a1 a2 a3 a4 a5 a6→P6 a0 a1 a2 a3 a4 a5 a6→C):C:=h.elim fun a0 h=>D0 h (K a0)
theorem EB {α0:Type} {α1:Type} {α2:Type} {α3:Type} {α4:Type} {α5:Type} {α6:Type} {P0 P1 P2 P3 P4 P5 P6:α0→α1→α2→α3→α4→α5→α6→Prop} (a0:α0) (a1:α1) (a2:α2) (a3:α3) (a4:α4) (a5:α5) (a6:α6) (h0:P0 a0 a1 a2 a3 a4 a5 a6) (h1:P1 a0 a1 a2 a3 a4 a5 a6) (h2:P2 a0 a1 a2 a3 a4 a5 a6) (h3:P3 a0 a1 a2 a3 a4 a5 a6) (h4:P4 a0 a1 a2 a3 a4 a5 a6) (h5:P5 a0 a1 a2 a3 a4 a5 a6) (h6:P6 a0 a1 a2 a3 a4 a5 a6):∃ a0,∃ a1,∃ a2,∃ a3,∃ a4,∃ a5,∃ a6,P0 a0 a1 a2 a3 a4 a5 a6∧P1 a0 a1 a2 a3 a4 a5 a6∧P2 a0 a1 a2 a3 a4 a5 a6∧P3 a0 a1 a2 a3 a4 a5 a6∧P4 a0 a1 a2 a3 a4 a5 a6∧P5 a0 a1 a2 a3 a4 a5 a6∧P6 a0 a1 a2 a3 a4 a5 a6:=⟨a0,EC a1 a2 a3 a4 a5 a6 h0 h1 h2 h3 h4 h5 h6⟩
theorem zl {α0:Type} {α1:Type} {α2:Type} {α3:Type} {α4:Type} {α5:Type} {α6:Type} {α7:Type} {P0 P1 P2 P3 P4 P5 P6:α0→α1→α2→α3→α4→α5→α6→α7→Prop} (h:∃ a0,∃ a1,∃ a2,∃ a3,∃ a4,∃ a5,∃ a6,∃ a7,P0 a0 a1 a2 a3 a4 a5 a6 a7∧P1 a0 a1 a2 a3 a4 a5 a6 a7∧P2 a0 a1 a2 a3 a4 a5 a6 a7∧P3 a0 a1 a2 a3 a4 a5 a6 a7∧P4 a0 a1 a2 a3 a4 a5 a6 a7∧P5 a0 a1 a2 a3 a4 a5 a6 a7∧P6 a0 a1 a2 a3 a4 a5 a6 a7) (K:∀ (a0:α0) (a1:α1) (a2:α2) (a3:α3) (a4:α4) (a5:α5) (a6:α6) (a7:α7),P0 a0 a1 a2 a3 a4 a5 a6 a7→P1 a0 a1 a2 a3 a4 a5 a6 a7→P2 a0 a1 a2 a3 a4 a5 a6 a7→P3 a0 a1 a2 a3 a4 a5 a6 a7→P4 a0 a1 a2 a3 a4 a5 a6 a7→P5 a0 a1 a2 a3 a4 a5 a6 a7→P6 a0 a1 a2 a3 a4 a5 a6 a7→C):C:=h.elim fun a0 h=>DZ h (K a0)
theorem zU {α0:Type} {α1:Type} {α2:Type} {α3:Type} {α4:Type} {α5:Type} {α6:Type} {α7:Type} {P0 P1 P2 P3 P4 P5 P6:α0→α1→α2→α3→α4→α5→α6→α7→Prop} (a0:α0) (a1:α1) (a2:α2) (a3:α3) (a4:α4) (a5:α5) (a6:α6) (a7:α7) (h0:P0 a0 a1 a2 a3 a4 a5 a6 a7) (h1:P1 a0 a1 a2 a3 a4 a5 a6 a7) (h2:P2 a0 a1 a2 a3 a4 a5 a6 a7) (h3:P3 a0 a1 a2 a3 a4 a5 a6 a7) (h4:P4 a0 a1 a2 a3 a4 a5 a6 a7) (h5:P5 a0 a1 a2 a3 a4 a5 a6 a7) (h6:P6 a0 a1 a2 a3 a4 a5 a6 a7):∃ a0,∃ a1,∃ a2,∃ a3,∃ a4,∃ a5,∃ a6,∃ a7,P0 a0 a1 a2 a3 a4 a5 a6 a7∧P1 a0 a1 a2 a3 a4 a5 a6 a7∧P2 a0 a1 a2 a3 a4 a5 a6 a7∧P3 a0 a1 a2 a3 a4 a5 a6 a7∧P4 a0 a1 a2 a3 a4 a5 a6 a7∧P5 a0 a1 a2 a3 a4 a5 a6 a7∧P6 a0 a1 a2 a3 a4 a5 a6 a7:=⟨a0,EB a1 a2 a3 a4 a5 a6 a7 h0 h1 h2 h3 h4 h5 h6⟩
end
@[elab_as_elim] theorem n3 {P:Nat→Prop} {l:Nat} (h:l < 3) (a:P 0) (b:P 1) (c:P 2):P l:=by
 cases l with
 | zero=>exact a
 | succ l=>cases l with
  | zero=>exact b
  | succ l=>cases l with
   | zero=>exact c
   | succ l=>exact absurd h (Nat.not_lt.mpr (Nat.le_add_left 3 l))
@[elab_as_elim] theorem n4 {P:Nat→Prop} {l:Nat} (h:l < 4) (a:P 0) (b:P 1) (c:P 2) (d:P 3):P l:=by
 cases l with
 | zero=>exact a
 | succ l=>exact n3 (P:=fun l=>P (l + 1)) (Nat.lt_of_succ_lt_succ h) b c d
@[elab_as_elim] theorem n6 {P:Nat→Prop} {l:Nat} (h:l < 6) (a:P 0) (b:P 1) (c:P 2) (d:P 3) (e:P 4) (f:P 5):P l:=by
 cases l with
 | zero=>exact a
 | succ l=>cases l with
  | zero=>exact b
  | succ l=>exact n4 (P:=fun l=>P (l + 2)) (Nat.lt_of_succ_lt_succ (Nat.lt_of_succ_lt_succ h)) c d e f
theorem Cs {α:Type} {a b c v:α} {x:Nat} {C:Prop} (h:[a,b,c][x]?=some v) (k0:x=0→a=v→C) (k1:x=1→b=v→C) (k2:x=2→c=v→C):C:=by
 cases x with
 | zero=>exact k0 rfl (Option.some.inj h)
 | succ x=>cases x with
  | zero=>exact k1 rfl (Option.some.inj h)
  | succ x=>cases x with
   | zero=>exact k2 rfl (Option.some.inj h)
   | succ x=>cases h
theorem l1 {α:Type} {C:Prop} {l:List α} (h:l.length=1) (k:∀ a,l=[a]→C):C:=by
 cases l with
 | nil=>cases h
 | cons a t=>cases t with
  | nil=>exact k a rfl
  | cons _ _=>cases h
theorem l2 {α:Type} {C:Prop} {l:List α} (h:l.length=2) (k:∀ a b,l=[a,b]→C):C:=by
 cases l with
 | nil=>cases h
 | cons a t=>exact l1 (Nat.succ.inj h) fun b e=>k a b (congrArg _ e)
theorem l3 {α:Type} {C:Prop} {l:List α} (h:l.length=3) (k:∀ a b c,l=[a,b,c]→C):C:=by
 cases l with
 | nil=>cases h
 | cons a t=>exact l2 (Nat.succ.inj h) fun b c e=>k a b c (congrArg _ e)
inductive L2 {α β:Type} (R:α→β→Prop):List α→List β→Prop where
 | nil:L2 R [] []
 | cons {a:α} {b:β} {as:List α} {bs:List β}:R a b→L2 R as bs→L2 R (a :: as) (b :: bs)
theorem L2.map {α β:Type} {R S:α→β→Prop} (f:∀ a b,R a b→S a b) {as:List α} {bs:List β} (h:L2 R as bs):L2 S as bs:=by
 induction h with
 | nil=>exact .nil
 | cons h _ ih=>exact .cons (f _ _ h) ih
theorem L2.len {α β:Type} {R:α→β→Prop} {as:List α} {bs:List β} (h:L2 R as bs):as.length=bs.length:=by
 induction h with
 | nil=>rfl
 | cons _ _ ih=>exact congrArg (· + 1) ih
theorem L2.right {α β:Type} {R:α→β→Prop} {as:List α} {bs:List β} (h:L2 R as bs):∀ b∈bs,∃ a∈as,R a b:=by
 induction h with
 | nil=>exact fun b m=>nomatch m
 | cons h _ ih=>
  intro b m
  rcases List.mem_cons.mp m with rfl | m
  ·exact ⟨_,.head _,h⟩
  ·exact aB (ih b m) fun a ma q=>⟨a,.tail _ ma,q⟩
section
variable {a b c d:Nat}
theorem mE (h:a < b) (k:b≤c):a < c:=Nat.lt_of_lt_of_le h k
theorem Dk (h:a≤b) (k:b < c):a < c:=Nat.lt_of_le_of_lt h k
theorem sT (h:a≤b) (k:b≤c):a≤c:=Nat.le_trans h k
theorem DY (h:a < b) (k:b < c):a < c:=Nat.lt_trans h k
theorem zb1 (h:a≤b) (k:Nat.ble b c=true):a≤c:=sT h (Nat.le_of_ble_eq_true k)
theorem og (h:a≤b) (k:Nat.ble (b + 1) c=true):a < c:=Dk h (Nat.le_of_ble_eq_true k)
theorem vb (h:a=b) (k:Nat.ble b c=true):a≤c:=zb1 (Nat.le_of_eq h) k
theorem A8 (h:b=c) (k:Nat.ble (a + 1) c=true):a < b:=h▸Nat.le_of_ble_eq_true k
theorem DX (h:b=c) (k:Nat.ble a c=true):a≤b:=h▸Nat.le_of_ble_eq_true k
theorem zi (h:c≤b) (k:Nat.ble a c=true):a≤b:=sT (Nat.le_of_ble_eq_true k) h
theorem FB (h:a < b):a≤b:=Nat.le_of_lt h
theorem yF (h:a < b):a + 1≤b:=h
theorem zc3 (h:a≤b):a < b + 1:=Nat.lt_succ_of_le h
theorem DW (h:a + 1≤b):a < b:=h
theorem zh (h:a < b + 1):a≤b:=Nat.le_of_lt_succ h
theorem Gk (h:a=b):a≤b:=Nat.le_of_eq h
theorem lC (h:a + b≤c):a≤c:=sT (Nat.le_add_right a b) h
theorem Gj (h:a + b < c):a < c:=Dk (Nat.le_add_right a b) h
theorem DU (h:a + (b + 1)≤c):a < c:=Dk (Nat.le_add_right a b) h
theorem yE (h:a + (b + 1)≤c):a + 1 + b≤c:=(Nat.succ_add a b)▸h
theorem sS (h:a + (b + 1)=c):a + 1 + b=c:=(Nat.succ_add a b).trans h
theorem yD (h:a + (b + 1)=c):a < c:=DU (Nat.le_of_eq h)
theorem DV (h:a + (b + 1)≤c):a + b≤c:=sT (Nat.le_succ _) h
theorem rF:a≤a + b:=Nat.le_add_right a b
theorem Dj:a≤b + a:=Nat.le_add_left a b
theorem yC:0 < a + 1:=Nat.succ_pos a
theorem Fz (h:a≤b):a≤b + c:=sT h rF
theorem Fy (h:a < b):a < b + c:=mE h rF
theorem yB (h:a≤b):a + c≤b + c:=Nat.add_le_add_right h c
theorem DT (h:a < b):a + c < b + c:=Nat.add_lt_add_right h c
theorem DS (h:a + c≤b + c):a≤b:=Nat.le_of_add_le_add_right h
theorem DR (h:a + c < b + c):a < b:=Nat.lt_of_add_lt_add_right h
theorem DQ:a + 1 + b=a + (b + 1):=Nat.succ_add a b
theorem Bu (h:¬ a=0):0 < a:=Nat.pos_of_ne_zero h
theorem DP (h:a < b):0 < b:=Dk (Nat.zero_le a) h
theorem Gi (h:¬ a≤b):b < a:=Nat.lt_of_not_le h
theorem Gh (h:¬ a < b):b≤a:=Nat.le_of_not_lt h
theorem Di (h:a < b):¬ a=b:=Nat.ne_of_lt h
theorem xb (h:a≤b):(a:Int)≤b:=Int.ofNat_le.mpr h
theorem Bs (h:a < b):(a:Int) < b:=Int.ofNat_lt.mpr h
theorem Dh (h:¬ a≤b):¬ (a:Int)≤b:=fun k=>h (Int.ofNat_le.mp k)
theorem Df (h:a=b):(a:Int)=b:=congrArg _ h
theorem uZ (h:¬ a=b):¬ (a:Int)=b:=fun k=>h (Int.ofNat_inj.mp k)
theorem Fx (h:0 < a):(0:Int) < a:=Bs h
theorem Br:(0:Int)≤a:=Int.natCast_nonneg a
theorem Gg (h:¬ a=0):(0:Int) < a:=Bs (Bu h)
theorem De:(-1:Int) < a:=Int.lt_of_lt_of_le (by decide) Br
theorem Bt:(-1:Int)≤a:=Int.le_trans (by decide) Br
theorem zg (h:(a:Int)≤b):a≤b:=Int.ofNat_le.mp h
theorem Fw (h:a + b≤c) (k:Nat.ble c d=true):a≤d:=zb1 (lC h) k
theorem xa (h:a + b≤c) (k:Nat.ble (c + 1) d=true):a < d:=og (lC h) k
theorem Gf (h:a≤b) (k:b + c≤d):a + c≤d:=sT (yB h) k
theorem DM (h:a≤b + 1) (k:b + (c + 1)≤d):a + c≤d:=Gf h (yE k)
theorem Fv (h:a≤b) (k:b=c):a≤c:=k▸h
theorem Bq (h:a < b) (k:b=c):a < c:=k▸h
theorem va (h:a=b) (k:b≤c):a≤c:=h▸k
theorem zf (h:a=b) (k:c < b):c < a:=h▸k
theorem DO (h:a=b) (k:c≤b):c≤a:=h▸k
theorem DN {x y:Int} (h:x < y):x≤y:=Int.le_of_lt h
theorem ze {x y:Int} (h:¬ y≤x):x < y:=Int.not_le.mp h
end
section
variable {a b c d k m n x:Nat}
theorem zd:min (min a b) c≤a:=Nat.le_trans (Nat.min_le_left _ _) (Nat.min_le_left _ _)
theorem Bl:min (min a b) c≤b:=Nat.le_trans (Nat.min_le_left _ _) (Nat.min_le_right _ _)
theorem Dd:min (min a b) c≤c:=Nat.min_le_right _ _
theorem Ga (h:min (min a b) c=x):x≤a:=h▸zd
theorem F9 (h:min (min a b) c=x):x≤b:=h▸Bl
theorem F8 (h:min (min a b) c=x):x≤c:=h▸Dd
theorem F7 (h:n≤min (min a b) c):n≤a:=Nat.le_trans h zd
theorem DK (h:x < a) (i:x < b) (j:x < c):x < min (min a b) c:=Nat.lt_min.mpr ⟨Nat.lt_min.mpr ⟨h,i⟩,j⟩
theorem Fq {x:Int} (h:x < (a:Int)) (i:x < (b:Int)):x < ((min a b:Nat):Int):=by
 rcases Nat.le_total a b with e | e
 ·rw [Nat.min_eq_left e]; exact h
 ·rw [Nat.min_eq_right e]; exact i
theorem DJ {x:Int} (h:x < (a:Int)) (i:x < (b:Int)) (j:x < (c:Int)):x < ((min (min a b) c:Nat):Int):=Fq (Fq h i) j
theorem DI:min (min a b) c≤a∧min (min a b) c≤b∧min (min a b) c≤c:=⟨zd,Bl,Dd⟩
theorem DH (h:a≤n):min (min a b) c≤n:=Nat.le_trans zd h
theorem DG (h:a=k) (i:k < n):min (min a b) c < n:=Nat.lt_of_le_of_lt zd (h▸i)
theorem DF (h:n≤min (min a b) c + 0):n≤a:=F7 h
theorem Fp (h:x < 3):x + 1 + (2 - x)=3:=n3 h rfl rfl rfl
theorem Fo (h:x < 3):3 - x=2 - x + 1:=n3 h rfl rfl rfl
theorem Dc (h:a≤b):a + (b - a)=b:=Nat.add_sub_cancel' h
theorem zn7:¬ b + 1=b:=Nat.succ_ne_self b
theorem Dx:¬ b + 2=b:=Nat.ne_of_gt (Nat.lt_add_of_pos_right (by decide))
theorem F6:¬ b + 3=b:=Nat.ne_of_gt (Nat.lt_add_of_pos_right (by decide))
theorem Bk (h:¬ a≤b):b + 1≤a:=Nat.lt_of_not_le h
theorem zn11 (h:a≤b) (i:¬ a=b):a + 1≤b:=Nat.lt_of_le_of_ne h i
theorem DE (h:a < b + 1) (i:b≤c) (r:Nat.ble c d=true):a≤d:=Nat.le_trans (Nat.le_of_lt_succ h) (Nat.le_trans i (Nat.le_of_ble_eq_true r))
theorem DD (h:a + (b + 1)≤c) (i:c≤d):a + b≤d:=Nat.le_trans (Nat.le_succ _) (Nat.le_trans h i)
theorem pU (h:a≤b + k) (i:b≤c) (r:Nat.ble (c + k) d=true):a≤d:=Nat.le_trans h (Nat.le_trans (Nat.add_le_add_right i k) (Nat.le_of_ble_eq_true r))
theorem Bj {j:Nat} (h:a≤b + k) (i:b≤c + j) (e:c + m≤n) (r:Nat.ble (j + k) m=true):a≤n:=Nat.le_trans h (Nat.le_trans (Nat.add_le_add_right i k) (by rw [Nat.add_assoc]; exact Nat.le_trans (Nat.add_le_add_left (Nat.le_of_ble_eq_true r) c) e))
theorem u9 {P:Prop} (h:a < b∧P) (i:b < c):a < c:=Nat.lt_trans h.1 i
theorem zb {P:Prop} (h:a < b∧P):a < b:=h.1
theorem za {P:Prop} (h:P∧a < b):a < b:=h.2
theorem DC {P Q:Prop} (h:a < b∧P) (i:c < a∧Q):c < b:=Nat.lt_trans i.1 h.1
theorem y9 (h:a + k≤c) (r:Nat.ble m k=true) (s:Nat.ble c d=true):a + m≤d:=Nat.le_trans (Nat.add_le_add_left (Nat.le_of_ble_eq_true r) a) (Nat.le_trans h (Nat.le_of_ble_eq_true s))
theorem tX (h:a≤c) (r:Nat.ble (c + k) d=true):a + k≤d:=pU (Nat.le_refl _) h r
theorem y8 (h:a≤c) (r:Nat.ble (c + k + 1) d=true):a + k < d:=pU (k:=k + 1) (Nat.le_refl _) h r
theorem DB (h:a < b) (i:b≤c) (r:Nat.ble c d=true):a≤d:=Nat.le_trans (Nat.le_of_lt h) (Nat.le_trans i (Nat.le_of_ble_eq_true r))
theorem Bi (h:a≤b) (i:b≤c) (r:Nat.ble c d=true):a≤d:=Nat.le_trans h (Nat.le_trans i (Nat.le_of_ble_eq_true r))
theorem DA (h:a≤b) (i:b≤c) (r:Nat.ble (c + 1) d=true):a < d:=Nat.lt_of_le_of_lt h (Nat.lt_of_le_of_lt i (Nat.le_of_ble_eq_true r))
theorem y7 (h:a≤c) (r:Nat.ble c d=true):0 + a≤d:=by rw [Nat.zero_add]; exact Nat.le_trans h (Nat.le_of_ble_eq_true r)
theorem Dz (h:b + (k + 4)≤a):¬ a=b:=Nat.ne_of_gt (Nat.lt_of_lt_of_le (Nat.lt_add_of_pos_right (Nat.succ_pos _)) h)
theorem Dy (h:b=a) (i:c < b):¬ c=a:=h▸Nat.ne_of_lt i
theorem Fu (h:¬ a≤b):(b:Int) < a:=Int.ofNat_lt.mpr (Nat.lt_of_not_le h)
theorem Ft {x:Int} (h:x < (a:Int)):x < ((a + 1:Nat):Int):=Int.lt_trans h (Int.ofNat_lt.mpr (Nat.lt_succ_self a))
theorem Bm (h:(a:Int) < b):a + 1≤b:=Int.ofNat_lt.mp h
theorem Ge (h:a < b):a≤b - 1:=Nat.le_sub_one_of_lt h
theorem Gd (h:a≤b):((b:Int) - (a:Int)).toNat=b - a:=Int.toNat_sub b a
theorem Gc (h:a≤b - 1) (i:0 < b):a + 1≤b:=Nat.lt_of_le_of_lt h (Nat.sub_lt i Nat.one_pos)
theorem Fs:min a c≤max a c:=Nat.le_trans (Nat.min_le_left _ _) (Nat.le_max_left _ _)
theorem Gb {x:Int} (h:0≤x):x=(x.toNat:Int):=(Int.toNat_of_nonneg h).symm
theorem DL {x:Int} (h:0 < k) (i:x < (k:Int)):x.toNat < k:=(Int.toNat_lt' h).mpr i
theorem Bp {x:Int} (h:x < (a:Int)):(x + 1).toNat≤a:=Int.toNat_le.mpr h
theorem Bo {x:Int} (h:0≤x):¬ x < 0:=Int.not_lt.mpr h
theorem Bn {x y:Int} (h:¬ x < y):y≤x:=Int.not_lt.mp h
end
end Dg
end
section
open PySem
namespace Dg
set_option genCtorIdx true in
inductive AV where
 | d (x:PyData)
 | o (k:Nat)
theorem CW {x y:PyData} (h:AV.d x=.d y):x=y:=by cases h; rfl
set_option genCtorIdx true in
inductive AO where
 | list (xs:List PyData)
 | dict (es:List (PyData×PyData))
 | inst (fs:List AV)
 | dead
structure AS where
 loc:List (Option AV)
 out:List (Option AV)
 heap:List AO
set_option genCtorIdx true in
inductive BO where
 | add | sub | mul | fdiv | mod | pow
set_option genCtorIdx true in
inductive CO where
 | eq | ne | lt | le | gt | ge | isin | notin
inductive T where
 | loc (i:Nat)
 | tup (ts:List T)
inductive E where
 | int (i:Int)
 | str (s:Str)
 | bool (b:Bool)
 | neg (e:E)
 | loc (i:Nat)
 | out (i:Nat)
 | attr (e:E) (a:Nat)
 | bin (op:BO) (a b:E)
 | cmp (op:CO) (a b:E)
 | cmp2 (op1 op2:CO) (a b c:E)
 | conj (a b:E)
 | not (e:E)
 | ife (t a b:E)
 | call (f:Nat) (as:List E)
 | new (as:List E)
 | meth (f:Nat) (e:E) (as:List E)
 | append (e x:E)
 | pop (e:E)
 | reverse (e:E)
 | extend (e x:E)
 | get (e k x:E)
 | len (e:E)
 | min1 (e:E)
 | min2 (a b:E)
 | max2 (a b:E)
 | tuple (e:E)
 | sorted (e:E)
 | sub (a i:E)
 | slice (a lo hi:E)
 | rev (a:E)
 | tup (es:List E)
 | list (es:List E)
 | dict0
 | dict1 (k v:E)
 | comp (n:Nat) (elt:E) (gens:List (T×(Nat×List E)×List E))
noncomputable abbrev I:=Nat×List E
inductive S where
 | assign (t:T) (e:E)
 | setSub (a i e:E)
 | setAttr (a:E) (k:Nat) (e:E)
 | augLoc (i:Nat) (op:BO) (e:E)
 | augSub (a i:E) (op:BO) (e:E)
 | expr (e:E)
 | ite (t:E) (a b:List S)
 | while (t:E) (b:List S)
 | for (t:T) (it:I) (b:List S)
 | ret (e:E)
 | raise
set_option genCtorIdx true in
inductive Fl where
 | next
 | ret (v:AV)
structure FD where
 np:Nat
 nl:Nat
 body:List S
noncomputable def cB:Nat:=1000000
noncomputable def dz:Nat:=2000000
noncomputable def AS.setLoc (σ:AS) (i:Nat) (v:AV):AS:={ σ with loc:=σ.loc.set i (some v) }
noncomputable def AS.alloc (σ:AS) (o:AO):AV×AS:=(.o σ.heap.length,{ σ with heap:=σ.heap++[o] })
noncomputable def AS.put (σ:AS) (k:Nat) (o:AO):AS:={ σ with heap:=σ.heap.set k o }
noncomputable def AS.look (σ:AS):AV→Option PyData
 | .d x=>some x
 | .o k=>match σ.heap[k]? with
  | some (.list xs)=>some (.list xs)
  | _=>none
noncomputable def AS.freeze (σ:AS):AV→Option (PyData×AS)
 | .d x=>some (x,σ)
 | .o k=>match σ.heap[k]? with
  | some (.list xs)=>some (.list xs,σ.put k .dead)
  | _=>none
noncomputable def AS.freezeAll (σ:AS):List AV→Option (List PyData×AS)
 | []=>some ([],σ)
 | v :: vs=>match σ.freeze v with
  | some (x,aa)=>(match aa.freezeAll vs with
   | some (xs,ah)=>some (x :: xs,ah)
   | none=>none)
  | none=>none
noncomputable def aI (H:List AO):Bool:=H.all fun o=>match o with
 | .inst fs=>fs.all fun f=>match f with
  | .o k=>decide (k < H.length)
  | .d _=>true
 | _=>true
noncomputable def fV (n:Nat) (H:List AO):List AO:=if aI (H.take n) then H.take n else H
mutual
noncomputable def okd:PyData→Bool
 | .int _=>true
 | .str x=>PyData.strOk x
 | .list xs=>g7 xs
 | .tuple xs=>g7 xs
 | .none | .bool _ | .dict _=>false
noncomputable def g7:List PyData→Bool
 | []=>true
 | x :: xs=>okd x && g7 xs
end
mutual
noncomputable def okk:PyData→Bool
 | .int _=>true
 | .str x=>PyData.strOk x
 | .tuple xs=>okks xs
 | .none | .bool _ | .dict _ | .list _=>false
noncomputable def okks:List PyData→Bool
 | []=>true
 | x :: xs=>okk x && okks xs
end
noncomputable def ez (d:PyData):Bool:=okd d && decide (d.depth≤20)
noncomputable def okkey (d:PyData):Bool:=okk d && decide (d.depth≤7)
noncomputable def CY:BO→Int→Int→Option PyData
 | .add,a,b=>some (.int (a + b))
 | .sub,a,b=>some (.int (a - b))
 | .fdiv,a,b=>if b≠0∧b.natAbs≤cB then some (.int (a.fdiv b)) else none
 | .mod,a,b=>if b=0 then none else some (.int (a.fmod b))
 | .mul,a,b=>if a.natAbs≤cB∧b.natAbs≤cB then some (.int (a * b)) else none
 | .pow,a,b=>if a=2∧0≤b∧b≤100 then some (.int (a ^ b.toNat)) else none
noncomputable def tC:PyData→Option Int
 | .int i=>some i
 | _=>none
noncomputable def sV:PyData→Option (List PyData)
 | .tuple xs=>some xs
 | _=>none
noncomputable def Co:BO→Bool
 | .add=>true
 | _=>false
noncomputable def binD (bo:BO) (x y:PyData):Option PyData:=
 match tC x with
 | some a=>(match tC y with
  | some b=>CY bo a b
  | none=>none)
 | none=>(match sV x with
  | some a=>(match sV y with
   | some b=>if Co bo=true∧a.length + b.length≤cB then some (.tuple (a++b)) else none
   | none=>none)
  | none=>none)
noncomputable def Fb:CO→Int→Int→Option Bool
 | .lt,a,b=>some (decide (a < b))
 | .le,a,b=>some (decide (a≤b))
 | .gt,a,b=>some (decide (a > b))
 | .ge,a,b=>some (decide (a ≥ b))
 | _,_,_=>none
noncomputable def findKey (k:PyData) (es:List (PyData×PyData)):Option PyData:=(es.find? fun e=>PyData.eqv e.1 k).map (·.2)
noncomputable def putKey (k v:PyData):List (PyData×PyData)→List (PyData×PyData)
 | []=>[(k,v)]
 | e :: es=>if PyData.eqv e.1 k then (e.1,v) :: es else e :: putKey k v es
noncomputable def dJ (k:PyData) (es:List (PyData×PyData)):Bool:=
 match k with
 | .int _=>es.all fun e=>match e.1 with | .int _=>true | _=>false
 | .tuple _=>es.all fun e=>match e.1 with | .tuple _=>true | _=>false
 | _=>false
noncomputable def dj (k:PyData) (es:List (PyData×PyData)):Bool:=okkey k && dJ k es
noncomputable def isIn (σ:AS) (x:PyData) (c:AV):Option Bool:=
 match c with
 | .o k=>(match σ.heap[k]? with
  | some (.dict es)=>if dj x es then some (findKey x es).isSome else none
  | some (.list xs)=>if ez x && g7 xs then some (xs.any fun y=>PyData.eqv y x) else none
  | _=>none)
 | .d _=>none
noncomputable def cmpV (σ:AS) (op:CO) (a b:AV):Option Bool:=
 match op with
 | .isin=>(match a with | .d x=>isIn σ x b | .o _=>none)
 | .notin=>(match a with | .d x=>(isIn σ x b).map (!·) | .o _=>none)
 | .eq=>(match σ.look a,σ.look b with
  | some x,some y=>if ez x && ez y then some (PyData.eqv x y) else none
  | _,_=>none)
 | .ne=>(match σ.look a,σ.look b with
  | some x,some y=>if ez x && ez y then some (!PyData.eqv x y) else none
  | _,_=>none)
 | op=>(match a,b with
  | .d (.int x),.d (.int y)=>Fb op x y
  | _,_=>none)
noncomputable def truthV (σ:AS):AV→Option Bool
 | .d (.bool b)=>some b
 | v=>match σ.look v with
  | some (.list xs)=>if xs.length≤dz then some (!xs.isEmpty) else none
  | _=>none
noncomputable def itemAt (xs:List PyData) (i:Int):Option PyData:=
 if xs.length≤dz then (if 0≤i then xs[i.toNat]? else if 0≤i + xs.length then xs[(i + xs.length).toNat]? else none) else none
noncomputable def eP (n:Nat) (i:Int):Option Nat:=
 if n≤dz then (if 0≤i then (if i < n then some i.toNat else none) else if 0≤i + n then some (i + n).toNat else none) else none
noncomputable def qb (σ:AS) (a:AV) (i:PyData):Option PyData:=
 match a with
 | .d (.tuple xs)=>(match i with | .int i=>itemAt xs i | _=>none)
 | .d (.list xs)=>(match i with | .int i=>itemAt xs i | _=>none)
 | .o k=>(match σ.heap[k]? with
  | some (.list xs)=>(match i with | .int i=>itemAt xs i | _=>none)
  | some (.dict es)=>if dj i es then findKey i es else none
  | _=>none)
 | _=>none
noncomputable def iY (σ:AS) (a:AV) (i v:PyData):Option AS:=
 match a with
 | .o k=>(match σ.heap[k]? with
  | some (.list xs)=>(match i with
   | .int i=>(match eP xs.length i with
    | some p=>some (σ.put k (.list (xs.set p v)))
    | none=>none)
   | _=>none)
  | some (.dict es)=>if dj i es && decide (es.length < cB) then some (σ.put k (.dict (putKey i v es))) else none
  | _=>none)
 | _=>none
noncomputable def kS (x:PyData) (lo hi:PyData):Option PyData:=
 match x,lo,hi with
 | .list xs,.int a,.int b=>if 0≤a∧a≤b∧b≤xs.length∧xs.length≤dz then some (.list ((xs.drop a.toNat).take (b - a).toNat)) else none
 | _,_,_=>none
noncomputable def lh:List PyData→Option (List Int)
 | []=>some []
 | .int i :: r=>(lh r).map (i :: ·)
 | _ :: _=>none
noncomputable def qG:List Int→Option Int
 | []=>none
 | a :: r=>some (r.foldl (fun m x=>if x < m then x else m) a)
noncomputable def pairOf:PyData→Option (Int×Int)
 | .tuple [.int a,.int b]=>some (a,b)
 | _=>none
noncomputable def r0 (x y:PyData):Option Bool:=match pairOf x with
 | some p=>(match pairOf y with
  | some q=>some (decide (p.1 < q.1∨(p.1=q.1∧p.2 < q.2)))
  | none=>none)
 | none=>none
noncomputable def qf:List PyData→Option (List PyData)
 | [x]=>(match r0 x x with | some _=>some [x] | none=>none)
 | [x,y]=>(match r0 y x with
  | some true=>some [y,x]
  | some false=>some [x,y]
  | none=>none)
 | _=>none
noncomputable def kE:Int→List PyData→List PyData
 | _,[]=>[]
 | i,x :: r=>.tuple [.int i,x] :: kE (i + 1) r
noncomputable def iz (c:Int):Nat→Int→List PyData
 | 0,_=>[]
 | n + 1,a=>.int a :: iz c n (a + c)
noncomputable def gX:List PyData→Option (List PyData)
 | [.int b]=>if b.natAbs≤cB then some (iz 1 b.toNat 0) else none
 | [.int a,.int b,.int c]=>if 0 < c∧a.natAbs≤cB∧b.natAbs≤cB∧c≤cB then some (iz c (if a < b then ((b - a - 1) / c + 1).toNat else 0) a) else none
 | _=>none
noncomputable def forItems (turn:PyData→AS→Option (Fl×AS)):List PyData→AS→Option (Fl×AS)
 | [],σ=>some (.next,σ)
 | x :: xs,σ=>match turn x σ with
  | some (.next,aa)=>forItems turn xs aa
  | r=>r
noncomputable def whileIt (test:AS→Option (Bool×AS)) (body:AS→Option (Fl×AS)):Nat→AS→Option (Fl×AS)
 | 0,_=>none
 | n + 1,σ=>match test σ with
  | some (false,aa)=>some (.next,aa)
  | some (true,aa)=>(match body aa with
   | some (.next,ah)=>whileIt test body n ah
   | r=>r)
  | none=>none
noncomputable def compItems (turn:PyData→List PyData→AS→Option (List PyData×AS)):List PyData→List PyData→AS→Option (List PyData×AS)
 | [],acc,σ=>some (acc,σ)
 | x :: xs,acc,σ=>match turn x acc σ with
  | some (AX,aa)=>compItems turn xs AX aa
  | none=>none
mutual
noncomputable def ds:Nat→T→AV→AS→Option AS
 | 0,_,_,_=>none
 | n + 1,t,v,σ=>match t with
  | .loc i=>(match σ.loc[i]? with
   | some _=>some (σ.setLoc i v)
   | none=>none)
  | .tup ts=>match v with
   | .d (.tuple xs)=>eU n ts xs σ
   | _=>none
noncomputable def eU:Nat→List T→List PyData→AS→Option AS
 | 0,_,_,_=>none
 | _ + 1,[],[],σ=>some σ
 | n + 1,t :: ts,x :: xs,σ=>(match ds n t (.d x) σ with
  | some aa=>eU n ts xs aa
  | none=>none)
 | _ + 1,_,_,_=>none
end
section
variable (P:List FD) (W:Nat)
mutual
noncomputable def ar:Nat→E→AS→Option (AV×AS)
 | 0,_,_=>none
 | n + 1,e,σ=>match e with
  | .int i=>some (.d (.int i),σ)
  | .str s=>some (.d (.str s),σ)
  | .bool b=>some (.d (.bool b),σ)
  | .neg e=>(match ar n e σ with
   | some (.d (.int i),aa)=>some (.d (.int (-i)),aa)
   | _=>none)
  | .loc i=>(match σ.loc[i]? with
   | some (some v)=>some (v,σ)
   | _=>none)
  | .out i=>(match σ.out[i]? with
   | some (some v)=>some (v,σ)
   | _=>none)
  | .attr e a=>(match ar n e σ with
   | some (.o k,aa)=>(match aa.heap[k]? with
    | some (.inst fs)=>(match fs[a]? with
     | some v=>some (v,aa)
     | none=>none)
    | _=>none)
   | _=>none)
  | .bin op a b=>(match ar n a σ with
   | some (x,aa)=>(match ar n b aa with
    | some (y,ah)=>(match op,x,y with
     | .mul,.o k,.d (.int m)=>(match ah.heap[k]? with
      | some (.list [z])=>if 0≤m∧m≤cB then some (ah.alloc (.list (List.replicate m.toNat z))) else none
      | _=>none)
     | op,.d x,.d y=>(match binD op x y with
      | some z=>some (.d z,ah)
      | none=>none)
     | _,_,_=>none)
    | none=>none)
   | none=>none)
  | .cmp op a b=>(match ar n a σ with
   | some (x,aa)=>(match ar n b aa with
    | some (y,ah)=>(match cmpV ah op x y with
     | some r=>some (.d (.bool r),ah)
     | none=>none)
    | none=>none)
   | none=>none)
  | .conj a b=>(match ar n a σ with
   | some (.d (.bool true),aa)=>ar n b aa
   | some (.d (.bool false),aa)=>some (.d (.bool false),aa)
   | _=>none)
  | .ife t a b=>(match dg n t σ with
   | some (true,aa)=>ar n a aa
   | some (false,aa)=>ar n b aa
   | none=>none)
  | .call f as=>(match c6 n as σ with
   | some (vs,aa)=>callF n f vs aa
   | none=>none)
  | .new as=>(match c6 n as σ with
   | some (vs,aa)=>(match callF n 1 ((aa.alloc (.inst [])).1 :: vs) (aa.alloc (.inst [])).2 with
    | some (.d .none,ah)=>some ((aa.alloc (.inst [])).1,ah)
    | _=>none)
   | none=>none)
  | .meth f e as=>(match ar n e σ with
   | some (.o k,aa)=>(match aa.heap[k]? with
    | some (.inst _)=>(match c6 n as aa with
     | some (vs,ah)=>callF n f (.o k :: vs) ah
     | none=>none)
    | _=>none)
   | _=>none)
  | .append e x=>(match ar n e σ with
   | some (.o k,aa)=>(match aa.heap[k]? with
    | some (.list _)=>(match ar n x aa with
     | some (v,ah)=>(match ah.freeze v with
      | some (y,bi)=>(match bi.heap[k]? with
       | some (.list xs)=>if xs.length < cB then some (.d .none,bi.put k (.list (xs++[y]))) else none
       | _=>none)
      | none=>none)
     | none=>none)
    | _=>none)
   | _=>none)
  | .pop e=>(match ar n e σ with
   | some (.o k,aa)=>(match aa.heap[k]? with
    | some (.list xs)=>(match xs.getLast? with
     | some y=>if xs.length≤dz then some (.d y,aa.put k (.list xs.dropLast)) else none
     | none=>none)
    | _=>none)
   | _=>none)
  | .reverse e=>(match ar n e σ with
   | some (.o k,aa)=>(match aa.heap[k]? with
    | some (.list xs)=>if xs.length≤dz then some (.d .none,aa.put k (.list xs.reverse)) else none
    | _=>none)
   | _=>none)
  | .extend e x=>(match ar n e σ with
   | some (.o k,aa)=>(match aa.heap[k]? with
    | some (.list _)=>(match ar n x aa with
     | some (.o j,ah)=>(match ah.heap[k]?,ah.heap[j]? with
      | some (.list xs),some (.list ys)=>if j≠k∧xs.length + ys.length≤cB then some (.d .none,ah.put k (.list (xs++ys))) else none
      | _,_=>none)
     | _=>none)
    | _=>none)
   | _=>none)
  | .get e k x=>(match ar n e σ with
   | some (.o j,aa)=>(match aa.heap[j]? with
    | some (.dict _)=>(match ar n k aa with
     | some (.d (.int i),ah)=>(match ar n x ah with
      | some (.d dv,bi)=>(match bi.heap[j]? with
       | some (.dict es)=>if dj (.int i) es then some (.d ((findKey (.int i) es).getD dv),bi) else none
       | _=>none)
      | _=>none)
     | _=>none)
    | _=>none)
   | _=>none)
  | .len e=>(match ar n e σ with
   | some (.o k,aa)=>(match aa.heap[k]? with
    | some (.list xs)=>if xs.length≤dz then some (.d (.int xs.length),aa) else none
    | some (.dict es)=>if es.length≤dz && dJ (.int 0) es then some (.d (.int es.length),aa) else none
    | _=>none)
   | some (.d (.list xs),aa)=>if xs.length≤dz then some (.d (.int xs.length),aa) else none
   | some (.d (.tuple xs),aa)=>if xs.length≤dz then some (.d (.int xs.length),aa) else none
   | _=>none)
  | .min1 e=>(match ar n e σ with
   | some (.d (.list xs),aa)=>(match lh xs with
    | some is=>(match qG is with
     | some m=>some (.d (.int m),aa)
     | none=>none)
    | none=>none)
   | _=>none)
  | .min2 a b=>(match ar n a σ with
   | some (.d (.int x),aa)=>(match ar n b aa with
    | some (.d (.int y),ah)=>some (.d (.int (if y < x then y else x)),ah)
    | _=>none)
   | _=>none)
  | .max2 a b=>(match ar n a σ with
   | some (.d (.int x),aa)=>(match ar n b aa with
    | some (.d (.int y),ah)=>some (.d (.int (if x < y then y else x)),ah)
    | _=>none)
   | _=>none)
  | .tuple e=>(match ar n e σ with
   | some (v,aa)=>(match aa.look v with
    | some (.list xs)=>if xs.length≤dz then some (.d (.tuple xs),aa) else none
    | _=>none)
   | none=>none)
  | .sorted e=>(match ar n e σ with
   | some (.d (.list xs),aa)=>(match qf xs with
    | some ys=>some (.d (.list ys),aa)
    | none=>none)
   | _=>none)
  | .sub a i=>(match ar n a σ with
   | some (x,aa)=>(match ar n i aa with
    | some (.d j,ah)=>(match qb ah x j with
     | some r=>some (.d r,ah)
     | none=>none)
    | _=>none)
   | none=>none)
  | .slice a lo hi=>(match ar n a σ with
   | some (.d x,aa)=>(match ar n lo aa with
    | some (.d i,ah)=>(match ar n hi ah with
     | some (.d j,bi)=>(match kS x i j with
      | some r=>some (.d r,bi)
      | none=>none)
     | _=>none)
    | _=>none)
   | _=>none)
  | .rev a=>(match ar n a σ with
   | some (v,aa)=>(match aa.freeze v with
    | some (.list xs,ah)=>if xs.length≤dz then some (.d (.list xs.reverse),ah) else none
    | _=>none)
   | none=>none)
  | .tup es=>(match c6 n es σ with
   | some (vs,aa)=>(match aa.freezeAll vs with
    | some (xs,ah)=>some (.d (.tuple xs),ah)
    | none=>none)
   | none=>none)
  | .list es=>(match c6 n es σ with
   | some (vs,aa)=>(match aa.freezeAll vs with
    | some (xs,ah)=>some (ah.alloc (.list xs))
    | none=>none)
   | none=>none)
  | .dict0=>some (σ.alloc (.dict []))
  | .dict1 k v=>(match ar n k σ with
   | some (.d (.int i),aa)=>(match ar n v aa with
    | some (.d x,ah)=>some (ah.alloc (.dict [(.int i,x)]))
    | _=>none)
   | _=>none)
  | .comp m elt gens=>(match gens with
   | (t,it,ifs) :: more=>(match iL n it σ with
    | some (xs,aa)=>(match compItems (compTurn n elt t ifs more) xs [] { aa with loc:=List.replicate m none,out:=aa.loc } with
     | some (acc,ah)=>some (.d (.list acc),{ ah with loc:=aa.loc,out:=aa.out })
     | none=>none)
    | none=>none)
   | []=>none)
  | .cmp2 ..=>none
  | .not ..=>none
noncomputable def compTurn:Nat→E→T→List E→List (T×(Nat×List E)×List E)→PyData→List PyData→AS→Option (List PyData×AS)
 | 0,_,_,_,_,_,_,_=>none
 | n + 1,elt,t,ifs,more,x,acc,σ=>match ds n t (.d x) σ with
  | some aa=>(match hY n ifs aa with
   | some (true,ah)=>(match more with
    | []=>(match ar n elt ah with
     | some (v,bi)=>(match bi.freeze v with
      | some (y,dt)=>if acc.length < cB then some (acc++[y],dt) else none
      | none=>none)
     | none=>none)
    | (t',it',ifs') :: more'=>(match iL n it' ah with
     | some (xs,bi)=>compItems (compTurn n elt t' ifs' more') xs acc bi
     | none=>none))
   | some (false,ah)=>some (acc,ah)
   | none=>none)
  | none=>none
noncomputable def hY:Nat→List E→AS→Option (Bool×AS)
 | 0,_,_=>none
 | _ + 1,[],σ=>some (true,σ)
 | n + 1,e :: es,σ=>match dg n e σ with
  | some (true,aa)=>hY n es aa
  | r=>r
noncomputable def iL:Nat→(Nat×List E)→AS→Option (List PyData×AS)
 | 0,_,_=>none
 | n + 1,it,σ=>match it with
  | (0,[e])=>(match ar n e σ with
   | some (v,aa)=>(match aa.freeze v with
    | some (.list xs,ah)=>some (xs,ah)
    | some (.tuple xs,ah)=>some (xs,ah)
    | _=>none)
   | none=>none)
  | (1,es)=>(match c6 n es σ with
   | some (vs,aa)=>(match aa.freezeAll vs with
    | some (xs,ah)=>(match gX xs with
     | some ys=>some (ys,ah)
     | none=>none)
    | none=>none)
   | none=>none)
  | (2,[e])=>(match ar n e σ with
   | some (.d (.list xs),aa)=>if xs.length≤dz then some (kE 0 xs,aa) else none
   | _=>none)
  | _=>none
noncomputable def c6:Nat→List E→AS→Option (List AV×AS)
 | 0,_,_=>none
 | _ + 1,[],σ=>some ([],σ)
 | n + 1,e :: es,σ=>match ar n e σ with
  | some (v,aa)=>(match c6 n es aa with
   | some (vs,ah)=>some (v :: vs,ah)
   | none=>none)
  | none=>none
noncomputable def dg:Nat→E→AS→Option (Bool×AS)
 | 0,_,_=>none
 | n + 1,e,σ=>match e with
  | .not e=>(match dg n e σ with
   | some (r,aa)=>some (!r,aa)
   | none=>none)
  | .cmp op a b=>(match ar n a σ with
   | some (x,aa)=>(match ar n b aa with
    | some (y,ah)=>(match cmpV ah op x y with
     | some r=>some (r,ah)
     | none=>none)
    | none=>none)
   | none=>none)
  | .cmp2 op1 op2 a b c=>(match ar n a σ with
   | some (x,aa)=>(match ar n b aa with
    | some (y,ah)=>(match cmpV ah op1 x y with
     | some true=>(match ar n c ah with
      | some (z,bi)=>(match cmpV bi op2 y z with
       | some r=>some (r,bi)
       | none=>none)
      | none=>none)
     | some false=>some (false,ah)
     | none=>none)
    | none=>none)
   | none=>none)
  | .conj a b=>(match dg n a σ with
   | some (true,aa)=>dg n b aa
   | r=>r)
  | .ife ..=>none
  | e=>(match ar n e σ with
   | some (v,aa)=>(match truthV aa v with
    | some r=>some (r,aa)
    | none=>none)
   | none=>none)
noncomputable def callF:Nat→Nat→List AV→AS→Option (AV×AS)
 | 0,_,_,_=>none
 | n + 1,f,vs,σ=>match P[f]? with
  | some fd=>
   if vs.length=fd.np then
    (match execs n fd.body { loc:=vs.map some++List.replicate (fd.nl - fd.np) none,out:=[],heap:=σ.heap } with
    | some (.ret (.d x),aa)=>some (.d x,{ loc:=σ.loc,out:=σ.out,heap:=fV σ.heap.length aa.heap })
    | some (.next,aa)=>some (.d .none,{ loc:=σ.loc,out:=σ.out,heap:=fV σ.heap.length aa.heap })
    | _=>none)
   else none
  | none=>none
noncomputable def exec:Nat→S→AS→Option (Fl×AS)
 | 0,_,_=>none
 | n + 1,s,σ=>match s with
  | .assign t e=>(match ar n e σ with
   | some (v,aa)=>(match ds n t v aa with
    | some ah=>some (.next,ah)
    | none=>none)
   | none=>none)
  | .setSub a i e=>(match ar n e σ with
   | some (v,aa)=>(match ar n a aa with
    | some (x,ah)=>(match ar n i ah with
     | some (.d j,bi)=>(match bi.freeze v with
      | some (y,dt)=>(match iY dt x j y with
       | some eN=>some (.next,eN)
       | none=>none)
      | none=>none)
     | _=>none)
    | none=>none)
   | none=>none)
  | .setAttr a k e=>(match ar n e σ with
   | some (v,aa)=>(match ar n a aa with
    | some (.o j,ah)=>(match ah.heap[j]? with
     | some (.inst fs)=>if fs.length=k then some (.next,ah.put j (.inst (fs++[v]))) else none
     | _=>none)
    | _=>none)
   | none=>none)
  | .augLoc i op e=>(match σ.loc[i]? with
   | some (some (.d x))=>(match ar n e σ with
    | some (.d y,aa)=>(match x,y with
     | .int a,.int b=>(match binD op (.int a) (.int b) with
      | some z=>some (.next,aa.setLoc i (.d z))
      | none=>none)
     | _,_=>none)
    | _=>none)
   | _=>none)
  | .augSub a i op e=>(match ar n a σ with
   | some (.o k,aa)=>(match ar n i aa with
    | some (.d j,ah)=>(match qb ah (.o k) j with
     | some (.int x)=>(match ar n e ah with
      | some (.d (.int y),bi)=>(match binD op (.int x) (.int y) with
       | some z=>(match iY bi (.o k) j z with
        | some dt=>some (.next,dt)
        | none=>none)
       | none=>none)
      | _=>none)
     | _=>none)
    | _=>none)
   | _=>none)
  | .expr e=>(match ar n e σ with
   | some (_,aa)=>some (.next,aa)
   | none=>none)
  | .ite t a b=>(match dg n t σ with
   | some (true,aa)=>execs n a aa
   | some (false,aa)=>execs n b aa
   | none=>none)
  | .while t b=>whileIt (fun σ=>dg n t σ) (fun σ=>execs n b σ) W σ
  | .for t it b=>(match iL n it σ with
   | some (xs,aa)=>forItems (fun x σ=>match ds n t (.d x) σ with
     | some ah=>execs n b ah
     | none=>none) xs aa
   | none=>none)
  | .ret e=>(match ar n e σ with
   | some (.d x,aa)=>some (.ret (.d x),aa)
   | some (.o k,aa)=>(match aa.freeze (.o k) with
    | some (x,ah)=>some (.ret (.d x),ah)
    | none=>none)
   | none=>none)
  | .raise=>none
noncomputable def execs:Nat→List S→AS→Option (Fl×AS)
 | 0,_,_=>none
 | _ + 1,[],σ=>some (.next,σ)
 | n + 1,s :: ss,σ=>match exec n s σ with
  | some (.next,aa)=>execs n ss aa
  | r=>r
end
end
section
variable {β:Type} {z:β} {C:Prop}
theorem dM {c:Prop} [Decidable c] {a:Option β} (h:(if c then a else none)=some z) (k:c→a=some z→C):C:=by
 by_cases q:c
 ·rw [if_pos q] at h; exact k q h
 ·rw [if_neg q] at h; exact nS h
theorem z8 {c:Prop} [Decidable c] {a:Option β} (h:(if c then none else a)=some z) (k:¬ c→a=some z→C):C:=by
 by_cases q:c
 ·rw [if_pos q] at h; exact nS h
 ·rw [if_neg q] at h; exact k q h
theorem ik {α:Type} {a p:α} {b q:β} (h:some (a,b)=some (p,q)):a=p∧b=q:=by cases h; exact ⟨rfl,rfl⟩
@[elab_as_elim] theorem jn {α:Type} {a p:α} {b q:β} {C:α→β→Prop} (h:some (a,b)=some (p,q)) (k:C a b):C p q:=by cases h; exact k
theorem mC {r:Option (AV×AS)} {f:AV→AS→Option β} (h:(match r with | some (v,σ)=>f v σ | none=>none)=some z) (k:∀ v σ,r=some (v,σ)→f v σ=some z→C):C:=by
 induction r using Option.casesOn with
 | none=>exact nS h
 | some v=>exact k v.1 v.2 rfl h
theorem xV {r:Option (List AV×AS)} {f:List AV→AS→Option β} (h:(match r with | some (v,σ)=>f v σ | none=>none)=some z) (k:∀ v σ,r=some (v,σ)→f v σ=some z→C):C:=by
 induction r using Option.casesOn with
 | none=>exact nS h
 | some v=>exact k v.1 v.2 rfl h
theorem Bd {r:Option (PyData×AS)} {f:PyData→AS→Option β} (h:(match r with | some (v,σ)=>f v σ | none=>none)=some z) (k:∀ v σ,r=some (v,σ)→f v σ=some z→C):C:=by
 induction r using Option.casesOn with
 | none=>exact nS h
 | some v=>exact k v.1 v.2 rfl h
theorem u6 {r:Option (List PyData×AS)} {f:List PyData→AS→Option β} (h:(match r with | some (v,σ)=>f v σ | none=>none)=some z) (k:∀ v σ,r=some (v,σ)→f v σ=some z→C):C:=by
 induction r using Option.casesOn with
 | none=>exact nS h
 | some v=>exact k v.1 v.2 rfl h
theorem GL {r:Option (Bool×AS)} {f:Bool→AS→Option β} (h:(match r with | some (v,σ)=>f v σ | none=>none)=some z) (k:∀ v σ,r=some (v,σ)→f v σ=some z→C):C:=by
 induction r using Option.casesOn with
 | none=>exact nS h
 | some v=>exact k v.1 v.2 rfl h
theorem Cd {r:Option (Bool)} {f:Bool→Option β} (h:(match r with | some v=>f v | none=>none)=some z) (k:∀ v,r=some v→f v=some z→C):C:=by
 induction r using Option.casesOn with
 | none=>exact nS h
 | some v=>exact k v rfl h
theorem Bc {r:Option (PyData)} {f:PyData→Option β} (h:(match r with | some v=>f v | none=>none)=some z) (k:∀ v,r=some v→f v=some z→C):C:=by
 induction r using Option.casesOn with
 | none=>exact nS h
 | some v=>exact k v rfl h
theorem u5 {r:Option (AS)} {f:AS→Option β} (h:(match r with | some v=>f v | none=>none)=some z) (k:∀ v,r=some v→f v=some z→C):C:=by
 induction r using Option.casesOn with
 | none=>exact nS h
 | some v=>exact k v rfl h
theorem GJ {r:Option (AV)} {f:AV→Option β} (h:(match r with | some v=>f v | none=>none)=some z) (k:∀ v,r=some v→f v=some z→C):C:=by
 induction r using Option.casesOn with
 | none=>exact nS h
 | some v=>exact k v rfl h
theorem Ds {r:Option (List PyData)} {f:List PyData→Option β} (h:(match r with | some v=>f v | none=>none)=some z) (k:∀ v,r=some v→f v=some z→C):C:=by
 induction r using Option.casesOn with
 | none=>exact nS h
 | some v=>exact k v rfl h
theorem FT {r:Option (Int)} {f:Int→Option β} (h:(match r with | some v=>f v | none=>none)=some z) (k:∀ v,r=some v→f v=some z→C):C:=by
 induction r using Option.casesOn with
 | none=>exact nS h
 | some v=>exact k v rfl h
theorem GI {r:Option (List Int)} {f:List Int→Option β} (h:(match r with | some v=>f v | none=>none)=some z) (k:∀ v,r=some v→f v=some z→C):C:=by
 induction r using Option.casesOn with
 | none=>exact nS h
 | some v=>exact k v rfl h
theorem GH {r:Option (Nat)} {f:Nat→Option β} (h:(match r with | some v=>f v | none=>none)=some z) (k:∀ v,r=some v→f v=some z→C):C:=by
 induction r using Option.casesOn with
 | none=>exact nS h
 | some v=>exact k v rfl h
theorem yP {r:Option (AO)} {f:List PyData→Option β} (h:(match r with | some (.list x)=>f x | _=>none)=some z) (k:∀ x,r=some (.list x)→f x=some z→C):C:=by
 induction r using Option.casesOn with
 | none=>exact nS h
 | some p=>cases p with
  | list x=>exact k x rfl h
  | _=>exact nS h
theorem EY {r:Option (AO)} {f:List AV→Option β} (h:(match r with | some (.inst x)=>f x | _=>none)=some z) (k:∀ x,r=some (.inst x)→f x=some z→C):C:=by
 induction r using Option.casesOn with
 | none=>exact nS h
 | some p=>induction p using AO.casesOn with
  | inst x=>exact k x rfl h
  | _=>exact nS h
theorem FR {r:Option (AO)} {f:List (PyData×PyData)→Option β} (h:(match r with | some (.dict x)=>f x | _=>none)=some z) (k:∀ x,r=some (.dict x)→f x=some z→C):C:=by
 induction r using Option.casesOn with
 | none=>exact nS h
 | some p=>cases p with
  | dict x=>exact k x rfl h
  | _=>exact nS h
theorem FQ {r:Option (Option AV)} {f:AV→Option β} (h:(match r with | some (some x)=>f x | _=>none)=some z) (k:∀ x,r=some (some x)→f x=some z→C):C:=by
 induction r using Option.casesOn with
 | none=>exact nS h
 | some p=>induction p using Option.casesOn with
  | some x=>exact k x rfl h
  | _=>exact nS h
theorem jj {P:List FD} {W n f:Nat} {ps:List AV} {σ σ':AS} {p:AV} (h:callF P W (n + 1) f ps σ=some (p,σ')):
  ∃ fd,P[f]?=some fd∧ps.length=fd.np∧∃ fl aa,Dg.execs P W n fd.body { loc:=ps.map some++List.replicate (fd.nl - fd.np) none,out:=[],heap:=σ.heap }=some (fl,aa)∧
   ((∃ x,fl=.ret (.d x)∧p=.d x)∨(fl=.next∧p=.d .none))∧σ'={ loc:=σ.loc,out:=σ.out,heap:=fV σ.heap.length aa.heap }:=by
 change (match P[f]? with | some fd=>_ | none=>none)=_ at h
 induction hf:P[f]? using Option.casesOn with
 | none=>rw [hf] at h; exact nS h
 | some fd=>
  rw [hf] at h
  refine (m1a2 fd rfl ?_)
  change (if ps.length=fd.np then (match Dg.execs P W n fd.body { loc:=ps.map some++List.replicate (fd.nl - fd.np) none,out:=[],heap:=σ.heap } with
   | some (.ret (.d x),aa)=>some (AV.d x,({ loc:=σ.loc,out:=σ.out,heap:=fV σ.heap.length aa.heap }:AS))
   | some (.next,aa)=>some (.d .none,{ loc:=σ.loc,out:=σ.out,heap:=fV σ.heap.length aa.heap })
   | _=>none) else none)=_ at h
  refine dM h fun hn h=>?_
  refine ⟨hn,?_⟩
  induction e:Dg.execs P W n fd.body { loc:=ps.map some++List.replicate (fd.nl - fd.np) none,out:=[],heap:=σ.heap } using Option.casesOn with
  | none=>rw [e] at h; exact nS h
  | some r=>
   rw [e] at h
   obtain ⟨fl,aa⟩:=r
   induction fl using Fl.casesOn with
   | next=>cases h; exact (dr _ _ rfl (.inr ⟨rfl,rfl⟩) rfl)
   | ret a=>induction a using AV.casesOn with
    | d x=>cases h; exact (dr _ _ rfl (.inl (m1a2 x rfl rfl)) rfl)
    | o k=>exact nS h
theorem ki {l:List (Option Str)} {p:Nat→Str→Bool} (h:(l.zipIdx.all fun o=>match o.1 with | some x=>p o.2 x | none=>true)=true) {f:Nat} {x:Str} (e:(match l[f]? with | some o=>o | none=>none)=some x):p f x=true:=by
 induction q:l[f]? using Option.casesOn with
 | none=>rw [q] at e; exact nS e
 | some o=>
  rw [q] at e
  subst e
  exact List.all_eq_true.mp h (some x,f) (by rw [List.mem_zipIdx_iff_getElem?]; exact q)
theorem w9 {r:Option (AV×AS)} {f:Nat→AS→Option β} (h:(match r with | some (.o x,σ)=>f x σ | _=>none)=some z) (k:∀ x σ,r=some (.o x,σ)→f x σ=some z→C):C:=by
 induction r using Option.casesOn with
 | none=>exact nS h
 | some p=>
  obtain ⟨v,s⟩:=p
  induction v using AV.casesOn with
  | o q=>exact k q s rfl h
  | d _=>exact nS h
theorem yO {r:Option (AV×AS)} {f:Int→AS→Option β} (h:(match r with | some (.d (.int x),σ)=>f x σ | _=>none)=some z) (k:∀ x σ,r=some (.d (.int x),σ)→f x σ=some z→C):C:=by
 induction r using Option.casesOn with
 | none=>exact nS h
 | some p=>
  obtain ⟨v,s⟩:=p
  induction v using AV.casesOn with
  | o _=>exact nS h
  | d v=>induction v using PyData.casesOn with
   | int q=>exact k q s rfl h
   | _=>exact nS h
theorem EW {r:Option (AV×AS)} {f:List PyData→AS→Option β} (h:(match r with | some (.d (.list x),σ)=>f x σ | _=>none)=some z) (k:∀ x σ,r=some (.d (.list x),σ)→f x σ=some z→C):C:=by
 induction r using Option.casesOn with
 | none=>exact nS h
 | some p=>
  obtain ⟨v,s⟩:=p
  induction v using AV.casesOn with
  | o _=>exact nS h
  | d v=>cases v with
   | list q=>exact k q s rfl h
   | _=>exact nS h
theorem xU {r:Option (Bool×AS)} {f g:AS→Option β} (h:(match r with | some (true,σ)=>f σ | some (false,σ)=>g σ | none=>none)=some z) (k1:∀ σ,r=some (true,σ)→f σ=some z→C) (k2:∀ σ,r=some (false,σ)→g σ=some z→C):C:=by
 induction r using Option.casesOn with
 | none=>exact nS h
 | some v=>
  obtain ⟨b,σ⟩:=v
  induction b using Bool.casesOn with
  | true=>exact k1 σ rfl h
  | false=>exact k2 σ rfl h
theorem FS {r:Option Bool} {f g:Option β} (h:(match r with | some true=>f | some false=>g | none=>none)=some z) (k1:r=some true→f=some z→C) (k2:r=some false→g=some z→C):C:=by
 induction r using Option.casesOn with
 | none=>exact nS h
 | some b=>induction b using Bool.casesOn with
  | true=>exact k1 rfl h
  | false=>exact k2 rfl h
theorem xS {r:Option (AV×AS)} {f:PyData→AS→Option β} (h:(match r with | some (.d x,σ)=>f x σ | _=>none)=some z) (k:∀ x σ,r=some (.d x,σ)→f x σ=some z→C):C:=by
 induction r using Option.casesOn with
 | none=>exact nS h
 | some p=>
  obtain ⟨v,s⟩:=p
  induction v using AV.casesOn with
  | o _=>exact nS h
  | d v=>exact k v s rfl h
theorem GK {r:Option (AV×AS)} {f:PyData→AS→Option β} {g:Nat→AS→Option β} (h:(match r with | some (.d x,σ)=>f x σ | some (.o x,σ)=>g x σ | none=>none)=some z) (k1:∀ x σ,r=some (.d x,σ)→f x σ=some z→C) (k2:∀ x σ,r=some (.o x,σ)→g x σ=some z→C):C:=by
 induction r using Option.casesOn with
 | none=>exact nS h
 | some p=>
  obtain ⟨v,s⟩:=p
  induction v using AV.casesOn with
  | o q=>exact k2 q s rfl h
  | d v=>exact k1 v s rfl h
theorem GC {r:Option (AV×AS)} {f g:AS→Option β} (h:(match r with | some (.d (.bool true),σ)=>f σ | some (.d (.bool false),σ)=>g σ | _=>none)=some z) (k1:∀ σ,r=some (.d (.bool true),σ)→f σ=some z→C) (k2:∀ σ,r=some (.d (.bool false),σ)→g σ=some z→C):C:=by
 induction r using Option.casesOn with
 | none=>exact nS h
 | some p=>
  obtain ⟨v,s⟩:=p
  induction v using AV.casesOn with
  | o _=>exact nS h
  | d v=>cases v with
   | bool b=>induction b using Bool.casesOn with
    | true=>exact k1 s rfl h
    | false=>exact k2 s rfl h
   | _=>exact nS h
theorem GB {r:Option (AV×AS)} {e:Nat→AS→Option β} {f g:List PyData→AS→Option β} (h:(match r with | some (.o x,σ)=>e x σ | some (.d (.list x),σ)=>f x σ | some (.d (.tuple x),σ)=>g x σ | _=>none)=some z)
  (k0:∀ x σ,r=some (.o x,σ)→e x σ=some z→C) (k1:∀ x σ,r=some (.d (.list x),σ)→f x σ=some z→C) (k2:∀ x σ,r=some (.d (.tuple x),σ)→g x σ=some z→C):C:=by
 induction r using Option.casesOn with
 | none=>exact nS h
 | some p=>
  obtain ⟨v,s⟩:=p
  induction v using AV.casesOn with
  | o q=>exact k0 q s rfl h
  | d v=>induction v using PyData.casesOn with
   | list b=>exact k1 b s rfl h
   | tuple b=>exact k2 b s rfl h
   | _=>exact nS h
theorem EV {r:Option AO} {f:List PyData→Option β} {g:List (PyData×PyData)→Option β} (h:(match r with | some (.list x)=>f x | some (.dict x)=>g x | _=>none)=some z) (k1:∀ x,r=some (.list x)→f x=some z→C) (k2:∀ x,r=some (.dict x)→g x=some z→C):C:=by
 induction r using Option.casesOn with
 | none=>exact nS h
 | some p=>induction p using AO.casesOn with
  | list x=>exact k1 x rfl h
  | dict x=>exact k2 x rfl h
  | _=>exact nS h
theorem EU {r:Option AO} {f:List PyData→Option β} {g:List (PyData×PyData)→Option β} (h:(match r with | some (.dict x)=>g x | some (.list x)=>f x | _=>none)=some z) (k2:∀ x,r=some (.dict x)→g x=some z→C) (k1:∀ x,r=some (.list x)→f x=some z→C):C:=by
 induction r using Option.casesOn with
 | none=>exact nS h
 | some p=>induction p using AO.casesOn with
  | list x=>exact k1 x rfl h
  | dict x=>exact k2 x rfl h
  | _=>exact nS h
theorem FP {r:Option PyData} {f:List PyData→Option β} (h:(match r with | some (.list x)=>f x | _=>none)=some z) (k:∀ x,r=some (.list x)→f x=some z→C):C:=by
 induction r using Option.casesOn with
 | none=>exact nS h
 | some p=>cases p with
  | list x=>exact k x rfl h
  | _=>exact nS h
theorem GF {r:Option PyData} {f:Int→Option β} (h:(match r with | some (.int x)=>f x | _=>none)=some z) (k:∀ x,r=some (.int x)→f x=some z→C):C:=by
 induction r using Option.casesOn with
 | none=>exact nS h
 | some p=>induction p using PyData.casesOn with
  | int x=>exact k x rfl h
  | _=>exact nS h
theorem Dr {r:PyData} {f:Int→Option β} (h:(match r with | .int x=>f x | _=>none)=some z) (k:∀ x,r=.int x→f x=some z→C):C:=by
 induction r using PyData.casesOn with
 | int x=>exact k x rfl h
 | _=>exact nS h
theorem GE {r:Option AO} {f:PyData→Option β} (h:(match r with | some (.list [x])=>f x | _=>none)=some z) (k:∀ x,r=some (.list [x])→f x=some z→C):C:=by
 induction r using Option.casesOn with
 | none=>exact nS h
 | some p=>cases p with
  | list x=>induction x using List.casesOn with
   | nil=>exact nS h
   | cons x t=>induction t using List.casesOn with
    | nil=>exact k x rfl h
    | cons _ _=>exact nS h
  | _=>exact nS h
theorem Ci {r1 r2:Option PyData} {f:PyData→PyData→Option β} (h:(match r1,r2 with | some x,some y=>f x y | _,_=>none)=some z) (k:∀ x y,r1=some x→r2=some y→f x y=some z→C):C:=by
 induction r1 using Option.casesOn with
 | none=>exact nS h
 | some x=>induction r2 using Option.casesOn with
  | none=>exact nS h
  | some y=>exact k x y rfl rfl h
theorem E0 {r1 r2:Option AO} {f:List PyData→List PyData→Option β} (h:(match r1,r2 with | some (.list x),some (.list y)=>f x y | _,_=>none)=some z) (k:∀ x y,r1=some (.list x)→r2=some (.list y)→f x y=some z→C):C:=by
 induction r1 using Option.casesOn with
 | none=>exact nS h
 | some x=>cases x with
  | list x=>induction r2 using Option.casesOn with
   | none=>exact nS h
   | some y=>cases y with
    | list y=>exact k x y rfl rfl h
    | _=>exact nS h
  | _=>exact nS h
theorem xT {a b:AV} {f:Int→Int→Option β} (h:(match a,b with | .d (.int x),.d (.int y)=>f x y | _,_=>none)=some z) (k:∀ x y,a=.d (.int x)→b=.d (.int y)→f x y=some z→C):C:=by
 induction a using AV.casesOn with
 | o _=>exact nS h
 | d x=>induction x using PyData.casesOn with
  | int x=>induction b using AV.casesOn with
   | o _=>exact nS h
   | d y=>induction y using PyData.casesOn with
    | int y=>exact k x y rfl rfl h
    | _=>exact nS h
  | _=>exact nS h
theorem Cj {a:AV} {f:PyData→Option β} (h:(match a with | .d x=>f x | .o _=>none)=some z) (k:∀ x,a=.d x→f x=some z→C):C:=by
 induction a using AV.casesOn with
 | o _=>exact nS h
 | d x=>exact k x rfl h
theorem t9 {σ:AS} {a:AV} {r:Bool} (h:truthV σ a=some r) (k1:a=.d (.bool r)→C) (k2:∀ xs,σ.look a=some (.list xs)→xs.length≤dz→(!xs.isEmpty)=r→C):C:=by
 induction a using AV.casesOn with
 | o n=>exact FP h fun xs e h=>dM h fun b h=>k2 xs e b (Option.some.inj h)
 | d x=>cases x with
  | bool b=>induction Option.some.inj h; exact k1 rfl
  | list xs=>exact dM h fun b h=>k2 xs rfl b (Option.some.inj h)
  | _=>exact nS h
theorem GD {r:Option (AV×AS)} {f:AS→Option β} (h:(match r with | some (.d .none,σ)=>f σ | _=>none)=some z) (k:∀ σ,r=some (.d .none,σ)→f σ=some z→C):C:=by
 induction r using Option.casesOn with
 | none=>exact nS h
 | some p=>
  obtain ⟨v,s⟩:=p
  induction v using AV.casesOn with
  | o _=>exact nS h
  | d v=>cases v with
   | none=>exact k s rfl h
   | _=>exact nS h
theorem dH {x:PyData} {p:Int×Int} (h:pairOf x=some p):x=.tuple [.int p.1,.int p.2]:=by
 induction x using PyData.casesOn with
 | tuple xs=>induction xs using List.casesOn with
  | nil=>exact nS h
  | cons a xs=>induction xs using List.casesOn with
   | nil=>induction a using PyData.casesOn with
    | _=>exact nS h
   | cons b xs=>induction xs using List.casesOn with
    | cons _ _=>induction a using PyData.casesOn with
     | int _=>induction b using PyData.casesOn with
      | _=>exact nS h
     | _=>exact nS h
    | nil=>induction a using PyData.casesOn with
     | int a=>induction b using PyData.casesOn with
      | int b=>induction Option.some.inj h; rfl
      | _=>exact nS h
     | _=>exact nS h
 | _=>exact nS h
theorem nj {x y:PyData} {b:Bool} (h:r0 x y=some b):∃ p q,pairOf x=some p∧pairOf y=some q∧decide (p.1 < q.1∨(p.1=q.1∧p.2 < q.2))=b:=by
 change (match pairOf x with | some p=>_ | none=>none)=_ at h
 generalize pairOf x=u at h
 generalize pairOf y=w at h
 induction u using Option.casesOn with
 | none=>exact nS h
 | some p=>induction w using Option.casesOn with
  | none=>exact nS h
  | some q=>exact ⟨p,q,rfl,rfl,Option.some.inj h⟩
theorem vN {xs ys:List PyData} (h:qf xs=some ys) (k1:∀ x,xs=[x]→ys=[x]→C)
  (k2:∀ a b c d,xs=[.tuple [.int a,.int b],.tuple [.int c,.int d]]→ys=(if c < a∨(c=a∧d < b) then [.tuple [.int c,.int d],.tuple [.int a,.int b]] else [.tuple [.int a,.int b],.tuple [.int c,.int d]])→C):C:=by
 induction xs using List.casesOn with
 | nil=>exact nS h
 | cons x xs=>induction xs using List.casesOn with
  | nil=>exact Cd h fun v e h=>k1 x rfl (Option.some.inj h).symm
  | cons y xs=>induction xs using List.casesOn with
   | cons _ _=>exact nS h
   | nil=>
    refine FS h (fun e h=>?_) fun e h=>?_
    ·obtain ⟨p,q,h1,h2,h3⟩:=nj e
     rw [dH h1,dH h2] at h
     refine k2 q.1 q.2 p.1 p.2 (by rw [dH h1,dH h2]) ((Option.some.inj h).symm.trans (if_pos (of_decide_eq_true h3)).symm)
    ·obtain ⟨p,q,h1,h2,h3⟩:=nj e
     rw [dH h1,dH h2] at h
     refine k2 q.1 q.2 p.1 p.2 (by rw [dH h1,dH h2]) ((Option.some.inj h).symm.trans (if_neg (of_decide_eq_false h3)).symm)
theorem ut {xs ys:List PyData} (h:gX xs=some ys) (k1:∀ b,xs=[.int b]→b.natAbs≤cB→iz 1 b.toNat 0=ys→C)
  (k2:∀ a b c,xs=[.int a,.int b,.int c]→(0 < c∧a.natAbs≤cB∧b.natAbs≤cB∧c≤cB)→iz c (if a < b then ((b - a - 1) / c + 1).toNat else 0) a=ys→C):C:=by
 induction xs using List.casesOn with
 | nil=>exact nS h
 | cons x xs=>induction xs using List.casesOn with
  | nil=>cases x with
   | int b=>exact dM h fun q h=>k1 b rfl q (Option.some.inj h)
   | _=>exact nS h
  | cons y xs=>induction xs using List.casesOn with
   | nil=>cases x <;> first | (exact nS h; done) | (cases y <;> exact nS h)
   | cons w xs=>induction xs using List.casesOn with
    | cons _ _=>cases x <;> first | (exact nS h; done) | (cases y <;> first | (exact nS h; done) | (cases w <;> exact nS h))
    | nil=>induction x using PyData.casesOn with
     | int a=>induction y using PyData.casesOn with
      | int b=>induction w using PyData.casesOn with
       | int c=>exact dM h fun q h=>k2 a b c rfl q (Option.some.inj h)
       | _=>exact nS h
      | _=>exact nS h
     | _=>exact nS h
theorem GA {r:Option (PyData×AS)} {f:List PyData→AS→Option β} (h:(match r with | some (.list x,σ)=>f x σ | _=>none)=some z) (k:∀ x σ,r=some (.list x,σ)→f x σ=some z→C):C:=by
 induction r using Option.casesOn with
 | none=>exact nS h
 | some p=>
  obtain ⟨v,s⟩:=p
  cases v with
  | list b=>exact k b s rfl h
  | _=>exact nS h
theorem Gz {r:Option (PyData×AS)} {f g:List PyData→AS→Option β} (h:(match r with | some (.list x,σ)=>f x σ | some (.tuple x,σ)=>g x σ | _=>none)=some z) (k1:∀ x σ,r=some (.list x,σ)→f x σ=some z→C) (k2:∀ x σ,r=some (.tuple x,σ)→g x σ=some z→C):C:=by
 induction r using Option.casesOn with
 | none=>exact nS h
 | some p=>
  obtain ⟨v,s⟩:=p
  induction v using PyData.casesOn with
  | list b=>exact k1 b s rfl h
  | tuple b=>exact k2 b s rfl h
  | _=>exact nS h
theorem Gy {x y:PyData} {f:Int→Int→Option β} (h:(match x,y with | .int a,.int b=>f a b | _,_=>none)=some z) (k:∀ a b,x=.int a→y=.int b→f a b=some z→C):C:=by
 induction x using PyData.casesOn with
 | int a=>induction y using PyData.casesOn with
  | int b=>exact k a b rfl rfl h
  | _=>exact nS h
 | _=>exact nS h
theorem Gx {r:Option (Option AV)} {f:PyData→Option β} (h:(match r with | some (some (.d x))=>f x | _=>none)=some z) (k:∀ x,r=some (some (.d x))→f x=some z→C):C:=by
 induction r using Option.casesOn with
 | none=>exact nS h
 | some p=>induction p using Option.casesOn with
  | none=>exact nS h
  | some v=>induction v using AV.casesOn with
   | o _=>exact nS h
   | d x=>exact k x rfl h
theorem uh {x lo hi r:PyData} (h:kS x lo hi=some r) (k:∀ xs a b,x=.list xs→lo=.int a→hi=.int b→(0≤a∧a≤b∧b≤xs.length∧xs.length≤dz)→PyData.list ((xs.drop a.toNat).take (b - a).toNat)=r→C):C:=by
 cases x with
 | list xs=>induction lo using PyData.casesOn with
  | int a=>induction hi using PyData.casesOn with
   | int b=>exact dM h fun q e=>k xs a b rfl rfl rfl q (Option.some.inj e)
   | _=>exact nS h
  | _=>exact nS h
 | _=>exact nS h
theorem yx {op:BO} {x y:AV} {σ:AS} {z:AV×AS} (h:(match op,x,y with
   | .mul,.o k,.d (.int m)=>(match σ.heap[k]? with
    | some (.list [z])=>if 0≤m∧m≤cB then some (σ.alloc (.list (List.replicate m.toNat z))) else none
    | _=>none)
   | op,.d x,.d y=>(match binD op x y with
    | some z=>some (.d z,σ)
    | none=>none)
   | _,_,_=>none)=some z)
  (k1:∀ k m u,op=.mul→x=.o k→y=.d (.int m)→σ.heap[k]?=some (.list [u])→0≤m∧m≤cB→σ.alloc (.list (List.replicate m.toNat u))=z→C) (k2:∀ a b u,x=.d a→y=.d b→binD op a b=some u→(AV.d u,σ)=z→C):C:=by
 induction x using AV.casesOn with
 | o k=>induction y using AV.casesOn with
  | o _=>induction op <;> exact nS h
  | d y=>cases op with
   | mul=>induction y using PyData.casesOn with
    | int m=>exact GE h fun u hk h=>dM h fun hm h=>k1 k m u rfl rfl rfl hk hm (Option.some.inj h)
    | _=>exact nS h
   | _=>exact nS h
 | d x=>induction y using AV.casesOn with
  | o _=>induction op <;> exact nS h
  | d y=>induction op <;> exact Bc h fun u e h=>k2 x y u rfl rfl e (Option.some.inj h)
noncomputable def Nx (f:AS→Option (Fl×AS)) (z:Fl×AS):Fl→AS→Prop
 | .next,σ=>f σ=some z
 | .ret a,σ=>some (.ret a,σ)=some z
theorem EZ {r:Option (Fl×AS)} {f:AS→Option (Fl×AS)} {z:Fl×AS} (h:(match r with | some (.next,aa)=>f aa | r=>r)=some z) (k:∀ fl σ,r=some (fl,σ)→Nx f z fl σ→C):C:=by
 induction r using Option.casesOn with
 | none=>exact nS h
 | some p=>
  obtain ⟨v,s⟩:=p
  induction v using Fl.casesOn with
  | next=>exact k .next s rfl h
  | ret a=>exact k (.ret a) s rfl h
noncomputable def Tx (f:AS→Option (Bool×AS)) (z:Bool×AS):Bool→AS→Prop
 | true,σ=>f σ=some z
 | false,σ=>some (false,σ)=some z
theorem FU {r:Option (Bool×AS)} {f:AS→Option (Bool×AS)} {z:Bool×AS} (h:(match r with | some (true,aa)=>f aa | r=>r)=some z) (k:∀ fl σ,r=some (fl,σ)→Tx f z fl σ→C):C:=by
 induction r using Option.casesOn with
 | none=>exact nS h
 | some p=>
  obtain ⟨v,s⟩:=p
  induction v using Bool.casesOn with
  | true=>exact k true s rfl h
  | false=>exact k false s rfl h
theorem t5 {t:AS→Option (Bool×AS)} {b:AS→Option (Fl×AS)} {m:Nat} {σ:AS} {z:Fl×AS} (h:whileIt t b m σ=some z)
  (k:∀ m' c aa,m=m' + 1→t σ=some (c,aa)→(if c=true then (match b aa with | some (.next,ah)=>whileIt t b m' ah | r=>r) else some (.next,aa))=some z→C):C:=by
 induction m using Nat.casesOn with
 | zero=>exact nS h
 | succ m=>
  change (match t σ with | some (false,aa)=>some (Fl.next,aa) | some (true,aa)=>(match b aa with | some (.next,ah)=>whileIt t b m ah | r=>r) | none=>none)=_ at h
  induction e:t σ using Option.casesOn with
  | none=>rw [e] at h; exact nS h
  | some p=>
   obtain ⟨c,s⟩:=p
   rw [e] at h
   induction c using Bool.casesOn with
   | true=>exact k m true s rfl e h
   | false=>exact k m false s rfl e h
theorem xv {n i:Nat} {a:AV} {σ σ':AS} (h:ds n (.loc i) a σ=some σ'):σ'=σ.setLoc i a:=by
 induction n using Nat.casesOn with
 | zero=>exact nS h
 | succ n=>
  change (match σ.loc[i]? with | some _=>some (σ.setLoc i a) | none=>none)=_ at h
  induction e:σ.loc[i]? using Option.casesOn with
  | none=>rw [e] at h; exact nS h
  | some v=>rw [e] at h; induction Option.some.inj h; rfl
theorem kJ:∀ {ts:List T} {xs:List PyData} {n:Nat} {σ σ':AS},eU n ts xs σ=some σ'→ts.length=xs.length
 | [],[],0,_,_,h=>nomatch h
 | [],[],_ + 1,_,_,_=>rfl
 | [],_ :: _,0,_,_,h=>nomatch h
 | [],_ :: _,_ + 1,_,_,h=>nomatch h
 | _ :: _,[],0,_,_,h=>nomatch h
 | _ :: _,[],_ + 1,_,_,h=>nomatch h
 | _ :: _,_ :: _,0,_,_,h=>nomatch h
 | t :: ts,x :: xs,n + 1,σ,σ',h=>u5 h fun zz zz h=>congrArg (· + 1) (kJ h)
end
noncomputable def b_tidy:List S:=
 [.assign (.loc 1) (.list []),
  .for (.tup [(.loc 2),(.loc 3)]) (0,[(.sorted (.loc 0))])
   [.ite (.conj (.loc 1) (.cmp .le (.loc 2) (.bin .add (.sub (.sub (.loc 1) (.neg (.int 1))) (.int 1)) (.int 1))))
    [.ite (.cmp .gt (.loc 3) (.sub (.sub (.loc 1) (.neg (.int 1))) (.int 1)))
      [.setSub (.loc 1) (.neg (.int 1)) (.tup [(.sub (.sub (.loc 1) (.neg (.int 1))) (.int 0)),(.loc 3)])]
      []]
    [.expr (.append (.loc 1) (.tup [(.loc 2),(.loc 3)]))]],
  .ret (.loc 1)]
noncomputable def b_init:List S:=
 [.setAttr (.loc 0) 0 (.loc 1),
  .setAttr (.loc 0) 1 (.list []),
  .setAttr (.loc 0) 2 .dict0,
  .setAttr (.loc 0) 3 .dict0]
noncomputable def b_kept:List S:=
 [.ite (.cmp .notin (.loc 1) (.attr (.loc 0) 2))
   [.setSub (.attr (.loc 0) 2) (.loc 1) (.len (.attr (.loc 0) 1)),
   .expr (.append (.attr (.loc 0) 1) (.loc 1))]
   [],
  .ret (.sub (.attr (.loc 0) 2) (.loc 1))]
noncomputable def b_leaf:List S:=
 [.ret (.meth 2 (.loc 0) [(.tup [(.str (Str.ofString "leaf")),(.loc 1)])])]
noncomputable def b_make:List S:=
 [.assign (.loc 3) (.list []),
  .assign (.loc 4) (.sub (.attr (.loc 0) 0) (.loc 1)),
  .assign (.loc 5) (.neg (.int 1)),
  .for (.tup [(.loc 6),(.loc 7)]) (0,[(.loc 2)])
   [.assign (.loc 5) (.ife (.cmp .gt (.loc 6) (.loc 5)) (.loc 6) (.bin .add (.loc 4) (.int 1))),
   .ite (.conj (.cmp .gt (.len (.loc 3)) (.int 0)) (.cmp .eq (.sub (.sub (.loc 3) (.neg (.int 1))) (.int 1)) (.loc 7)))
    [.setSub (.loc 3) (.neg (.int 1)) (.tup [(.loc 6),(.loc 7)])]
    [.expr (.append (.loc 3) (.tup [(.loc 6),(.loc 7)]))]],
  .ite (.cmp .ne (.loc 5) (.loc 4))
   [.raise]
   [],
  .ite (.cmp .eq (.len (.loc 3)) (.int 1))
   [.ret (.sub (.sub (.loc 3) (.int 0)) (.int 1))]
   [],
  .ret (.meth 2 (.loc 0) [(.tup [(.loc 1),(.tuple (.loc 3))])])]
noncomputable def b_node:List S:=
 [.ret (.sub (.attr (.loc 0) 1) (.loc 1))]
noncomputable def b_level:List S:=
 [.assign (.loc 2) (.sub (.sub (.attr (.loc 0) 1) (.loc 1)) (.int 0)),
  .ret (.ife (.cmp .eq (.loc 2) (.str (Str.ofString "leaf"))) (.len (.attr (.loc 0) 0)) (.loc 2))]
noncomputable def b_parts_at:List S:=
 [.assign (.tup [(.loc 3),(.loc 4)]) (.meth 5 (.loc 0) [(.loc 1)]),
  .ite (.cmp .eq (.loc 3) (.loc 2))
   [.ret (.loc 4)]
   [],
  .ret (.tup [(.tup [(.sub (.attr (.loc 0) 0) (.loc 2)),(.loc 1)])])]
noncomputable def b_split:List S:=
 [.assign (.loc 2) (.min1 (.comp 3 (.meth 6 (.out 0) [(.loc 1)]) [((.loc 1),(0,[(.loc 1)]),[])])),
  .assign (.loc 3) (.comp 5 (.call 7 [(.out 0),(.loc 1),(.out 2)]) [((.loc 1),(0,[(.loc 1)]),[])]),
  .assign (.loc 4) (.bin .mul (.list [(.int 0)]) (.len (.loc 3))),
  .assign (.loc 5) (.list []),
  .assign (.loc 6) (.neg (.int 1)),
  .while (.cmp .lt (.loc 6) (.sub (.attr (.loc 0) 0) (.loc 2)))
   [.assign (.loc 8) (.comp 4 (.sub (.loc 2) (.sub (.out 4) (.loc 1))) [((.tup [(.loc 1),(.loc 2)]),(2,[(.loc 3)]),[])]),
   .assign (.loc 6) (.min1 (.comp 2 (.sub (.loc 1) (.int 0)) [((.loc 1),(0,[(.loc 8)]),[])])),
   .expr (.append (.loc 5) (.tup [(.loc 6),(.comp 2 (.sub (.loc 1) (.int 1)) [((.loc 1),(0,[(.loc 8)]),[])])])),
   .for (.tup [(.loc 7),(.loc 9)]) (2,[(.loc 8)])
    [.ite (.cmp .eq (.sub (.loc 9) (.int 0)) (.loc 6))
      [.augSub (.loc 4) (.loc 7) .add (.int 1)]
      []]],
  .ret (.tup [(.loc 2),(.loc 5)])]
noncomputable def b_test:List S:=
 [.ite (.cmp .le (.min2 (.meth 6 (.loc 0) [(.loc 3)]) (.meth 6 (.loc 0) [(.loc 4)])) (.loc 1))
   [.raise]
   [],
  .assign (.loc 5) (.sub (.attr (.loc 0) 0) (.loc 1)),
  .assign (.loc 6) (.list []),
  .assign (.loc 7) (.int 0),
  .for (.tup [(.loc 8),(.loc 9)]) (0,[(.call 0 [(.loc 2)])])
   [.ite (.cmp .le (.loc 8) (.loc 5))
    [.ite (.cmp .gt (.loc 8) (.loc 7))
      [.expr (.append (.loc 6) (.tup [(.bin .sub (.loc 8) (.int 1)),(.loc 4)]))]
      [],
     .expr (.append (.loc 6) (.tup [(.min2 (.loc 9) (.loc 5)),(.loc 3)])),
     .assign (.loc 7) (.bin .add (.loc 9) (.int 1))]
    []],
  .ite (.cmp .le (.loc 7) (.loc 5))
   [.expr (.append (.loc 6) (.tup [(.loc 5),(.loc 4)]))]
   [],
  .ret (.meth 4 (.loc 0) [(.loc 1),(.loc 6)])]
noncomputable def b_choose:List S:=
 [.ite (.cmp .eq (.loc 2) (.loc 3))
   [.ret (.loc 2)]
   [],
  .assign (.tup [(.loc 4),(.loc 5)]) (.meth 5 (.loc 0) [(.loc 1)]),
  .ite (.cmp .eq (.loc 4) (.str (Str.ofString "leaf")))
   [.ret (.ife (.cmp .eq (.loc 5) (.int 1)) (.loc 2) (.loc 3))]
   [],
  .assign (.loc 6) (.tup [(.loc 1),(.loc 2),(.loc 3)]),
  .ite (.cmp .notin (.loc 6) (.attr (.loc 0) 3))
   [.assign (.tup [(.loc 7),(.loc 8)]) (.call 8 [(.loc 0),(.loc 6)]),
   .assign (.loc 9) (.comp 5 (.tup [(.loc 1),(.call 10 [(.out 0),(.sub (.loc 2) (.int 0)),(.sub (.loc 2) (.int 1)),(.sub (.loc 2) (.int 2))])]) [((.tup [(.loc 1),(.loc 2)]),(0,[(.loc 8)]),[])]),
   .setSub (.attr (.loc 0) 3) (.loc 6) (.meth 4 (.loc 0) [(.loc 7),(.loc 9)])]
   [],
  .ret (.sub (.attr (.loc 0) 3) (.loc 6))]
noncomputable def b_size_of_diagram:List S:=
 [.assign (.loc 2) (.dict1 (.loc 1) (.bool true)),
  .assign (.loc 3) (.list [(.loc 1)]),
  .while (.cmp .gt (.len (.loc 3)) (.int 0))
   [.assign (.tup [(.loc 4),(.loc 5)]) (.meth 5 (.loc 0) [(.pop (.loc 3))]),
   .ite (.cmp .ne (.loc 4) (.str (Str.ofString "leaf")))
    [.for (.tup [(.loc 6),(.loc 7)]) (0,[(.loc 5)])
      [.ite (.cmp .notin (.loc 7) (.loc 2))
       [.setSub (.loc 2) (.loc 7) (.bool true),
        .expr (.append (.loc 3) (.loc 7))]
       []]]
    []],
  .ret (.len (.loc 2))]
noncomputable def b_ways:List S:=
 [.assign (.loc 3) (.list []),
  .assign (.loc 4) (.list [(.tup [(.loc 1),(.tup [])])]),
  .while (.cmp .gt (.len (.loc 4)) (.int 0))
   [.assign (.tup [(.loc 5),(.loc 6)]) (.pop (.loc 4)),
   .assign (.tup [(.loc 7),(.loc 8)]) (.meth 5 (.loc 0) [(.loc 5)]),
   .ite (.cmp .eq (.loc 7) (.str (Str.ofString "leaf")))
    [.ite (.cmp .eq (.len (.loc 3)) (.loc 2))
      [.raise]
      [],
     .expr (.append (.loc 3) (.tup [(.loc 6),(.loc 8)]))]
    [.assign (.loc 9) (.list []),
     .assign (.loc 10) (.int 0),
     .for (.tup [(.loc 11),(.loc 12)]) (0,[(.loc 8)])
      [.expr (.append (.loc 9) (.tup [(.loc 12),(.bin .add (.loc 6) (.tup [(.tup [(.loc 7),(.tup [(.loc 10),(.loc 11)])])]))])),
      .assign (.loc 10) (.bin .add (.loc 11) (.int 1))],
     .expr (.reverse (.loc 9)),
     .expr (.extend (.loc 4) (.loc 9))]],
  .ret (.loc 3)]
noncomputable def b_ldrawn:List S:=
 [.assign (.loc 1) (.list [(.int 0),(.int 0),(.int 0),(.int 1),(.int 1),(.int 0),(.int 5),(.int 8),(.int 0),(.int 18),(.int 19),(.int 13),(.int 7),(.int 0),(.int 12),(.int 0),(.int 0),(.int 30)]),
  .ret (.comp 5 (.bin .add (.sub (.out 1) (.loc 1)) (.ife (.cmp .lt (.loc 1) (.len (.out 0))) (.sub (.out 0) (.loc 1)) (.int 0))) [((.loc 1),(1,[(.len (.loc 1))]),[])])]
noncomputable def b_lspans:List S:=
 [.assign (.tup [(.loc 2),(.loc 3)]) (.tup [(.bin .mod (.loc 0) (.bin .add (.loc 1) (.int 2))),(.bin .mod (.bin .fdiv (.loc 0) (.int 5)) (.bin .add (.loc 1) (.int 2)))]),
  .assign (.loc 4) (.list [(.tup [(.min2 (.loc 2) (.loc 3)),(.max2 (.loc 2) (.loc 3))])]),
  .ite (.cmp .eq (.bin .mod (.bin .fdiv (.loc 0) (.int 25)) (.int 2)) (.int 1))
   [.expr (.append (.loc 4) (.tup [(.int 0),(.bin .mod (.bin .fdiv (.loc 0) (.int 50)) (.bin .add (.loc 1) (.int 1)))]))]
   [],
  .ret (.loc 4)]
noncomputable def b_lverdict:List S:=
 [.ret (.sub (.tup [(.str (Str.ofString "accept")),(.str (Str.ofString "drop")),(.int 7)]) (.bin .mod (.loc 0) (.int 3)))]
noncomputable def b_lsequence:List S:=
 [.ret (.sub (.tup [(.tup [(.int 0),(.int 1),(.int 2)]),(.tup [(.int 2),(.int 0),(.int 1)]),(.tup [(.int 1),(.int 2),(.int 0)]),(.tup [(.int 0),(.int 2),(.int 1)]),(.tup [(.int 2),(.int 1),(.int 0)]),(.tup [(.int 1),(.int 0),(.int 2)])]) (.bin .mod (.loc 0) (.int 6)))]
noncomputable def b_lrules:List S:=
 [.assign (.loc 2) (.list []),
  .for (.loc 3) (1,[(.int 6),(.len (.loc 0)),(.int 4)])
   [.assign (.loc 4) (.comp 6 (.tup [(.loc 1),(.call 14 [(.sub (.out 0) (.bin .add (.bin .add (.out 3) (.int 1)) (.loc 1))),(.sub (.out 1) (.loc 1))])]) [((.loc 1),(1,[(.int 3)]),[(.cmp .eq (.bin .mod (.bin .fdiv (.sub (.out 0) (.out 3)) (.bin .pow (.int 2) (.loc 1))) (.int 2)) (.int 1))])]),
   .expr (.append (.loc 2) (.tup [(.loc 4),(.call 15 [(.bin .fdiv (.sub (.loc 0) (.loc 3)) (.int 8))])]))],
  .ret (.loc 2)]
noncomputable def b_lholds:List S:=
 [.for (.tup [(.loc 2),(.loc 3)]) (0,[(.loc 0)])
   [.ite (.cmp2 .le .le (.loc 2) (.loc 1) (.loc 3))
    [.ret (.bool true)]
    []],
  .ret (.bool false)]
noncomputable def b_lsaid:List S:=
 [.for (.tup [(.loc 3),(.loc 4)]) (0,[(.loc 0)])
   [.ite (.cmp .eq (.comp 5 (.int 1) [((.tup [(.loc 1),(.loc 2)]),(0,[(.loc 3)]),[(.not (.call 18 [(.loc 2),(.sub (.out 2) (.loc 1))]))])]) (.list []))
    [.ret (.loc 4)]
    []],
  .ret (.loc 1)]
noncomputable def b_lcells:List S:=
 [.ret (.comp 6 (.tup [(.loc 1),(.loc 2),(.loc 4)]) [((.loc 1),(1,[(.bin .add (.sub (.loc 0) (.int 0)) (.int 1))]),[]),((.loc 2),(1,[(.bin .add (.sub (.out 0) (.int 1)) (.int 1))]),[]),((.loc 4),(1,[(.bin .add (.sub (.out 0) (.int 2)) (.int 1))]),[])])]
noncomputable def b_ltable:List S:=
 [.assign (.loc 5) (.list []),
  .for (.loc 6) (0,[(.loc 3)])
   [.assign (.loc 7) (.list [(.int 0),(.int 0),(.int 0)]),
   .for (.loc 8) (1,[(.int 3)])
    [.setSub (.loc 7) (.sub (.loc 2) (.loc 8)) (.get (.loc 4) (.sub (.loc 2) (.loc 8)) (.sub (.loc 6) (.loc 8)))],
   .expr (.append (.loc 5) (.call 19 [(.loc 0),(.loc 1),(.loc 7)]))],
  .ret (.loc 5)]
noncomputable def b_lway:List S:=
 [.assign (.loc 4) (.tup []),
  .for (.loc 5) (1,[(.int 3)])
   [.assign (.loc 6) (.bin .fdiv (.len (.loc 0)) (.bin .add (.sub (.loc 1) (.loc 5)) (.int 1))),
   .assign (.loc 7) (.comp 4 (.slice (.out 0) (.bin .mul (.out 6) (.loc 1)) (.bin .mul (.out 6) (.bin .add (.loc 1) (.int 1)))) [((.loc 1),(1,[(.bin .add (.sub (.loc 1) (.loc 5)) (.int 1))]),[])]),
   .assign (.loc 8) (.sub (.loc 7) (.sub (.loc 2) (.loc 5))),
   .assign (.tup [(.loc 9),(.loc 10)]) (.tup [(.sub (.loc 2) (.loc 5)),(.sub (.loc 2) (.loc 5))]),
   .while (.conj (.cmp .gt (.loc 9) (.int 0)) (.cmp .eq (.sub (.loc 7) (.bin .sub (.loc 9) (.int 1))) (.loc 8)))
    [.augLoc 9 .sub (.int 1)],
   .while (.conj (.cmp .lt (.loc 10) (.sub (.loc 1) (.loc 5))) (.cmp .eq (.sub (.loc 7) (.bin .add (.loc 10) (.int 1))) (.loc 8)))
    [.augLoc 10 .add (.int 1)],
   .ite (.cmp .ne (.tup [(.loc 9),(.loc 10)]) (.tup [(.int 0),(.sub (.loc 1) (.loc 5))]))
    [.assign (.loc 4) (.bin .add (.loc 4) (.tup [(.tup [(.loc 5),(.tup [(.loc 9),(.loc 10)])])])),
     .ite (.cmp .notin (.tup [(.loc 5),(.loc 0)]) (.loc 3))
      [.expr (.append (.loc 3) (.tup [(.loc 5),(.loc 0)]))]
      []]
    [],
   .assign (.loc 0) (.loc 8)],
  .ite (.cmp .notin (.loc 0) (.loc 3))
   [.expr (.append (.loc 3) (.loc 0))]
   [],
  .ret (.tup [(.loc 4),(.sub (.loc 0) (.int 0))])]
noncomputable def b_lis_shown:List S:=
 [.assign (.loc 4) (.list []),
  .assign (.loc 5) (.list []),
  .for (.loc 6) (0,[(.loc 2)])
   [.assign (.loc 7) (.call 22 [(.loc 3),(.attr (.loc 0) 0),(.loc 6),(.loc 4)]),
   .ite (.cmp .notin (.loc 7) (.loc 5))
    [.expr (.append (.loc 5) (.loc 7))]
    []],
  .ret (.conj (.cmp .eq (.call 12 [(.loc 0),(.loc 1),(.len (.loc 5))]) (.loc 5)) (.cmp .eq (.call 11 [(.loc 0),(.loc 1)]) (.len (.loc 4))))]
noncomputable def b_lbuilt:List S:=
 [.assign (.tup [(.loc 4),(.loc 5)]) (.tup [(.meth 3 (.loc 0) [(.loc 3)]),(.meth 3 (.loc 0) [(.int 0)])]),
  .for (.tup [(.loc 6),(.loc 7)]) (0,[(.rev (.loc 2))])
   [.assign (.loc 8) (.meth 3 (.loc 0) [(.int 1)]),
   .for (.loc 9) (0,[(.tup [(.int 2),(.int 1),(.int 0)])])
    [.for (.tup [(.loc 10),(.loc 11)]) (0,[(.loc 6)])
      [.ite (.cmp .eq (.loc 10) (.sub (.loc 1) (.loc 9)))
       [.assign (.loc 8) (.call 9 [(.loc 0),(.loc 9),(.loc 11),(.loc 8),(.loc 5)])]
       []]],
   .assign (.loc 4) (.call 10 [(.loc 0),(.loc 8),(.meth 3 (.loc 0) [(.loc 7)]),(.loc 4)])],
  .ret (.loc 4)]
noncomputable def b_lfixed:List S:=
 [.assign (.loc 3) (.list []),
  .for (.tup [(.loc 4),(.loc 5)]) (0,[(.loc 0)])
   [.ite (.cmp .eq (.comp 6 (.int 1) [((.tup [(.loc 1),(.loc 2)]),(0,[(.loc 4)]),[(.conj (.cmp .eq (.loc 1) (.out 1)) (.not (.call 18 [(.loc 2),(.out 2)])))])]) (.list []))
    [.expr (.append (.loc 3) (.tup [(.comp 3 (.loc 1) [((.loc 1),(0,[(.loc 4)]),[(.cmp .ne (.sub (.loc 1) (.int 0)) (.out 1))])]),(.loc 5)]))]
    []],
  .ret (.loc 3)]
noncomputable def b_law:List S:=
 [.assign (.loc 1) (.call 13 [(.loc 0)]),
  .assign (.loc 2) (.sub (.tup [(.tup [(.int 2),(.int 1),(.int 2)]),(.tup [(.int 3),(.int 1),(.int 1)]),(.tup [(.int 1),(.int 2),(.int 2)]),(.tup [(.int 2),(.int 2),(.int 1)]),(.tup [(.int 1),(.int 3),(.int 1)]),(.tup [(.int 4),(.int 0),(.int 1)])]) (.bin .mod (.sub (.loc 1) (.int 0)) (.int 6))),
  .assign (.loc 3) (.call 17 [(.loc 1),(.loc 2)]),
  .assign (.loc 4) (.call 15 [(.sub (.loc 1) (.int 5))]),
  .assign (.tup [(.loc 5),(.loc 6)]) (.tup [(.call 16 [(.sub (.loc 1) (.int 1))]),(.call 16 [(.bin .add (.bin .add (.sub (.loc 1) (.int 1)) (.int 1)) (.bin .mod (.sub (.loc 1) (.int 2)) (.int 5)))])]),
  .assign (.loc 7) (.new [(.tuple (.comp 3 (.sub (.out 2) (.loc 1)) [((.loc 1),(0,[(.loc 5)]),[])]))]),
  .assign (.loc 8) (.new [(.tuple (.comp 3 (.sub (.out 2) (.loc 1)) [((.loc 1),(0,[(.loc 6)]),[])]))]),
  .assign (.loc 9) (.call 24 [(.loc 7),(.loc 5),(.loc 3),(.loc 4)]),
  .assign (.loc 10) (.call 20 [(.attr (.loc 7) 0)]),
  .ite (.not (.call 23 [(.loc 7),(.loc 9),(.loc 10),(.call 21 [(.loc 3),(.loc 4),(.loc 5),(.loc 10),.dict0])]))
   [.ret (.bool false)]
   [],
  .assign (.loc 11) (.list []),
  .for (.tup [(.loc 12),(.loc 13)]) (0,[(.call 12 [(.loc 7),(.loc 9),(.len (.loc 10))])])
   [.expr (.append (.loc 11) (.tup [(.comp 4 (.tup [(.sub (.out 5) (.loc 1)),(.list [(.loc 2)])]) [((.tup [(.loc 1),(.loc 2)]),(0,[(.loc 12)]),[])]),(.loc 13)]))],
  .assign (.loc 14) (.bin .mod (.sub (.loc 1) (.int 3)) (.int 4)),
  .assign (.loc 15) (.bin .mod (.sub (.loc 1) (.int 4)) (.bin .add (.sub (.bin .add (.loc 2) (.tup [(.int 0)])) (.loc 14)) (.int 1))),
  .assign (.loc 9) (.call 24 [(.loc 8),(.loc 6),(.call 25 [(.loc 11),(.loc 14),(.loc 15)]),(.str (Str.ofString "none"))]),
  .ite (.cmp .ne (.loc 9) (.call 24 [(.loc 8),(.loc 6),(.call 25 [(.loc 3),(.loc 14),(.loc 15)]),(.loc 4)]))
   [.ret (.bool false)]
   [],
  .assign (.loc 10) (.call 20 [(.attr (.loc 8) 0)]),
  .ret (.call 23 [(.loc 8),(.loc 9),(.loc 10),(.call 21 [(.loc 3),(.loc 4),(.loc 6),(.loc 10),(.dict1 (.loc 14) (.loc 15))])])]
noncomputable def prog:List FD:=[⟨1,5,b_tidy⟩,⟨2,2,b_init⟩,⟨2,3,b_kept⟩,⟨2,2,b_leaf⟩,⟨3,11,b_make⟩,⟨2,2,b_node⟩,⟨2,4,b_level⟩,⟨3,5,b_parts_at⟩,⟨2,13,b_split⟩,⟨5,13,b_test⟩,⟨4,11,b_choose⟩,⟨2,9,b_size_of_diagram⟩,⟨3,15,b_ways⟩,⟨1,4,b_ldrawn⟩,⟨2,7,b_lspans⟩,⟨1,1,b_lverdict⟩,⟨1,1,b_lsequence⟩,⟨2,8,b_lrules⟩,⟨2,4,b_lholds⟩,⟨3,5,b_lsaid⟩,⟨1,2,b_lcells⟩,⟨5,11,b_ltable⟩,⟨4,13,b_lway⟩,⟨4,12,b_lis_shown⟩,⟨4,14,b_lbuilt⟩,⟨3,6,b_lfixed⟩,⟨1,29,b_law⟩]
end Dg
end
section
open PySem PySem.W PyProof.Rows PySem.Calls
namespace Dg
noncomputable def cr:List Str:=["tops","nodes","book","memo"]
mutual
noncomputable def Rd (g:Heap):Value→PyData→Prop
 | v,.none=>v=.none
 | v,.bool b=>v=.bool b
 | v,.int i=>∃ t,v=.int i t
 | v,.str x=>∃ t,v=.str x t
 | v,.list xs=>∃ a vs n,v=.ref a∧g.get? a=some { cls:=.type "list",data:=.seq vs n }∧RdAll g vs.toList xs
 | v,.tuple xs=>∃ a vs n,v=.ref a∧g.get? a=some { cls:=.type "tuple",data:=.seq vs n }∧RdAll g vs.toList xs
 | _,.dict _=>False
noncomputable def RdAll (g:Heap):List Value→List PyData→Prop
 | vs,[]=>vs=[]
 | vs,x :: xs=>∃ v r,vs=v :: r∧Rd g v x∧RdAll g r xs
end
noncomputable def Sub (g g':Heap):Prop:=∀ b o,g.get? b=some o→((o.cls=.type "list"∨o.cls=.type "tuple")∧∃ vs n,o.data=.seq vs n)→g'.get? b=some o
theorem Sub.of {g g':Heap} (h:∀ b o,g.get? b=some o→g'.get? b=some o):Sub g g':=fun b o e zz=>h b o e
mutual
theorem Rd.mono {g g':Heap} (h:Sub g g'):∀ {v:Value} {x:PyData},Rd g v x→Rd g' v x
 | _,.none,r=>by simpa [Rd] using r
 | _,.bool _,r=>by simpa [Rd] using r
 | _,.int _,r=>by simpa [Rd] using r
 | _,.str _,r=>by simpa [Rd] using r
 | _,.list xs,r=>by
  simp only [Rd] at r ⊢
  refine eV r fun a vs n e1 e2 e5=>?_; clear r
  exact (k9 a vs n e1 (h _ _ e2 ⟨.inl rfl,(bV vs n rfl)⟩) (RdAll.mono h e5))
 | _,.tuple xs,r=>by
  simp only [Rd] at r ⊢
  refine eV r fun a vs n e1 e2 e5=>?_; clear r
  exact (k9 a vs n e1 (h _ _ e2 ⟨.inr rfl,(bV vs n rfl)⟩) (RdAll.mono h e5))
 | _,.dict _,r=>by simp [Rd] at r
theorem RdAll.mono {g g':Heap} (h:Sub g g'):∀ {vs:List Value} {xs:List PyData},RdAll g vs xs→RdAll g' vs xs
 | _,[],r=>by simpa [RdAll] using r
 | _,x :: xs,r=>by
  simp only [RdAll] at r ⊢
  refine cu r fun v t e1 e2 e3=>?_; clear r
  exact (dr v t e1 (Rd.mono h e2) (RdAll.mono h e3))
end
mutual
theorem Rd.reads {g h:Heap} (k:∀ b o,g.get? b=some o→h.get? b=some o):∀ {v:Value} {x:PyData},Rd g v x→∃ as,Reads h v x as
 | _,.none,r=>by simp only [Rd] at r; subst r; exact ⟨_,.none⟩
 | _,.bool b,r=>by simp only [Rd] at r; subst r; exact ⟨_,.bool b⟩
 | _,.int i,r=>by simp only [Rd] at r; obtain ⟨t,rfl⟩:=r; exact ⟨_,.int i t⟩
 | _,.str x,r=>by simp only [Rd] at r; obtain ⟨t,rfl⟩:=r; exact ⟨_,.str x t⟩
 | _,.list xs,r=>by
  simp only [Rd] at r
  refine eV r fun a vs n e_1 e2 e5=>?_; clear r; subst e_1
  obtain ⟨as,q⟩:=RdAll.reads k e5
  exact ⟨_,.list (k _ _ e2) rfl rfl q⟩
 | _,.tuple xs,r=>by
  simp only [Rd] at r
  refine eV r fun a vs n e_2 e2 e5=>?_; clear r; subst e_2
  obtain ⟨as,q⟩:=RdAll.reads k e5
  exact ⟨_,.tuple (k _ _ e2) rfl rfl q⟩
 | _,.dict _,r=>by simp [Rd] at r
theorem RdAll.reads {g h:Heap} (k:∀ b o,g.get? b=some o→h.get? b=some o):∀ {vs:List Value} {xs:List PyData},RdAll g vs xs→∃ as,ReadsAll h vs xs as
 | _,[],r=>by simp only [RdAll] at r; subst r; exact ⟨_,.nil⟩
 | _,x :: xs,r=>by
  simp only [RdAll] at r
  refine cu r fun v t e_3 e2 e3=>?_; clear r; subst e_3
  obtain ⟨as,q⟩:=Rd.reads k e2
  obtain ⟨bs,p⟩:=RdAll.reads k e3
  exact ⟨_,.cons q p⟩
end
theorem RdAll.length {g:Heap}:∀ {vs:List Value} {xs:List PyData},RdAll g vs xs→vs.length=xs.length
 | _,[],r=>by simp only [RdAll] at r; subst r; rfl
 | _,x :: xs,r=>by
  simp only [RdAll] at r
  refine cu r fun v t e_4 zz e3=>?_; clear r; subst e_4
  simp [RdAll.length e3]
theorem RdAll.get {g:Heap}:∀ {vs:List Value} {xs:List PyData} {i:Nat} {x:PyData},RdAll g vs xs→xs[i]?=some x→∃ v,vs[i]?=some v∧Rd g v x
 | _,[],_,_,_,e=>by simp at e
 | _,y :: xs,i,x,r,e=>by
  simp only [RdAll] at r
  refine cu r fun v t e_5 e2 e3=>?_; clear r; subst e_5
  induction i using Nat.casesOn with
  | zero=>simp at e; subst e; exact (m1a2 v (by simp) e2)
  | succ i=>simp at e; refine aB (RdAll.get e3 e) fun u a b=>?_; exact (m1a2 u (by simpa using a) b)
theorem RdAll.append {g:Heap}:∀ {vs:List Value} {xs:List PyData} {us:List Value} {ys:List PyData},RdAll g vs xs→RdAll g us ys→RdAll g (vs++us) (xs++ys)
 | _,[],_,_,r,q=>by simp only [RdAll] at r; subst r; simpa using q
 | _,x :: xs,us,ys,r,q=>by
  simp only [RdAll] at r
  refine cu r fun v t e_6 e2 e3=>?_; clear r; subst e_6
  simp only [List.cons_append,RdAll]
  exact (dr v (t++us) rfl e2 (RdAll.append e3 q))
theorem RdAll.one {g:Heap} {v:Value} {x:PyData} (h:Rd g v x):RdAll g [v] [x]:=by
 simp only [RdAll]; exact (dr v [] rfl h rfl)
theorem RdAll.set {g:Heap}:∀ {vs:List Value} {xs:List PyData} {i:Nat} {v:Value} {x:PyData},RdAll g vs xs→Rd g v x→RdAll g (vs.set i v) (xs.set i x)
 | _,[],_,_,_,r,_=>by simp only [RdAll] at r; subst r; simp [RdAll]
 | _,y :: xs,i,v,x,r,q=>by
  simp only [RdAll] at r
  refine cu r fun u t e_7 e2 e3=>?_; clear r; subst e_7
  induction i using Nat.casesOn with
  | zero=>simp only [List.set_cons_zero,RdAll]; exact (dr v t rfl q e3)
  | succ i=>simp only [List.set_cons_succ,RdAll]; exact (dr u _ rfl e2 (RdAll.set e3 q))
theorem RdAll.of_get {g:Heap}:∀ {vs:List Value} {xs:List PyData},vs.length=xs.length→(∀ (i:Nat) v x,vs[i]?=some v→xs[i]?=some x→Rd g v x)→RdAll g vs xs
 | [],[],_,_=>by simp [RdAll]
 | v :: vs,x :: xs,hl,h=>by
  simp only [RdAll]
  exact (dr v vs rfl (h 0 v x rfl rfl) (RdAll.of_get (by simpa using hl) fun i u y a b=>h (i + 1) u y (by simpa using a) (by simpa using b)))
 | [],_ :: _,hl,_=>by simp at hl
 | _ :: _,[],hl,_=>by simp at hl
theorem RdAll.getBoth {g:Heap} {vs:List Value} {xs:List PyData} {i:Nat} {v:Value} {x:PyData} (h:RdAll g vs xs) (a:vs[i]?=some v) (b:xs[i]?=some x):Rd g v x:=by
 refine aB (h.get b) fun u c d=>?_
 rw [a] at c; induction Option.some.inj c; exact d
noncomputable def VRel (g:Heap) (ρ:List (Addr×Addr)) (v:Value):AV→Prop
 | .d x=>Rd g v x
 | .o k=>∃ a,ρ[k]?=some a∧v=.ref a.1
noncomputable def VRelAll (g:Heap) (ρ:List (Addr×Addr)):List Value→List AV→Prop
 | [],[]=>True
 | v :: vs,x :: xs=>VRel g ρ v x∧VRelAll g ρ vs xs
 | _,_=>False
noncomputable def de (ρ ρ':List (Addr×Addr)):Prop:=∀ (k:Nat) a,ρ[k]?=some a→ρ'[k]?=some a
theorem de.refl (ρ:List (Addr×Addr)):de ρ ρ:=fun zz zz e=>e
theorem de.trans {a b c:List (Addr×Addr)} (h:de a b) (k:de b c):de a c:=fun zz zz e=>k _ _ (h _ _ e)
theorem de.snoc (ρ:List (Addr×Addr)) (x:Addr×Addr):de ρ (ρ++[x]):=fun k a e=>by
 rw [List.getElem?_append_left (List.getElem?_eq_some_iff.mp e).1]; exact e
theorem VRel.mono {g g':Heap} {ρ ρ':List (Addr×Addr)} {v:Value} {x:AV} (h:Sub g g') (k:de ρ ρ') (r:VRel g ρ v x):VRel g' ρ' v x:=by
 induction x using AV.casesOn with
 | d x=>exact Rd.mono h r
 | o j=>refine aB r fun a e q=>?_; clear r; exact (m1a2 a (k _ _ e) q)
theorem VRelAll.mono {g g':Heap} {ρ ρ':List (Addr×Addr)} (h:Sub g g') (k:de ρ ρ'):∀ {vs:List Value} {xs:List AV},VRelAll g ρ vs xs→VRelAll g' ρ' vs xs
 | [],[],_=>trivial
 | _ :: _,_ :: _,r=>⟨r.1.mono h k,VRelAll.mono h k r.2⟩
 | [],_ :: _,r=>r.elim
 | _ :: _,[],r=>r.elim
theorem VRelAll.length {g:Heap} {ρ:List (Addr×Addr)}:∀ {vs:List Value} {xs:List AV},VRelAll g ρ vs xs→vs.length=xs.length
 | [],[],_=>rfl
 | _ :: _,_ :: _,r=>by simp [VRelAll.length r.2]
 | [],_ :: _,r=>r.elim
 | _ :: _,[],r=>r.elim
noncomputable def liveOf (a:Addr×Addr):AO→List Addr
 | .dead=>[]
 | .inst _=>[a.1,a.2]
 | .list _=>[a.1]
 | .dict _=>[a.1]
noncomputable def live:List (Addr×Addr)→List AO→List Addr
 | a :: ρ,o :: H=>liveOf a o++live ρ H
 | _,_=>[]
noncomputable def bW (h:Heap) (U:List Addr) (h':Heap) (U':List Addr):Prop:=∀ b o,h.get? b=some o→b ∉ U→h'.get? b=some o∧b ∉ U'
theorem bW.refl (h:Heap) (U:List Addr):bW h U h U:=fun zz zz e n=>⟨e,n⟩
theorem bW.trans {il sn Cp:Heap} {Db Da C9:List Addr} (a:bW il Db sn Da) (b:bW sn Da Cp C9):bW il Db Cp C9:=fun x o e n=>let ⟨p,q⟩:=a x o e n; b x o p q
theorem n7 {h:Heap} {U:List Addr} {b:Addr} {o:Obj} (e:(hideAll h U).get? b=some o):b ∉ U:=fun m=>by
 rw [hideAll_none U m] at e; exact nS e
theorem bW.hide {h h':Heap} {U U':List Addr} (k:bW h U h' U'):∀ b o,(hideAll h U).get? b=some o→(hideAll h' U').get? b=some o:=fun b o e=>
 let ⟨p,q⟩:=k b o (of_hideAll U e) (n7 e)
 hideAll_get U' p q
theorem bW.sub {h h':Heap} {U U':List Addr} (k:bW h U h' U'):Sub (hideAll h U) (hideAll h' U'):=Sub.of k.hide
noncomputable def iK (ens:List DictEntry) (fs:List AV) (g:Heap) (ρ:List (Addr×Addr)):Prop:=
 ens.length=fs.length∧fs.length≤4∧∀ (i:Nat) f,fs[i]?=some f→∃ e t x,ens[i]?=some e∧cr[i]?=some x∧e.key=.str x t∧VRel g ρ e.val f
noncomputable def fB (hs:PyData→Int) (g:Heap):List DictEntry→List (PyData×PyData)→Prop
 | [],[]=>True
 | e :: ens,p :: es=>Rd g e.key p.1∧Rd g e.val p.2∧e.hash=hs p.1∧okkey p.1=true∧(∀ q∈es,PyData.eqv p.1 q.1=false)∧fB hs g ens es
 | _,_=>False
noncomputable def od (C:Addr) (hs:PyData→Int) (h g:Heap) (ρ:List (Addr×Addr)) (a:Addr×Addr):AO→Prop
 | .list xs=>∃ vs,h.PlainList a.1 vs∧RdAll g vs.toList xs
 | .dict es=>∃ o ens n,h.get? a.1=some o∧o.ExactDict∧o.data=.dict ens n∧fB hs g ens.toList es
 | .inst fs=>∃ ens n,h.get? a.1=some (instObj C a.2)∧h.get? a.2=some (dictOf ens n)∧iK ens fs g ρ
 | .dead=>True
structure Fm where
 env:Env
 fr:List Addr
 gd:List Addr
 ns:List (Str×NameKind)
 up:List (Str×NameKind)
noncomputable def x8:NameKind→NameKind
 | .free=>.cell
 | k=>k
noncomputable abbrev wq (ns:List (Str×NameKind)):List (Str×NameKind):=ns.map fun p=>(p.1,x8 p.2)
theorem lS:∀ {ns:List (Str×NameKind)} {x:Str} {k:NameKind},ns.lookup x=some k→(wq ns).lookup x=some (x8 k)
 | (y,k') :: ns,x,k,h=>by
  simp only [wq,List.map_cons,List.lookup_cons] at h ⊢
  induction e:x == y using Bool.casesOn with
  | true=>rw [e] at h; simp at h ⊢; rw [h]
  | false=>rw [e] at h; simp at h ⊢; exact lS h
theorem pF {ns:List (Str×NameKind)} (h:∀ x∈ns,x.2≠.free):wq ns=ns:=by
 refine (List.map_congr_left fun x m=>?_).trans (List.map_id ns)
 obtain ⟨n,k⟩:=x
 have:=h _ m
 induction k <;> first | rfl | exact absurd rfl this
structure FmOk (base:Heap) (F:Fm):Prop where
 kind:F.env.scope.kind=.function
 glob:F.env.globals=mainGlobals
 blt:F.env.builtins=builtinsNs
 names:F.env.scope.names=wq F.ns
 defn:F.up=[]→∀ x∈F.ns,x.2≠.free
 nodup:(F.ns.map (·.1)).Nodup
 above:base.objs.size≤F.env.locals
 frL:F.env.locals∈F.fr
 cell:∀ x,F.ns.lookup x=some .cell→∃ c,F.env.cells.lookup x=some c∧c∈F.fr∧c≠F.env.locals
 apart:∀ x y c,F.env.cells.lookup x=some c→F.env.cells.lookup y=some c→x=y
 gdFr:∀ b∈F.gd,b∈F.fr
 locN:F.env.locals ∉ F.gd
 cellN:∀ x c,F.ns.lookup x=some .cell→F.env.cells.lookup x=some c→c ∉ F.gd
 outG:∀ x c,F.ns.lookup x=some .free→(∃ i:Nat,F.up[i]?=some (x,NameKind.cell))→F.env.cells.lookup x=some c→c∈F.gd
structure FrD (F:Fm) (h g:Heap) (ρ:List (Addr×Addr)) (loc out:List (Option AV)):Prop where
 loclen:loc.length=F.ns.length
 ns:∃ m,h.Ns F.env.locals m∧∀ (i:Nat) (x:Str),F.ns[i]?=some (x,.local)→∀ v,loc[i]?=some (some v)→∃ val,m x=some val∧VRel g ρ val v
 cells:∀ (i:Nat) (x:Str),F.ns[i]?=some (x,.cell)→∃ c cv,F.env.cells.lookup x=some c∧h.IsCell c cv∧∀ v,loc[i]?=some (some v)→∃ val,cv=some val∧VRel g ρ val v
 outs:∀ (i:Nat) (x:Str),F.ns.lookup x=some .free→F.up[i]?=some (x,.cell)→∃ c cv,F.env.cells.lookup x=some c∧h.IsCell c cv∧∀ v,out[i]?=some (some v)→∃ val,cv=some val∧VRel g ρ val v
section
variable (C:Addr) (hs:PyData→Int) (base:Heap)
noncomputable abbrev UU (F:Fm) (ρ:List (Addr×Addr)) (σ:AS):List Addr:=live ρ σ.heap++F.fr
structure St (F:Fm) (ρ:List (Addr×Addr)) (σ:AS) (h:Heap):Prop where
 len:ρ.length=σ.heap.length
 bas:∀ b o,base.get? b=some o→(hideAll h (UU F ρ σ)).get? b=some o
 nd:(UU F ρ σ).Nodup
 ex:∀ b∈UU F ρ σ,base.objs.size≤b∧∃ o,h.get? b=some o
 objs:∀ (k:Nat) a o,ρ[k]?=some a→σ.heap[k]?=some o→od C hs h (hideAll h (UU F ρ σ)) ρ a o
 fd:FrD F h (hideAll h (UU F ρ σ)) ρ σ.loc σ.out
end
variable {C:Addr} {hs:PyData→Int} {base:Heap} {F:Fm} {ρ:List (Addr×Addr)} {σ:AS} {h:Heap}
theorem dX {α:Type}:∀ {l:List (Str×α)} {x:Str} {v:α},(l.map (·.1)).Nodup→(x,v)∈l→l.lookup x=some v
 | (y,u) :: l,x,v,nd,m=>by
  rw [List.lookup_cons]
  simp only [List.map_cons] at nd
  have nd':=List.nodup_cons.mp nd
  rcases List.mem_cons.mp m with e | m
  ·cases e; simp
  ·have hne:x≠y:=fun e=>nd'.1 (e▸List.mem_map_of_mem (f:=(·.1)) m)
   have:(x == y)=false:=by simpa using hne
   rw [this]; exact dX nd'.2 m
theorem fB.mono {g g':Heap} (k:Sub g g'):∀ {ens:List DictEntry} {es:List (PyData×PyData)},fB hs g ens es→fB hs g' ens es
 | [],[],_=>trivial
 | _ :: _,_ :: _,⟨a,b,c,d,e,r⟩=>⟨a.mono k,b.mono k,c,d,e,fB.mono k r⟩
 | [],_ :: _,r=>r.elim
 | _ :: _,[],r=>r.elim
theorem iK.mono {g g':Heap} {ρ':List (Addr×Addr)} (k:Sub g g') (q:de ρ ρ') {ens:List DictEntry} {fs:List AV} (r:iK ens fs g ρ):iK ens fs g' ρ':=
 (cw r.1 r.2.1 (fun i f e=>ga (r.2.2 i f e) fun x t n a b c d=>(jL x t n a b c (d.mono k q))))
theorem od.mono {h h' g g':Heap} {ρ':List (Addr×Addr)} {a:Addr×Addr} {o:AO} (kh:∀ b∈liveOf a o,∀ x,h.get? b=some x→h'.get? b=some x) (k:Sub g g') (q:de ρ ρ') (r:od C hs h g ρ a o):od C hs h' g' ρ' a o:=by
 induction o using AO.casesOn with
 | list xs=>refine aB r fun vs e r=>?_; exact (m1a2 vs (e.at (kh _ (by simp [liveOf]))) (r.mono k))
 | dict es=>refine ga r fun o ens n e q1 q2 r=>?_; exact (jL o ens n (kh _ (by simp [liveOf]) _ e) q1 q2 (r.mono k))
 | inst fs=>refine cu r fun ens n e e' r=>?_; exact (dr ens n (kh _ (by simp [liveOf]) _ e) (kh _ (by simp [liveOf]) _ e') (r.mono k q))
 | dead=>trivial
theorem cA:∀ {ρ:List (Addr×Addr)} {H:List AO} {k:Nat} {a:Addr×Addr} {o:AO} {x:Addr},ρ[k]?=some a→H[k]?=some o→x∈liveOf a o→x∈live ρ H
 | b :: ρ,p :: H,0,a,o,x,h1,h2,h3=>by
  simp at h1 h2; subst h1; subst h2
  exact List.mem_append_left _ h3
 | b :: ρ,p :: H,k + 1,a,o,x,h1,h2,h3=>by
  simp at h1 h2
  exact List.mem_append_right _ (cA h1 h2 h3)
 | [],_,_,_,_,_,h1,_,_=>by simp at h1
 | _ :: _,[],_,_,_,_,_,h2,_=>by simp at h2
theorem g9:∀ {ρ:List (Addr×Addr)} {H:List AO} {k:Nat} {a:Addr×Addr} {o:AO},ρ[k]?=some a→H[k]?=some o→
  ∃ l r,live ρ H=l++liveOf a o++r∧∀ o',live ρ (H.set k o')=l++liveOf a o'++r
 | b :: ρ,p :: H,0,a,o,h1,h2=>by
  simp at h1 h2; subst h1; subst h2
  exact (g8 [] (live ρ H) (by simp [live]) (fun o'=>by simp [live]))
 | b :: ρ,p :: H,k + 1,a,o,h1,h2=>by
  simp at h1 h2
  refine eW (g9 h1 h2) fun l r e f=>?_
  exact (g8 (liveOf b p++l) r (by simp [live,e]) (fun o'=>by simp [live,f]))
 | [],_,_,_,_,h1,_=>by simp at h1
 | _ :: _,[],_,_,_,_,h2=>by simp at h2
theorem se {ρ:List (Addr×Addr)} {H:List AO} (nd:(live ρ H).Nodup) {k j:Nat} {a b:Addr×Addr} {o p:AO} (h1:ρ[k]?=some a) (h2:H[k]?=some o) (h3:ρ[j]?=some b) (h4:H[j]?=some p) (hne:k≠j)
  {x y:Addr} (hx:x∈liveOf a o) (hy:y∈liveOf b p):x≠y:=by
 induction ρ generalizing H k j with
 | nil=>simp at h1
 | cons c ρ ih=>
  induction H using List.casesOn with
  | nil=>simp at h2
  | cons q H=>
   simp only [live] at nd
   refine gD (List.nodup_append.mp nd) fun n1 n2 n3=>?_
   induction k using Nat.casesOn with
   | zero=>
    induction j using Nat.casesOn with
    | zero=>exact absurd rfl hne
    | succ j=>
     simp at h1 h2 h3 h4
     subst h1; subst h2
     exact n3 x hx y (cA h3 h4 hy)
   | succ k=>
    induction j using Nat.casesOn with
    | zero=>
     simp at h1 h2 h3 h4
     subst h3; subst h4
     exact fun e=>n3 y hy x (cA h1 h2 hx) e.symm
    | succ j=>
     simp at h1 h2 h3 h4
     exact ih n2 h1 h2 h3 h4 (fun e=>hne (by rw [e]))
theorem gH:∀ {ρ:List (Addr×Addr)} {H:List AO} (a:Addr×Addr) (o:AO),ρ.length=H.length→live (ρ++[a]) (H++[o])=live ρ H++liveOf a o
 | [],[],a,o,_=>by simp [live]
 | b :: ρ,p :: H,a,o,h=>by simp [live,gH a o (by simpa using h:ρ.length=H.length)]
 | [],_ :: _,_,_,h=>by simp at h
 | _ :: _,[],_,_,h=>by simp at h
theorem FrD.keep {h h' g g':Heap} {ρ':List (Addr×Addr)} {loc out:List (Option AV)} (f:FrD F h g ρ loc out) (kL:∀ o,h.get? F.env.locals=some o→h'.get? F.env.locals=some o)
  (kC:∀ x c,F.ns.lookup x=some .cell→F.env.cells.lookup x=some c→∀ o,h.get? c=some o→h'.get? c=some o) (O:FmOk base F) (kg:∀ b o,g.get? b=some o→g'.get? b=some o) (q:de ρ ρ') (kG:∀ b∈F.gd,∀ o,h.get? b=some o→h'.get? b=some o):FrD F h' g' ρ' loc out where
 loclen:=f.loclen
 ns:=by
  refine aB f.ns fun m t_1 k=>?_; refine dB t_1 fun o es ep e r=>?_; clear t_1
  exact (m1a2 m (fc o es ep (kL _ e) r) (fun i x hx v hv=>aB (k i x hx v hv) fun val a b=>(m1a2 val a (b.mono (Sub.of kg) q))))
 cells:=fun i x hx=>by
  refine cu (f.cells i x hx) fun c cv e t_2 k=>?_; refine aB t_2 fun o ho hd=>?_; clear t_2
  have hl:F.ns.lookup x=some .cell:=dX O.nodup (List.mem_of_getElem? hx)
  exact (dr c cv e (m1a2 o (kC x c hl e _ ho) hd) (fun v hv=>aB (k v hv) fun val a b=>(m1a2 val a (b.mono (Sub.of kg) q))))
 outs:=fun i x hx hu=>by
  refine cu (f.outs i x hx hu) fun c cv e t_3 k=>?_; refine aB t_3 fun o ho hd=>?_; clear t_3
  exact (dr c cv e (m1a2 o (kG _ (O.outG x c hx ⟨i,hu⟩ e) _ ho) hd) (fun v hv=>aB (k v hv) fun val a b=>(m1a2 val a (b.mono (Sub.of kg) q))))
noncomputable abbrev gr (F:Fm) (ρ:List (Addr×Addr)) (σ:AS) (h:Heap):Heap:=hideAll h (UU F ρ σ)
theorem St.baseH (S:St C hs base F ρ σ h):∀ b o,base.get? b=some o→h.get? b=some o:=fun b o e=>of_hideAll _ (S.bas b o e)
theorem St.grH (_S:St C hs base F ρ σ h):∀ b o,(gr F ρ σ h).get? b=some o→h.get? b=some o:=fun zz zz e=>of_hideAll _ e
theorem St.keeps {h':Heap} (O:FmOk base F) (S:St C hs base F ρ σ h) (k:∀ b o,h.get? b=some o→h'.get? b=some o):St C hs base F ρ σ h'∧bW h (UU F ρ σ) h' (UU F ρ σ):=by
 have G:bW h (UU F ρ σ) h' (UU F ρ σ):=fun b o e n=>⟨k b o e,n⟩
 refine ⟨⟨S.len,fun b o e=>G.hide b o (S.bas b o e),S.nd,fun b hb=>⟨(S.ex b hb).1,(S.ex b hb).2.elim fun o e=>⟨o,k b o e⟩⟩,fun j a o e1 e2=>(S.objs j a o e1 e2).mono (fun b zz x e=>k b x e) G.sub (de.refl _),?_⟩,G⟩
 exact S.fd.keep (fun o e=>k _ o e) (fun zz zz zz zz o e=>k _ o e) O G.hide (de.refl _) (fun zz zz o e=>k _ o e)
theorem St.turn {h':Heap} {σ':AS} {c:Addr} (S:St C hs base F ρ σ h) (hx:Heap.ExtBut c h h') (hc:c∈UU F ρ σ) (hex:∃ o,h'.get? c=some o) (hl:live ρ σ'.heap=live ρ σ.heap) (hlen:σ'.heap.length=σ.heap.length)
  (ho:∀ (k:Nat) a o,ρ[k]?=some a→σ'.heap[k]?=some o→(c ∉ liveOf a o∧σ.heap[k]?=some o)∨od C hs h' (hideAll h' (UU F ρ σ)) ρ a o)
  (hf:FrD F h' (hideAll h' (UU F ρ σ)) ρ σ'.loc σ'.out):St C hs base F ρ σ' h'∧bW h (UU F ρ σ) h' (UU F ρ σ'):=by
 have G:bW h (UU F ρ σ) h' (UU F ρ σ):=fun b o e n=>⟨hx b o (fun q=>n (q▸hc)) e,n⟩
 have e:UU F ρ σ'=UU F ρ σ:=by show live ρ σ'.heap++F.fr=_; rw [hl]
 refine ⟨⟨S.len.trans hlen.symm,?_,by rw [e]; exact S.nd,?_,?_,by rw [e]; exact hf⟩,by rw [e]; exact G⟩
 ·rw [e]; exact fun b o q=>G.hide b o (S.bas b o q)
 ·rw [e]; intro b hb
  refine ⟨(S.ex b hb).1,?_⟩
  by_cases hbc:b=c
  ·subst hbc; exact hex
  ·obtain ⟨_,t_4⟩:=S.ex b hb; obtain ⟨o,q⟩:=t_4; exact ⟨o,hx b o hbc q⟩
 ·rw [e]
  intro k a o e1 e2
  rcases ho k a o e1 e2 with ⟨q1,q2⟩ | q
  ·exact (S.objs k a o e1 q2).mono (fun b hb x ex=>hx b x (fun q=>q1 (q▸hb)) ex) G.sub (de.refl _)
  ·exact q
theorem bW.of_turn {h h':Heap} {U:List Addr} {c:Addr} (hx:Heap.ExtBut c h h') (hc:c∈U):bW h U h' U:=fun b o e n=>⟨hx b o (fun q=>n (q▸hc)) e,n⟩
theorem St.fdTurn {h':Heap} {c:Addr} (O:FmOk base F) (S:St C hs base F ρ σ h) (hx:Heap.ExtBut c h h') (hc:c∈UU F ρ σ) (hL:c≠F.env.locals) (hcell:∀ x d,F.ns.lookup x=some .cell→F.env.cells.lookup x=some d→d≠c) (hgd:c ∉ F.gd):
  FrD F h' (hideAll h' (UU F ρ σ)) ρ σ.loc σ.out:=
 S.fd.keep (fun o e=>hx _ o (Ne.symm hL) e) (fun x d h1 h2 o e=>hx _ o (hcell x d h1 h2) e) O (bW.of_turn hx hc).hide (de.refl _) (fun b hb o e=>hx _ o (fun q=>hgd (q▸hb)) e)
theorem St.notFr (S:St C hs base F ρ σ h) {c:Addr} (hc:c∈live ρ σ.heap):c ∉ F.fr:=fun m=>(List.nodup_append.mp S.nd).2.2 c hc c m rfl
theorem St.ndLive (S:St C hs base F ρ σ h):(live ρ σ.heap).Nodup:=(List.nodup_append.mp S.nd).1
theorem FmOk.cellIn (O:FmOk base F) {x:Str} {c:Addr} (h1:F.ns.lookup x=some .cell) (h2:F.env.cells.lookup x=some c):c∈F.fr:=by
 refine fq (O.cell x h1) fun c' e m zz=>?_
 rw [e] at h2; induction Option.some.inj h2; exact m
theorem St.ownTurn {h':Heap} {σ':AS} (O:FmOk base F) (S:St C hs base F ρ σ h) {k:Nat} {a:Addr×Addr} {o o':AO} (e1:ρ[k]?=some a) (e2:σ.heap[k]?=some o) {c:Addr} (hca:c∈liveOf a o) (hl:liveOf a o'=liveOf a o)
  (hx:Heap.ExtBut c h h') (hex:∃ x,h'.get? c=some x) (hh:σ'=σ.put k o') (hr:od C hs h' (hideAll h' (UU F ρ σ)) ρ a o'):St C hs base F ρ σ' h'∧bW h (UU F ρ σ) h' (UU F ρ σ'):=by
 have hc:c∈live ρ σ.heap:=cA e1 e2 hca
 have hcU:c∈UU F ρ σ:=List.mem_append_left _ hc
 have hnf:=S.notFr hc
 subst hh
 refine S.turn hx hcU hex ?_ (by simp [AS.put]) (fun j b p f1 f2=>?_) (S.fdTurn O hx hcU (fun q=>hnf (q▸O.frL)) (fun x d h1 h2 q=>hnf (q▸O.cellIn h1 h2)) (fun m=>hnf (O.gdFr _ m)))
 ·refine eW (g9 e1 e2) fun l r q1 q2=>?_
  show live ρ (σ.heap.set k o')=_
  rw [q1,q2,hl]
 ·by_cases hj:k=j
  ·subst hj
   have:p=o':=by
    have hk:k < σ.heap.length:=(List.getElem?_eq_some_iff.mp e2).1
    have:(σ.heap.set k o')[k]?=some o':=by simp [hk]
    exact Option.some.inj (f2.symm.trans this)
   subst this
   rw [e1] at f1; induction Option.some.inj f1
   exact .inr hr
  ·have f2':σ.heap[j]?=some p:=by
    have:(σ.heap.set k o')[j]?=σ.heap[j]?:=List.getElem?_set_ne hj
    exact this▸f2
   exact .inl ⟨fun m=>se S.ndLive e1 e2 f1 f2' hj hca m rfl,f2'⟩
theorem St.freeze (O:FmOk base F) (S:St C hs base F ρ σ h) {k:Nat} {a:Addr×Addr} {xs:List PyData} (e1:ρ[k]?=some a) (e2:σ.heap[k]?=some (.list xs)):
  St C hs base F ρ (σ.put k .dead) h∧bW h (UU F ρ σ) h (UU F ρ (σ.put k .dead))∧Rd (gr F ρ (σ.put k .dead) h) (.ref a.1) (.list xs):=by
 refine eW (g9 e1 e2) fun l r q1 q2=>?_
 have u1:UU F ρ σ=l++[a.1]++r++F.fr:=by show live ρ σ.heap++_=_; rw [q1]; rfl
 have u2:UU F ρ (σ.put k .dead)=l++r++F.fr:=by show live ρ (σ.heap.set k .dead)++_=_; rw [q2]; simp [liveOf]
 have G:bW h (UU F ρ σ) h (UU F ρ (σ.put k .dead)):=fun b o e n=>⟨e,fun m=>n (by rw [u2] at m; rw [u1]; simp at m ⊢; rcases m with m | m | m <;> simp [m])⟩
 have nd:=S.nd
 rw [u1] at nd
 have hna:a.1 ∉ UU F ρ (σ.put k .dead):=by
  rw [u2]; intro m
  simp only [List.append_assoc,List.singleton_append] at nd m
  have:=(List.nodup_append.mp nd)
  have h3:=List.nodup_cons.mp this.2.1
  rcases List.mem_append.mp m with m | m
  ·exact this.2.2 _ m _ (.head _) rfl
  ·exact h3.1 m
 refine (cw ⟨by simp [AS.put,S.len],fun b o e=>G.hide b o (S.bas b o e),?_,fun b hb=>S.ex b (by rw [u2] at hb; rw [u1]; simp at hb ⊢; rcases hb with m | m | m <;> simp [m]),fun j b o f1 f2=>?_,S.fd.keep (fun zz e=>e) (fun zz zz zz zz zz e=>e) O G.hide (de.refl _) (fun zz zz zz e=>e)⟩ G ?_)
 ·rw [u2]
  simp only [List.append_assoc,List.singleton_append] at nd ⊢
  have:=List.nodup_append.mp nd
  exact List.nodup_append.mpr (cw this.1 ((List.nodup_cons.mp this.2.1).2) (fun x hx y hy=>this.2.2 x hx y (.tail _ hy)))
 ·by_cases hj:k=j
  ·subst hj
   have hk:k < σ.heap.length:=(List.getElem?_eq_some_iff.mp e2).1
   have:(σ.heap.set k .dead)[k]?=some .dead:=by simp [hk]
   have:o=.dead:=Option.some.inj (f2.symm.trans this)
   subst this; trivial
  ·have f2':σ.heap[j]?=some o:=by
    have:(σ.heap.set k .dead)[j]?=σ.heap[j]?:=List.getElem?_set_ne hj
    exact this▸f2
   exact (S.objs j b o f1 f2').mono (fun zz zz zz e=>e) G.sub (de.refl _)
 ·refine aB (S.objs k a _ e1 e2) fun vs t_5 r=>?_; obtain ⟨n,e⟩:=t_5
  simp only [Rd]
  exact (k9 a.1 vs n rfl (hideAll_get _ e hna) (r.mono G.sub))
theorem cp {h:Heap} {a:Addr} (ha:h.objs.size≤a):h.get? a=none:=by
 induction e:h.get? a using Option.casesOn with
 | none=>rfl
 | some o=>exact absurd (Heap.lt_size e) (Nat.not_lt.mpr ha)
theorem St.fresh (S:St C hs base F ρ σ h) {a:Addr} (ha:h.objs.size≤a):a ∉ UU F ρ σ:=fun m=>by
 obtain ⟨_,t_6⟩:=S.ex a m; obtain ⟨o,e⟩:=t_6; rw [cp ha] at e; exact nS e
theorem St.size (O:FmOk base F) (S:St C hs base F ρ σ h):base.objs.size≤h.objs.size:=by
 obtain ⟨_,t_7⟩:=S.ex F.env.locals (List.mem_append_right _ O.frL); obtain ⟨o,e⟩:=t_7
 exact Nat.le_of_lt (Nat.lt_of_le_of_lt O.above (Heap.lt_size e))
theorem St.alloc {h':Heap} (O:FmOk base F) (S:St C hs base F ρ σ h) {a:Addr×Addr} {o:AO} (k:∀ b x,h.get? b=some x→h'.get? b=some x) (hnew:∀ x∈liveOf a o,h.objs.size≤x∧∃ y,h'.get? x=some y) (hnd:(liveOf a o).Nodup)
  (hr:od C hs h' (hideAll h' (UU F (ρ++[a]) (σ.alloc o).2)) (ρ++[a]) a o):St C hs base F (ρ++[a]) (σ.alloc o).2 h'∧bW h (UU F ρ σ) h' (UU F (ρ++[a]) (σ.alloc o).2):=by
 have u:UU F (ρ++[a]) (σ.alloc o).2=live ρ σ.heap++liveOf a o++F.fr:=by
  show live (ρ++[a]) (σ.heap++[o])++_=_; rw [gH _ _ S.len]
 have hno:∀ b x,h.get? b=some x→b ∉ liveOf a o:=fun b x e m=>by rw [cp (hnew b m).1] at e; exact nS e
 have G:bW h (UU F ρ σ) h' (UU F (ρ++[a]) (σ.alloc o).2):=fun b x e n=>⟨k b x e,fun m=>by
  rw [u] at m
  rcases List.mem_append.mp m with m | m
  ·rcases List.mem_append.mp m with m | m
   ·exact n (List.mem_append_left _ m)
   ·exact hno b x e m
  ·exact n (List.mem_append_right _ m)⟩
 have P:=de.snoc ρ a
 refine ⟨⟨by simp [AS.alloc,S.len],fun b x e=>G.hide b x (S.bas b x e),?_,?_,fun j b p f1 f2=>?_,S.fd.keep (fun zz e=>k _ _ e) (fun zz zz zz zz zz e=>k _ _ e) O G.hide P (fun zz zz zz e=>k _ _ e)⟩,G⟩
 ·rw [u]
  have nd:=List.nodup_append.mp S.nd
  have hx:∀ x∈liveOf a o,x ∉ UU F ρ σ:=fun x m=>S.fresh (hnew x m).1
  rw [List.append_assoc]
  refine List.nodup_append.mpr (cw nd.1 (List.nodup_append.mpr (cw hnd nd.2.1 (fun x m y n e=>hx x m (List.mem_append_right _ (e▸n))))) (fun x m y n e=>?_))
  rcases List.mem_append.mp n with n | n
  ·exact hx y n (List.mem_append_left _ (e▸m))
  ·exact nd.2.2 x m y n e
 ·rw [u]; intro b m
  rcases List.mem_append.mp m with m | m
  ·rcases List.mem_append.mp m with m | m
   ·obtain ⟨z,t_8⟩:=S.ex b (List.mem_append_left _ m); obtain ⟨x,e⟩:=t_8; exact ⟨z,⟨x,k _ _ e⟩⟩
   ·exact ⟨Nat.le_trans (S.size O) (hnew b m).1,(hnew b m).2⟩
  ·obtain ⟨z,t_9⟩:=S.ex b (List.mem_append_right _ m); obtain ⟨x,e⟩:=t_9; exact ⟨z,⟨x,k _ _ e⟩⟩
 ·rcases Nat.lt_or_ge j ρ.length with hj | hj
  ·have f1':ρ[j]?=some b:=by rw [List.getElem?_append_left hj] at f1; exact f1
   have f2':σ.heap[j]?=some p:=by
    have:(σ.heap++[o])[j]?=some p:=f2
    rwa [List.getElem?_append_left (S.len▸hj)] at this
   exact (S.objs j b p f1' f2').mono (fun zz zz zz e=>k _ _ e) G.sub P
  ·have hj':j=ρ.length:=by
    have:=(List.getElem?_eq_some_iff.mp f1).1
    simp at this; lia
   subst hj'
   simp at f1; subst f1
   have:(σ.heap++[o])[ρ.length]?=some p:=f2
   rw [S.len] at this; simp at this; subst this
   exact hr
noncomputable def Fm.more (F:Fm) (I:Addr):Fm:={ F with fr:=I :: F.fr,gd:=I :: F.gd }
theorem FmOk.more (O:FmOk base F) {I:Addr} (hI:I ∉ F.fr):FmOk base (F.more I) where
 kind:=O.kind
 glob:=O.glob
 blt:=O.blt
 names:=O.names
 defn:=O.defn
 nodup:=O.nodup
 above:=O.above
 frL:=.tail _ O.frL
 cell:=fun x hx=>fq (O.cell x hx) fun c a b d=>(dT c a (.tail _ b) d)
 apart:=O.apart
 gdFr:=fun b hb=>by
  rcases List.mem_cons.mp hb with q | q
  ·exact q▸.head _
  ·exact .tail _ (O.gdFr b q)
 locN:=fun m=>by
  rcases List.mem_cons.mp m with q | q
  ·exact hI (q▸O.frL)
  ·exact O.locN q
 cellN:=fun x c hx hc m=>by
  rcases List.mem_cons.mp m with q | q
  ·exact hI (q▸O.cellIn hx hc)
  ·exact O.cellN x c hx hc q
 outG:=fun x c hx hu hc=>.tail _ (O.outG x c hx hu hc)
theorem St.more {h':Heap} {I:Addr} (O:FmOk base F) (S:St C hs base F ρ σ h) (k:∀ b x,h.get? b=some x→h'.get? b=some x) (hI:h.objs.size≤I) (hI':∃ o,h'.get? I=some o):
  St C hs base (F.more I) ρ σ h'∧bW h (UU F ρ σ) h' (UU (F.more I) ρ σ):=by
 have hm:∀ b,b∈UU (F.more I) ρ σ ↔ b=I∨b∈UU F ρ σ:=fun b=>by
  show b∈live ρ σ.heap++(I :: F.fr) ↔ b=I∨b∈live ρ σ.heap++F.fr
  simp only [List.mem_append,List.mem_cons]
  constructor
  ·rintro (m | m | m) <;> simp [m]
  ·rintro (m | m | m) <;> simp [m]
 have hIU:=S.fresh hI
 have G:bW h (UU F ρ σ) h' (UU (F.more I) ρ σ):=fun b o e n=>⟨k b o e,fun m=>by
  rcases (hm b).mp m with q | m
  ·subst q; rw [cp hI] at e; exact nS e
  ·exact n m⟩
 refine ⟨⟨S.len,fun b o e=>G.hide b o (S.bas b o e),?_,fun b m=>?_,fun j a o f1 f2=>(S.objs j a o f1 f2).mono (fun zz zz zz e=>k _ _ e) G.sub (de.refl _),?_⟩,G⟩
 ·have nd:=List.nodup_append.mp S.nd
  refine List.nodup_append.mpr (cw nd.1 (List.nodup_cons.mpr ⟨fun m=>hIU (List.mem_append_right _ m),nd.2.1⟩) (fun x m y n e=>?_))
  rcases List.mem_cons.mp n with n | n
  ·exact hIU (List.mem_append_left _ (by rw [← n,← e]; exact m))
  ·exact nd.2.2 x m y n e
 ·rcases (hm b).mp m with q | m
  ·exact q▸⟨Nat.le_trans (S.size O) hI,hI'⟩
  ·obtain ⟨z,t_10⟩:=S.ex b m; obtain ⟨o,e⟩:=t_10; exact ⟨z,⟨o,k _ _ e⟩⟩
 ·have f:=S.fd.keep (h':=h') (g':=hideAll h' (UU (F.more I) ρ σ)) (fun zz e=>k _ _ e) (fun zz zz zz zz zz e=>k _ _ e) O G.hide (de.refl _) (fun zz zz zz e=>k _ _ e)
  exact ⟨f.loclen,f.ns,f.cells,f.outs⟩
theorem bW.more_turn {I:Addr} {h h':Heap} (hx:Heap.ExtBut I h h'):bW h (UU (F.more I) ρ σ) h' (UU (F.more I) ρ σ):=bW.of_turn hx (by show I∈live ρ σ.heap++(I :: F.fr); simp)
theorem St.more_notFr {I:Addr} (S:St C hs base (F.more I) ρ σ h):I ∉ F.fr∧I ∉ live ρ σ.heap:=by
 have nd:=List.nodup_append.mp S.nd
 have n2:(I :: F.fr).Nodup:=nd.2.1
 exact ⟨(List.nodup_cons.mp n2).1,fun m=>nd.2.2 I m I (.head _) rfl⟩
theorem St.iterTurn {h':Heap} {I:Addr} (O:FmOk base F) (S:St C hs base (F.more I) ρ σ h) (hx:Heap.ExtBut I h h') (hex:∃ o,h'.get? I=some o):St C hs base (F.more I) ρ σ h'∧bW h (UU (F.more I) ρ σ) h' (UU (F.more I) ρ σ):=by
 have hm:I∈UU (F.more I) ρ σ:=by show I∈live ρ σ.heap++(I :: F.fr); simp
 obtain ⟨hIfr,hIl⟩:=S.more_notFr
 have G:=bW.more_turn (ρ:=ρ) (σ:=σ) (F:=F) hx
 have f0:FrD F h (hideAll h (UU (F.more I) ρ σ)) ρ σ.loc σ.out:=⟨S.fd.loclen,S.fd.ns,S.fd.cells,S.fd.outs⟩
 have f:=f0.keep (h':=h') (g':=hideAll h' (UU (F.more I) ρ σ)) (fun o e=>hx _ o (fun q=>hIfr (by rw [← q]; exact O.frL)) e) (fun x c h1 h2 o e=>hx _ o (fun q=>hIfr (by rw [← q]; exact O.cellIn h1 h2)) e) O G.hide (de.refl _) (fun b hb o e=>hx _ o (fun q=>hIfr (by rw [← q]; exact O.gdFr b hb)) e)
 exact S.turn hx hm hex rfl rfl (fun j a o f1 f2=>.inl ⟨fun m=>hIl (cA f1 f2 m),f2⟩) ⟨f.loclen,f.ns,f.cells,f.outs⟩
theorem St.adopt {I:Addr} {o:AO} (O:FmOk base F) (S:St C hs base (F.more I) ρ σ h) (hl:liveOf (I,0) o=[I]) (hr:od C hs h (hideAll h (UU F (ρ++[(I,0)]) (σ.alloc o).2)) (ρ++[(I,0)]) (I,0) o):
  St C hs base F (ρ++[(I,0)]) (σ.alloc o).2 h∧bW h (UU (F.more I) ρ σ) h (UU F (ρ++[(I,0)]) (σ.alloc o).2):=by
 have u:UU F (ρ++[(I,0)]) (σ.alloc o).2=UU (F.more I) ρ σ:=by
  show live (ρ++[(I,0)]) (σ.heap++[o])++F.fr=live ρ σ.heap++(I :: F.fr)
  rw [gH _ _ S.len,hl]; simp
 have G:bW h (UU (F.more I) ρ σ) h (UU F (ρ++[(I,0)]) (σ.alloc o).2):=by rw [u]; exact bW.refl _ _
 have P:=de.snoc ρ (I,0)
 refine ⟨⟨by simp [AS.alloc,S.len],by rw [u]; exact S.bas,by rw [u]; exact S.nd,by rw [u]; exact S.ex,fun j b p f1 f2=>?_,?_⟩,G⟩
 ·rcases Nat.lt_or_ge j ρ.length with hj | hj
  ·have f1':ρ[j]?=some b:=by rw [List.getElem?_append_left hj] at f1; exact f1
   have f2':σ.heap[j]?=some p:=by
    have:(σ.heap++[o])[j]?=some p:=f2
    rwa [List.getElem?_append_left (S.len▸hj)] at this
   exact (S.objs j b p f1' f2').mono (fun zz zz zz e=>e) G.sub P
  ·have hj':j=ρ.length:=by
    have:=(List.getElem?_eq_some_iff.mp f1).1
    simp at this; lia
   subst hj'
   simp at f1; subst f1
   have:(σ.heap++[o])[ρ.length]?=some p:=f2
   rw [S.len] at this; simp at this; subst this
   exact hr
 ·have f0:FrD F h (hideAll h (UU (F.more I) ρ σ)) ρ σ.loc σ.out:=⟨S.fd.loclen,S.fd.ns,S.fd.cells,S.fd.outs⟩
  exact f0.keep (fun zz e=>e) (fun zz zz zz zz zz e=>e) O G.hide P (fun zz zz zz e=>e)
noncomputable def Ac:List (Option Str):=[some "tidy",none,none,none,none,none,none,some "parts_at",some "split",some "test",some "choose",some "size_of_diagram",some "ways",
 some "_law_drawn",some "_law_spans",some "_law_verdict",some "_law_sequence",some "_law_rules",some "_law_holds",some "_law_said",some "_law_cells",some "_law_table",some "_law_way",some "_law_is_shown",
 some "_law_built",some "_law_fixed",some "law"]
noncomputable def gname (f:Nat):Option Str:=match Ac[f]? with
 | some o=>o
 | none=>none
noncomputable def zO:List (Option Str):=[none,some "__init__",some "kept",some "leaf",some "make",some "node",some "level"]
noncomputable def mname (f:Nat):Option Str:=match zO[f]? with
 | some o=>o
 | none=>none
noncomputable def zE:BO→Operator
 | .add=>.Add
 | .sub=>.Sub
 | .mul=>.Mult
 | .fdiv=>.FloorDiv
 | .mod=>.Mod
 | .pow=>.Pow
noncomputable def kH (op:Operator) (bo:BO):Prop:=op=zE bo
noncomputable def yW:CO→CmpOp
 | .eq=>.Eq
 | .ne=>.NotEq
 | .lt=>.Lt
 | .le=>.LtE
 | .gt=>.Gt
 | .ge=>.GtE
 | .isin=>.In
 | .notin=>.NotIn
noncomputable def eK (op:CmpOp) (co:CO):Prop:=op=yW co
noncomputable def cH (e:Expr):Bool:=by cases e; (case Call=>exact true); all_goals exact false
noncomputable def jN (e:Expr):Bool:=by cases e; (case Name=>exact true); all_goals exact false
noncomputable def dC (e:Expr):Bool:=by cases e; (case Tuple=>exact true); all_goals exact false
noncomputable def eQ (e:Expr):Bool:=by cases e; (case Slice=>exact true); all_goals exact false
noncomputable def jO (e:Expr):Bool:=by cases e; (case ListComp=>exact true); all_goals exact false
mutual
inductive CT (ns:List (Str×NameKind)):Expr→T→Prop where
 | loc {i:Nat} {x:Str} {k:NameKind} {pos:Pos}:ns[i]?=some (x,k)→(k=.local∨k=.cell)→CT ns (.Name x pos) (.loc i)
 | tup {es:List Expr} {ts:List T} {k:Nat} {pos:Pos}:CTs ns es ts→CT ns (.Tuple es k pos) (.tup ts)
inductive CTs (ns:List (Str×NameKind)):List Expr→List T→Prop where
 | nil:CTs ns [] []
 | cons {e:Expr} {t:T} {es:List Expr} {ts:List T}:CT ns e t→CTs ns es ts→CTs ns (e :: es) (t :: ts)
end
structure CompSc (ns:List (Str×NameKind)) (sc:Scope):Prop where
 kind:sc.kind=.function
 nodup:(sc.names.map (·.1)).Nodup
 noCell:∀ x∈sc.names,x.2≠.cell
 free:∀ x,sc.names.lookup x=some .free→ns.lookup x=some .cell
 more:sc.more=[]
noncomputable abbrev NL:=List (Str×NameKind)
section
variable (R:NL→NL→Expr→E→Prop) (ns up:NL)
inductive CI1:Expr→I→Prop where
 | plain {e:Expr} {c:E}:R ns up e c→CI1 e (0,[c])
 | range {as:List Expr} {cs:List E} {p pos:Pos}:ns.lookup ("range":Str)=some .globalImplicit→L2 (R ns up) as cs→CI1 (.Call (.Name "range" p) as [] pos) (1,cs)
 | enum {e:Expr} {c:E} {p pos:Pos}:ns.lookup ("enumerate":Str)=some .globalImplicit→R ns up e c→CI1 (.Call (.Name "enumerate" p) [e] [] pos) (2,[c])
inductive CG1:Comprehension→T×(Nat×List E)×List E→Prop where
 | mk {t it:Expr} {ifs:List Expr} {ct:T} {ci:I} {cifs:List E}:CI1 R ns up it ci→CT ns t ct→(ci.1=2→dC t=true)→L2 (R ns up) ifs cifs→CG1 ⟨t,it,ifs,0⟩ (ct,ci,cifs)
inductive CE1:Expr→E→Prop where
 | int {i:Int} {k:Nat} {pos:Pos}:CE1 (.Constant (.int i) k pos) (.int i)
 | str {s:Str} {k:Nat} {pos:Pos}:CE1 (.Constant (.str s) k pos) (.str s)
 | bool {b:Bool} {k:Nat} {pos:Pos}:CE1 (.Constant (.bool b) k pos) (.bool b)
 | neg {e:Expr} {c:E} {pos:Pos}:R ns up e c→CE1 (.UnaryOp .USub e pos) (.neg c)
 | not {e:Expr} {c:E} {pos:Pos}:R ns up e c→CE1 (.UnaryOp .Not e pos) (.not c)
 | loc {i:Nat} {x:Str} {k:NameKind} {pos:Pos}:ns[i]?=some (x,k)→(k=.local∨k=.cell)→(x == ("__debug__":Str))=false→CE1 (.Name x pos) (.loc i)
 | out {i:Nat} {x:Str} {pos:Pos}:ns.lookup x=some .free→up[i]?=some (x,.cell)→(x == ("__debug__":Str))=false→(x == ("__classdict__":Str))=false→CE1 (.Name x pos) (.out i)
 | attr {o:Expr} {c:E} {a:Str} {k:Nat} {pos:Pos}:cH o=false→cr[k]?=some a→R ns up o c→CE1 (.Attribute o a pos) (.attr c k)
 | bin {a b:Expr} {ca cb:E} {op:Operator} {bo:BO} {pos:Pos}:kH op bo→R ns up a ca→R ns up b cb→CE1 (.BinOp a op b pos) (.bin bo ca cb)
 | cmp {a b:Expr} {ca cb:E} {op:CmpOp} {co:CO} {pos:Pos}:eK op co→behindInMarks op b=false→R ns up a ca→R ns up b cb→CE1 (.Compare a [op] [b] pos) (.cmp co ca cb)
 | cmp2 {a b c:Expr} {ca cb cc:E} {op1 op2:CmpOp} {co1 co2:CO} {pos:Pos}:eK op1 co1→eK op2 co2→behindInMarks op2 c=false→R ns up a ca→R ns up b cb→R ns up c cc→CE1 (.Compare a [op1,op2] [b,c] pos) (.cmp2 co1 co2 ca cb cc)
 | conj {a b:Expr} {ca cb:E} {pos:Pos}:R ns up a ca→R ns up b cb→CE1 (.BoolOp .And [a,b] pos) (.conj ca cb)
 | ife {t a b:Expr} {ct ca cb:E} {pos:Pos}:R ns up t ct→R ns up a ca→R ns up b cb→CE1 (.IfExp t a b pos) (.ife ct ca cb)
 | call {x:Str} {f:Nat} {as:List Expr} {cs:List E} {p pos:Pos}:ns.lookup x=some .globalImplicit→gname f=some x→L2 (R ns up) as cs→as.length≤20→CE1 (.Call (.Name x p) as [] pos) (.call f cs)
 | new {as:List Expr} {cs:List E} {p pos:Pos}:ns.lookup ("Diagrams":Str)=some .globalImplicit→L2 (R ns up) as cs→as.length≤20→CE1 (.Call (.Name "Diagrams" p) as [] pos) (.new cs)
 | meth {o:Expr} {c:E} {m:Str} {f:Nat} {as:List Expr} {cs:List E} {ap pos:Pos}:cH o=false→mname f=some m→f≠1→R ns up o c→L2 (R ns up) as cs→as.length≤20→(ap.endLine == pos.line)=true→CE1 (.Call (.Attribute o m ap) as [] pos) (.meth f c cs)
 | append {o x:Expr} {c cx:E} {ap pos:Pos}:cH o=false→(ap.endLine == pos.line)=true→R ns up o c→R ns up x cx→CE1 (.Call (.Attribute o "append" ap) [x] [] pos) (.append c cx)
 | pop {o:Expr} {c:E} {ap pos:Pos}:cH o=false→(ap.endLine == pos.line)=true→R ns up o c→CE1 (.Call (.Attribute o "pop" ap) [] [] pos) (.pop c)
 | reverse {o:Expr} {c:E} {ap pos:Pos}:cH o=false→(ap.endLine == pos.line)=true→R ns up o c→CE1 (.Call (.Attribute o "reverse" ap) [] [] pos) (.reverse c)
 | extend {o x:Expr} {c cx:E} {ap pos:Pos}:cH o=false→(ap.endLine == pos.line)=true→R ns up o c→R ns up x cx→CE1 (.Call (.Attribute o "extend" ap) [x] [] pos) (.extend c cx)
 | get {o k x:Expr} {c ck cx:E} {ap pos:Pos}:cH o=false→(ap.endLine == pos.line)=true→R ns up o c→R ns up k ck→R ns up x cx→CE1 (.Call (.Attribute o "get" ap) [k,x] [] pos) (.get c ck cx)
 | len {e:Expr} {c:E} {p pos:Pos}:ns.lookup ("len":Str)=some .globalImplicit→R ns up e c→CE1 (.Call (.Name "len" p) [e] [] pos) (.len c)
 | min1 {e:Expr} {c:E} {p pos:Pos}:ns.lookup ("min":Str)=some .globalImplicit→R ns up e c→CE1 (.Call (.Name "min" p) [e] [] pos) (.min1 c)
 | min2 {a b:Expr} {ca cb:E} {p pos:Pos}:ns.lookup ("min":Str)=some .globalImplicit→R ns up a ca→R ns up b cb→CE1 (.Call (.Name "min" p) [a,b] [] pos) (.min2 ca cb)
 | max2 {a b:Expr} {ca cb:E} {p pos:Pos}:ns.lookup ("max":Str)=some .globalImplicit→R ns up a ca→R ns up b cb→CE1 (.Call (.Name "max" p) [a,b] [] pos) (.max2 ca cb)
 | tuple {e:Expr} {c:E} {p pos:Pos}:ns.lookup ("tuple":Str)=some .globalImplicit→R ns up e c→CE1 (.Call (.Name "tuple" p) [e] [] pos) (.tuple c)
 | sorted {e:Expr} {c:E} {p pos:Pos}:ns.lookup ("sorted":Str)=some .globalImplicit→R ns up e c→CE1 (.Call (.Name "sorted" p) [e] [] pos) (.sorted c)
 | sub {a i:Expr} {ca ci:E} {pos:Pos}:eQ i=false→R ns up a ca→R ns up i ci→CE1 (.Subscript a i pos) (.sub ca ci)
 | slice {a lo hi:Expr} {ca cl ch:E} {p pos:Pos}:jN a=true→R ns up a ca→R ns up lo cl→R ns up hi ch→CE1 (.Subscript a (.Slice (some lo) (some hi) none p) pos) (.slice ca cl ch)
 | rev {a:Expr} {ca:E} {k:Nat} {p p1 p2 pos:Pos}:jN a=true→R ns up a ca→CE1 (.Subscript a (.Slice none none (some (.UnaryOp .USub (.Constant (.int 1) k p1) p2)) p) pos) (.rev ca)
 | tup {es:List Expr} {cs:List E} {k:Nat} {pos:Pos}:L2 (R ns up) es cs→es.length≤100→CE1 (.Tuple es k pos) (.tup cs)
 | list {es:List Expr} {cs:List E} {pos:Pos}:L2 (R ns up) es cs→es.length≤100→CE1 (.List es pos) (.list cs)
 | dict0 {pos:Pos}:CE1 (.Dict [] [] pos) .dict0
 | dict1 {k v:Expr} {ck cv:E} {pos:Pos}:R ns up k ck→R ns up v cv→CE1 (.Dict [some k] [v] pos) (.dict1 ck cv)
 | comp {elt t it:Expr} {ifs:List Expr} {more:List Comprehension} {sc:Scope} {pos:Pos} {celt:E} {ct:T} {ci:I} {cifs:List E} {cmore:List (T×(Nat×List E)×List E)}:CompSc ns sc→CI1 R ns up it ci→CT sc.names t ct→(ci.1=2→dC t=true)→L2 (R sc.names ns) ifs cifs→L2 (CG1 R sc.names ns) more cmore→R sc.names ns elt celt→CE1 (.ListComp elt (⟨t,it,ifs,0⟩ :: more) sc pos) (.comp sc.names.length celt ((ct,ci,cifs) :: cmore))
end
noncomputable def CEn:Nat→NL→NL→Expr→E→Prop
 | 0,_,_,_,_=>False
 | n + 1,ns,up,e,c=>CE1 (CEn n) ns up e c
noncomputable def CE (ns up:NL) (e:Expr) (c:E):Prop:=∃ m,CEn m ns up e c
noncomputable abbrev lB (ns up:NL):List Expr→List E→Prop:=L2 (CE ns up)
noncomputable abbrev CI (ns up:NL):Expr→I→Prop:=CI1 CE ns up
noncomputable abbrev A7 (ns up:NL):List Comprehension→List (T×(Nat×List E)×List E)→Prop:=L2 (CG1 CE ns up)
section
variable {ns up:NL} {m:Nat}
theorem CEn.ce {e:Expr} {c:E} (h:CEn m ns up e c):CE ns up e c:=⟨m,h⟩
theorem yw {es:List Expr} {cs:List E} (h:L2 (CEn m ns up) es cs):lB ns up es cs:=h.map fun zz zz h=>⟨m,h⟩
theorem ci {e:Expr} {c:I} (h:CI1 (CEn m) ns up e c):CI ns up e c:=by
 cases h with
 | plain h=>exact .plain h.ce
 | range h q=>exact .range h (yw q)
 | enum h q=>exact .enum h q.ce
set_option tactic.hygienic true in
theorem FW {es:List Comprehension} {cs:List (T×(Nat×List E)×List E)} (h:L2 (CG1 (CEn m) ns up) es cs):A7 ns up es cs:=h.map fun zz zz h=>by
 cases h with
 | mk a b c d=>exact .mk (ci a) b c (yw d)
theorem CE.out {e:Expr} {c:E} {C:Prop} (h:CE ns up e c) (k:∀ m,CE1 (CEn m) ns up e c→C):C:=by
 obtain ⟨m,h⟩:=h
 induction m using Nat.casesOn with
 | zero=>exact h.elim
 | succ m=>exact k m h
end
inductive CS1 (R:Stmt→S→Prop) (ns:NL):Stmt→S→Prop where
 | assign {t e:Expr} {ct:T} {ce:E} {pos:Pos}:CT ns t ct→CE ns [] e ce→(∀ env:Env,env.scope.kind=.function→env.scope.names=ns→swapsWithSole [t] e pos.line env=pure false)→
   (∀ env:Env,env.scope.kind=.function→env.scope.names=ns→swappedStores [t] e env=pure none)→CS1 R ns (.Assign [t] e pos) (.assign ct ce)
 | assignC {x:Str} {p pos:Pos} {e:Expr} {i:Nat} {ce:E}:ns[i]?=some (x,.local)→jO e=true→CE ns [] e ce→(∀ env:Env,env.scope.kind=.function→env.scope.names=ns→swapsWith e (some (.Name x p)) pos.line env=pure true)→
   CS1 R ns (.Assign [.Name x p] e pos) (.assign (.loc i) ce)
 | assign2 {x y:Str} {p1 p2 p3 pos:Pos} {k k':Nat} {a b:Expr} {i j:Nat} {ca cb:E}:ns[i]?=some (x,.local)→ns[j]?=some (y,.local)→i≠j→CE ns [] (.Tuple [a,b] k' pos) (.tup [ca,cb])→
   (∀ env:Env,env.scope.kind=.function→env.scope.names=ns→swappedStores [.Tuple [.Name x p1,.Name y p2] k p3] (.Tuple [a,b] k' pos) env=pure (some [x,y]))→{q:Pos}→
   CS1 R ns (.Assign [.Tuple [.Name x p1,.Name y p2] k p3] (.Tuple [a,b] k' pos) q) (.assign (.tup [.loc i,.loc j]) (.tup [ca,cb]))
 | setSub {a i e:Expr} {ca ci ce:E} {p pos:Pos}:eQ i=false→CE ns [] a ca→CE ns [] i ci→CE ns [] e ce→CS1 R ns (.Assign [.Subscript a i p] e pos) (.setSub ca ci ce)
 | setAttr {o e:Expr} {a:Str} {k:Nat} {co ce:E} {p pos:Pos}:cr[k]?=some a→CE ns [] o co→CE ns [] e ce→CS1 R ns (.Assign [.Attribute o a p] e pos) (.setAttr co k ce)
 | augLoc {x:Str} {i:Nat} {op:Operator} {bo:BO} {e:Expr} {ce:E} {p pos:Pos}:ns[i]?=some (x,.local)→kH op bo→(bo=.add∨bo=.sub)→CE ns [] e ce→CS1 R ns (.AugAssign (.Name x p) op e pos) (.augLoc i bo ce)
 | augSub {a i e:Expr} {ca ci ce:E} {op:Operator} {bo:BO} {p pos:Pos}:eQ i=false→kH op bo→(bo=.add∨bo=.sub)→CE ns [] a ca→CE ns [] i ci→CE ns [] e ce→CS1 R ns (.AugAssign (.Subscript a i p) op e pos) (.augSub ca ci bo ce)
 | expr {e:Expr} {c:E} {pos:Pos}:jO e=false→CE ns [] e c→CS1 R ns (.Expr e pos) (.expr c)
 | ite {t:Expr} {a b:List Stmt} {ct:E} {ca cb:List S} {pos:Pos}:CE ns [] t ct→L2 R a ca→L2 R b cb→CS1 R ns (.If t a b pos) (.ite ct ca cb)
 | while {t:Expr} {b:List Stmt} {ct:E} {cb:List S} {pos:Pos}:CE ns [] t ct→L2 R b cb→CS1 R ns (.While t b [] pos) (.while ct cb)
 | for {t it:Expr} {b:List Stmt} {ct:T} {ci:I} {cb:List S} {pos:Pos}:CT ns t ct→CI ns [] it ci→(ci.1=2→dC t=true)→L2 R b cb→CS1 R ns (.For t it b [] pos) (.for ct ci cb)
 | ret {e:Expr} {c:E} {pos:Pos}:CE ns [] e c→CS1 R ns (.Return (some e) pos) (.ret c)
 | raise {e c:Option Expr} {pos:Pos}:CS1 R ns (.Raise e c pos) .raise
noncomputable def CSn:Nat→NL→Stmt→S→Prop
 | 0,_,_,_=>False
 | n + 1,ns,s,c=>CS1 (CSn n ns) ns s c
noncomputable def CS (ns:NL) (s:Stmt) (c:S):Prop:=∃ m,CSn m ns s c
noncomputable abbrev CSs (ns:NL):List Stmt→List S→Prop:=L2 (CS ns)
theorem CX {ns:NL} {m:Nat} {es:List Stmt} {cs:List S} (h:L2 (CSn m ns) es cs):CSs ns es cs:=h.map fun zz zz h=>⟨m,h⟩
theorem CS.out {ns:NL} {e:Stmt} {c:S} {C:Prop} (h:CS ns e c) (k:∀ m,CS1 (CSn m ns) ns e c→C):C:=by
 obtain ⟨m,h⟩:=h
 induction m using Nat.casesOn with
 | zero=>exact h.elim
 | succ m=>exact k m h
structure Gl where
 prog:Program
 w:World
 K:Frag
 base:Heap
 top:Program
 loose:List Str
 mean:ExcName→Option Value
 mg:Str→Option Value
 mb:Str→Option Value
 C:Addr
 FA:Nat→Addr
 P:List FD
 W:Nat
inductive DefK (base:Heap) (a:Addr) (fd:FD):Prop where
 | mk (o:Obj) (name qual:Str) (params:Arguments) (body:List Stmt) (scope:Scope) (dV kV doc pm cdv ct:Value) (an:Option Addr):
  base.get? a=some o→o.data=.func (fnX name qual params body scope [] dV kV doc pm an cdv ct)→base.CodeRec cdv qual→
  (∀ vs:List Value,vs.length=fd.np→bindArgs (fnX name qual params body scope [] dV kV doc pm an cdv ct) ⟨vs,[]⟩=pure (((scope.names.take fd.np).map (·.1)).zip vs))→
  scope.kind=.function→scope.isCoroutine=false→scope.isGenerator=false→(scope.names.map (·.1)).Nodup→scope.names.length=fd.nl→fd.np≤fd.nl→
  (∀ x∈scope.names.take fd.np,x.2=.local∨x.2=.cell)→(∀ x∈scope.names,x.2≠.free)→CSs scope.names body fd.body→DefK base a fd
structure GlOk (G:Gl):Prop where
 X:G.K.In G.base
 T:Top G.top G.loose G.mean G.mg G.mb G.base
 fn:∀ f fd,G.P[f]?=some fd→DefK G.base (G.FA f) fd
 glob:∀ f x,gname f=some x→G.mg x=some (.ref (G.FA f))
 cls:G.mg "Diagrams"=some (.ref G.C)
 makes:makesIn G.K G.C=true
 init:findIn G.K (.ref G.C) "__init__"=some (some (.ref (G.FA 1)))
 initT:typeIn G.K (.ref (G.FA 1))=some (.type "function")
 meth:∀ f m,mname f=some m→f≠1→plainGet G.K G.C m=true∧findIn G.K (.ref G.C) m=some (some (.ref (G.FA f)))∧isFn G.K (.ref (G.FA f))=true
 clsNo:∀ x,x∈(["len","min","max","tuple","sorted","range","enumerate"]:List Str)→G.mg x=none
 attr:∀ (k:Nat) a,cr[k]?=some a→plainGet G.K G.C a=true∧findIn G.K (.ref G.C) a=some none∧takerIn G.K G.C a=some none
 hasDict:hasDictIn G.K G.C=true
 setter:findIn G.K (.ref G.C) "__setattr__"=some (some (.builtin "object.__setattr__"))
 plain:plainOver G.K G.C=true
 low:sysModules < G.base.objs.size
 nolim:G.base.NoLimit
 keepC:keepIn G.K (.ref G.C)=true
structure AOk (A:Around) (n:Nat):Prop where
 handled:A.handled=none
 depth:A.depth + n≤900
 units:A.units + 20 * n≤9000
theorem AOk.less {A:Around} {n m:Nat} (h:AOk A n) (k:m≤n):AOk A m:=⟨h.handled,by have:=h.depth; lia,by have:=h.units; lia⟩
theorem AOk.deeper {A:Around} {n:Nat} {env:Env} (h:AOk A (n + 1)):AOk (A.deeper env) n:=⟨h.handled,by have:=h.depth; show A.depth + 1 + n≤900; exact yE ‹_›,by have:=h.units; show A.units + 3 + 20 * n≤9000; lia⟩
theorem AOk.room {A:Around} {n:Nat} (h:AOk A n):A.depth < recursionLimit:=by have:=h.depth; show A.depth < 1000; exact xa ‹_› rfl
theorem AOk.line {A:Around} {n:Nat} (h:AOk A n):A.units + 200 < cLine:=by have:=h.units; rw [cLine_is]; lia
mutual
noncomputable def dQ (w:World):PyData→Int
 | .int i=>hashInt i
 | .str x=>hashStr w x
 | .tuple xs=>reduceHash (Builtin.Tuple.tupleHashOf (eR w xs))
 | .none | .bool _ | .list _ | .dict _=>0
noncomputable def eR (w:World):List PyData→List Int
 | []=>[]
 | x :: xs=>dQ w x :: eR w xs
end
mutual
noncomputable def fQ:PyData→Nat
 | .int _=>1
 | .str _=>1
 | .tuple xs=>eT xs + 1
 | .none | .bool _ | .list _ | .dict _=>0
noncomputable def eT:List PyData→Nat
 | []=>0
 | x :: xs=>fQ x + eT xs
end
theorem jt (w:World):∀ xs ys:List PyData,eR w (xs++ys)=eR w xs++eR w ys
 | [],ys=>by simp [eR]
 | x :: xs,ys=>by simp [eR,jt w xs ys]
theorem iP:∀ xs ys:List PyData,eT (xs++ys)=eT xs + eT ys
 | [],ys=>by simp [eT]
 | x :: xs,ys=>by simp [eT,iP xs ys,Nat.add_assoc]
theorem qD:∀ {xs:List PyData},okks xs=true→∀ x∈xs,okk x=true
 | [],_,x,m=>nomatch m
 | y :: ys,h,x,m=>by
  simp only [okks,Bool.and_eq_true] at h
  rcases List.mem_cons.mp m with e | m
  ·exact e▸h.1
  ·exact qD h.2 x m
theorem pa:∀ {xs:List PyData} {x:PyData},x∈xs→PyData.depth x≤PyData.depthAll xs
 | y :: ys,x,m=>by
  simp only [PyData.depthAll]
  rcases List.mem_cons.mp m with e | m
  ·subst e; exact Nat.le_max_left _ _
  ·exact Nat.le_trans (pa m) (Nat.le_max_right _ _)
section
variable {prog:Program} {w:World}
theorem qu:∀ (n:Nat) {A:Around} {E:Value→Shared→Prop} {s:Shared} {v:Value} {x:PyData} {Q:Int→Shared→Prop},PyData.depth x≤n→okk x=true→A.units + n < cLine→Rd s.heap v x→
  Q (dQ w x) { s with toks:=s.toks + fQ x }→wpAny (model prog w) A (pyHash v) Q E s:=by
 intro n
 induction n with
 | zero=>
  intro A E s v x Q hd hk hu r q
  induction x using PyData.casesOn with
  | int i=>simp only [Rd] at r; obtain ⟨t,rfl⟩:=r; exact wpAny_pyHash_int (by simpa [dQ,fQ] using q)
  | str y=>simp only [Rd] at r; obtain ⟨t,rfl⟩:=r; exact wpAny_pyHash_str (by simpa [dQ,fQ] using q)
  | tuple xs=>simp [PyData.depth] at hd
  | _=>simp [okk] at hk
 | succ n ih=>
  intro A E s v x Q hd hk hu r q
  induction x using PyData.casesOn with
  | int i=>simp only [Rd] at r; obtain ⟨t,rfl⟩:=r; exact wpAny_pyHash_int (by simpa [dQ,fQ] using q)
  | str y=>simp only [Rd] at r; obtain ⟨t,rfl⟩:=r; exact wpAny_pyHash_str (by simpa [dQ,fQ] using q)
  | tuple xs=>
   refine eV r fun a vs m e_1 ho hr=>?_; clear r; subst e_1
   have hT:s.TypeIs (.ref a) "tuple":=(m1a2 _ ho rfl)
   have hdt:(({ cls:=.type "tuple",data:=.seq vs m }:Obj)).data=.seq vs m:=rfl
   simp only [okk] at hk
   simp only [PyData.depth] at hd
   unfold pyHash
   unfold pyHashByItsType
   refine wpAny_bind (wpAny_cRoomFor_or (.inr (by exact Gj ‹_›)) ?_)
   refine wpAny_bind (wpAny_specialOf hT F.slot_tuple_hash.lookup ?_)
   show wpAny _ _ (if (some (Value.builtin "tuple.__hash__") == some Value.none)=true then _ else _) Q E s
   rw [if_neg (by rw [beq_builtin_none]; exact Bool.false_ne_true)]
   refine wpAny_bind (wpAny_specialOf hT F.slot_tuple_hash.lookup ?_)
   show wpAny _ _ (callSpecialIfBoundUnlessNone? (.ref a) "__hash__" _ >>= _) Q E s
   refine wpAny_bind (wpAny_callSpecialIfBoundUnlessNone?_slot hT F.slot_tuple_hash (wpAny_call_entry F.slot_tuple_hash hT F.entry_tuple_hash ?_ (F.args_tuple_hash_1 _)))
   show wpAny _ _ (Builtin.Tuple.tupleItemsOf (.ref a) >>= _) _ _ s
   refine wpAny_bind (wpAny_tupleItemsOf ho hdt ?_)
   refine wpAny_bind ?_
   rw [← Array.forIn_toList]
   refine wpAny_forIn_list _
    (fun rest (b:Array Int) s'=>∃ done left,xs=done++left∧RdAll s.heap rest left∧b.toList=eR w done∧s'={ s with toks:=s.toks + eT done })
    _ ?_ ?_ _ _ (m2a4 [] xs rfl hr rfl rfl)
   ·rintro y rest b s' ⟨done,left,rfl,hl,hb,rfl⟩
    induction left using List.casesOn with
    | nil=>simp [RdAll] at hl
    | cons z left=>
     refine cu hl fun y' rest' e h1 h2=>?_; clear hl
     obtain ⟨rfl,rfl⟩:=List.cons.inj e
     have hz:z∈done++z :: left:=by simp
     refine wpAny_bind (ih (x:=z) (by have:=pa hz; lia) (qD hk z hz) (by show A.units + 1 + n < cLine; lia) h1 ?_)
     have fin:∃ done' left',done++z :: left=done'++left'∧RdAll s.heap rest left'∧(b.push (dQ w z)).toList=eR w done'∧({ s with toks:=s.toks + eT done + fQ z }:Shared)={ s with toks:=s.toks + eT done' }:=
      (m2a4 (done++[z]) left (by simp) h2 (by simp [hb,jt,eR]) (by simp [iP,eT,Nat.add_assoc]))
     first
      | exact wpAny_pure fin
      | exact wpAny_bind (wpAny_pure (wpAny_pure fin))
   ·rintro b s' ⟨done,left,rfl,hl,hb,rfl⟩
    induction left using List.casesOn with
    | cons z left=>simp [RdAll] at hl
    | nil=>
     rw [List.append_nil] at q
     show wpAny _ _ (retInt (Builtin.Tuple.tupleHashOf b.toList)) _ _ _
     rw [hb]
     refine wpAny_ret_mkInt ?_
     show wpAny _ _ (if (decide (-(2:Int) ^ 63≤Builtin.Tuple.tupleHashOf (eR w done)) && decide (Builtin.Tuple.tupleHashOf (eR w done) < 2 ^ 63))=true then _ else _) Q E _
     simp only [dQ,fQ] at q
     unfold reduceHash at q
     by_cases hrr:(decide (-(2:Int) ^ 63≤Builtin.Tuple.tupleHashOf (eR w done)) && decide (Builtin.Tuple.tupleHashOf (eR w done) < 2 ^ 63))=true
     ·rw [if_pos hrr]
      rw [if_pos hrr] at q
      exact wpAny_pure (by simpa [Nat.add_assoc] using q)
     ·rw [if_neg hrr]
      rw [if_neg hrr] at q
      exact wpAny_bind (wpAny_rule (wpAny_pure (by simpa [Nat.add_assoc] using q)))
  | _=>simp [okk] at hk
end
mutual
theorem Rd.inj {h:Heap}:∀ {x y:PyData} {v:Value},Rd h v x→Rd h v y→x=y
 | .none,y,v,a,b=>by cases y <;> simp [Rd] at a b <;> simp_all
 | .bool c,y,v,a,b=>by cases y <;> simp [Rd] at a b <;> simp_all
 | .int i,y,v,a,b=>by
  simp only [Rd] at a; obtain ⟨t,rfl⟩:=a
  cases y <;> simp [Rd] at b <;> simp_all
 | .str c,y,v,a,b=>by
  simp only [Rd] at a; obtain ⟨t,rfl⟩:=a
  cases y <;> simp [Rd] at b <;> simp_all
 | .list xs,y,v,a,b=>by
  refine eV a fun p vs n e_1 e2 e5=>?_; clear a; subst e_1
  induction y using PyData.casesOn with
  | list ys=>
   refine eV b fun p' vs' n' q1 q2 q5=>?_; clear b
   cases q1; rw [e2] at q2; cases q2
   rw [RdAll.inj e5 q5]
  | tuple ys=>
   refine eV b fun p' vs' n' q1 q2 q5=>?_; clear b
   cases q1; rw [e2] at q2; simp at q2
  | _=>simp [Rd] at b
 | .tuple xs,y,v,a,b=>by
  refine eV a fun p vs n e_2 e2 e5=>?_; clear a; subst e_2
  induction y using PyData.casesOn with
  | tuple ys=>
   refine eV b fun p' vs' n' q1 q2 q5=>?_; clear b
   cases q1; rw [e2] at q2; cases q2
   rw [RdAll.inj e5 q5]
  | list ys=>
   refine eV b fun p' vs' n' q1 q2 q5=>?_; clear b
   cases q1; rw [e2] at q2; simp at q2
  | _=>simp [Rd] at b
 | .dict _,y,v,a,b=>by simp [Rd] at a
theorem RdAll.inj {h:Heap}:∀ {xs ys:List PyData} {vs:List Value},RdAll h vs xs→RdAll h vs ys→xs=ys
 | [],ys,vs,a,b=>by
  simp only [RdAll] at a; subst a
  induction ys using List.casesOn with
  | nil=>rfl
  | cons y ys=>simp [RdAll] at b
 | x :: xs,ys,vs,a,b=>by
  refine cu a fun v t e_3 e2 e3=>?_; clear a; subst e_3
  induction ys using List.casesOn with
  | nil=>simp [RdAll] at b
  | cons y ys=>
   refine cu b fun v' t' q1 q2 q3=>?_; clear b
   cases q1
   rw [Rd.inj e2 q2,RdAll.inj e3 q3]
end
mutual
theorem fZ:∀ {x y:PyData},okd x=true→okd y=true→(PyData.eqv x y=true ↔ x=y)
 | .int i,y,hx,hy=>by cases y <;> simp [PyData.eqv,okd] at hy ⊢
 | .str i,y,hx,hy=>by cases y <;> simp [PyData.eqv,okd] at hy ⊢
 | .list xs,y,hx,hy=>by
  cases y with
  | list ys=>simp only [okd] at hx hy; simp only [PyData.eqv,PyData.list.injEq]; exact jS hx hy
  | _=>simp [PyData.eqv,okd] at hy ⊢
 | .tuple xs,y,hx,hy=>by
  induction y using PyData.casesOn with
  | tuple ys=>simp only [okd] at hx hy; simp only [PyData.eqv,PyData.tuple.injEq]; exact jS hx hy
  | _=>simp [PyData.eqv,okd] at hy ⊢
 | .none,y,hx,hy=>by simp [okd] at hx
 | .bool _,y,hx,hy=>by simp [okd] at hx
 | .dict _,y,hx,hy=>by simp [okd] at hx
theorem jS:∀ {xs ys:List PyData},g7 xs=true→g7 ys=true→(PyData.eqvAll xs ys=true ↔ xs=ys)
 | [],ys,_,_=>by induction ys <;> simp [PyData.eqvAll]
 | x :: xs,ys,hx,hy=>by
  induction ys using List.casesOn with
  | nil=>simp [PyData.eqvAll]
  | cons y ys=>
   simp only [g7,Bool.and_eq_true] at hx hy
   simp only [PyData.eqvAll,Bool.and_eq_true,List.cons.injEq,fZ hx.1 hy.1,jS hx.2 hy.2]
end
mutual
theorem dq:∀ {x:PyData},okk x=true→okd x=true
 | .int _,_=>by simp [okd]
 | .str _,h=>by simpa [okd,okk] using h
 | .tuple xs,h=>by simp only [okk] at h; simp only [okd]; exact kc h
 | .none,h=>by simp [okk] at h
 | .bool _,h=>by simp [okk] at h
 | .list _,h=>by simp [okk] at h
 | .dict _,h=>by simp [okk] at h
theorem kc:∀ {xs:List PyData},okks xs=true→g7 xs=true
 | [],_=>by simp [g7]
 | x :: xs,h=>by simp only [okks,Bool.and_eq_true] at h; simp [g7,dq h.1,kc h.2]
end
mutual
theorem fp:∀ {x:PyData},okd x=true→PyData.canLay0 x=true
 | .int _,_=>by simp [PyData.canLay0]
 | .str _,h=>by simpa [PyData.canLay0,okd] using h
 | .tuple xs,h=>by simp only [okd] at h; simp only [PyData.canLay0]; exact c5 h
 | .list xs,h=>by simp only [okd] at h; simp only [PyData.canLay0]; exact c5 h
 | .none,h=>by simp [okd] at h
 | .bool _,h=>by simp [okd] at h
 | .dict _,h=>by simp [okd] at h
theorem c5:∀ {xs:List PyData},g7 xs=true→PyData.canLayAll0 xs=true
 | [],_=>by simp [PyData.canLayAll0]
 | x :: xs,h=>by simp only [g7,Bool.and_eq_true] at h; simp [PyData.canLayAll0,fp h.1,c5 h.2]
end
theorem dA {x:PyData} (h:okd x=true) (d:x.depth≤64):SeqAt.shaped x=true:=by
 unfold SeqAt.shaped; rw [fp h,Bool.true_and]; exact decide_eq_true d
theorem eE {x:PyData}:okkey x=true ↔ okk x=true∧x.depth≤7:=by simp [okkey]
theorem iF {x:PyData}:ez x=true ↔ okd x=true∧x.depth≤20:=by simp [ez]
section
variable {prog:Program} {w:World} {A:Around} {E:Value→Shared→Prop} {s:Shared}
theorem qY {a b:Addr} {x y:PyData} {Q:Bool→Shared→Prop} (hu:A.units + 64 < cLine) (hx:Rd s.heap (.ref a) x) (hy:Rd s.heap (.ref b) y) (kx:okkey x=true) (ky:okkey y=true) (h:Q (PyData.eqv x y) s):
  wpAny (model prog w) A (eqBool (.ref a) (.ref b)) Q E s:=by
 refine bc fun hn=>?_
 obtain ⟨k1,d1⟩:=eE.mp kx
 obtain ⟨k2,d2⟩:=eE.mp ky
 refine hn ?_
 unfold eqBool
 try with_reducible refine wpAny_holding ?_
 show wpAny _ _ (if (Value.ref a == Value.ref b)=true then _ else _) Q E s
 by_cases hab:(Value.ref a == Value.ref b)=true
 ·rw [if_pos hab]
  have e:a=b:=by have:=eq_of_beq hab; injection this
  subst e
  obtain rfl:=hx.inj hy
  rw [(fZ (dq k1) (dq k1)).mpr rfl] at h
  exact wpAny_bind (wpAny_rule (wpAny_pure h))
 ·rw [if_neg hab]
  refine bc fun hn=>?_
  obtain ⟨as,ra⟩:=hx.reads (fun zz zz e=>e)
  obtain ⟨bs,rb⟩:=hy.reads (fun zz zz e=>e)
  refine hn ?_
  refine wpAny_bind ?_
  have:=eq_dataH (prog:=prog) (w:=w) (A:=A) (E:=E) (s:=s) (Q:=fun v s'=>v=.bool (PyData.eqv x y)∧s'=s) ra rb (dA (dq k1) (by exact zb1 ‹_› rfl)) (dA (dq k2) (by exact zb1 ‹_› rfl)) hu ⟨rfl,rfl⟩
  refine wpAny_mono (show wpAny (model prog w) A (richCompare .Eq (.ref a) (.ref b)) _ E s from this) (fun v s' ⟨e1,e2⟩=>?_) fun zz zz e=>e
  subst e1; subst e2
  exact wpAny_pure h
theorem lJ (n:Nat) {v:Value} {x:PyData} (r:Rd s.heap v x) (hx:∀ xs,x≠.tuple xs) (k:okk x=true):eqIsQuiet n v=pure true:=by
 induction x using PyData.casesOn with
 | int i=>simp only [Rd] at r; obtain ⟨t,rfl⟩:=r; exact eqIsQuiet_byValue n rfl
 | str i=>simp only [Rd] at r; obtain ⟨t,rfl⟩:=r; exact eqIsQuiet_byValue n rfl
 | tuple xs=>exact absurd rfl (hx xs)
 | _=>simp [okk] at k
theorem rY:∀ (n:Nat) {A:Around} {E:Value→Shared→Prop} {v:Value} {x:PyData} {Q:Bool→Shared→Prop},PyData.depth x≤n→okk x=true→Rd s.heap v x→Q true s→wpAny (model prog w) A (eqIsQuiet n v) Q E s:=by
 intro n
 induction n with
 | zero=>
  intro A E v x Q hd hk r q
  rw [lJ 0 r (fun xs e=>by subst e; simp [PyData.depth] at hd) hk]
  exact wpAny_pure q
 | succ n ih=>
  intro A E v x Q hd hk r q
  by_cases hx:∀ xs,x≠.tuple xs
  ·rw [lJ _ r hx hk]; exact wpAny_pure q
  ·obtain ⟨xs,rfl⟩:∃ xs,x=.tuple xs:=Classical.byContradiction fun k=>hx fun xs e=>k ⟨xs,e⟩
   refine eV r fun a vs m e_4 ho hr=>?_; clear r; subst e_4
   have hT:s.TypeIs (.ref a) "tuple":=(m1a2 _ ho rfl)
   have hdt:(({ cls:=.type "tuple",data:=.seq vs m }:Obj)).data=.seq vs m:=rfl
   simp only [okk] at hk
   simp only [PyData.depth] at hd
   unfold eqIsQuiet
   refine wpAny_bind (wpAny_specialOf hT F.slot_tuple_eq.lookup ?_)
   show wpAny _ _ (isInstance (.ref a) (.type "tuple") >>= _) _ _ s
   refine wpAny_bind (wpAny_isInstance hT isSubtype_tuple_tuple ?_)
   simp only [Bool.not_true,Bool.false_eq_true,if_false]
   refine wpAny_bind (wpAny_seqItems ho hdt ?_)
   refine wpAny_bind ?_
   show wpAny _ _ (forIn vs _ _) _ _ s
   rw [← Array.forIn_toList]
   refine wpAny_forIn_list _ (fun rest r s'=>r.1=none∧s'=s∧∃ ys,RdAll s.heap rest ys∧okks ys=true∧PyData.depthAll ys≤n) _ ?_ ?_ _ _ (cw rfl rfl (dT xs hr hk (by exact DS ‹_›)))
   ·rintro v rest r s' ⟨hr1,rfl,ys,hra,hok,hdp⟩
    induction ys using List.casesOn with
    | nil=>simp [RdAll] at hra
    | cons y ys=>
     refine bc fun hn=>?_
     refine cu hra fun v' r' e h1 h2=>?_; clear hra
     obtain ⟨rfl,rfl⟩:=List.cons.inj e
     refine hn ?_
     simp only [okks,Bool.and_eq_true] at hok
     simp only [PyData.depthAll] at hdp
     refine wpAny_bind (ih (x:=y) (Nat.le_trans (Nat.le_max_left _ _) hdp) hok.1 h1 ?_)
     simp only [Bool.not_true,Bool.false_eq_true,if_false]
     exact wpAny_pure (cw rfl rfl (dT ys h2 hok.2 (Nat.le_trans (Nat.le_max_right _ _) hdp)))
   ·rintro ⟨r1,r2⟩ s' ⟨hr1,rfl,_⟩
    simp only at hr1
    subst hr1
    exact wpAny_pure q
end
theorem Rd.but {h h':Heap} {d:Addr} {o:Obj} {es ep} (ho:h.get? d=some o) (hd:o.data=.dict es ep) (hs:Heap.SameBut d h h') {v:Value} {x:PyData} (r:Rd h v x):Rd h' v x:=
 r.mono fun b ob e hc=>(hs.2 b (fun q=>by
  subst q; rw [ho] at e; cases e
  obtain ⟨_,t_5⟩:=hc; refine cG t_5 fun vs n k=>?_
  rw [hd] at k; cases k)).trans e
noncomputable def decPD:DecidableEq PyData:=fun a b=>Classical.propDecidable (a=b)
theorem tJ {x y:PyData} (hx:okd x=true) (hy:okd y=true):PyData.eqv x y=@decide (x=y) (decPD x y):=by
 by_cases e:x=y
 ·rw [(fZ hx hy).mpr e]; exact (@decide_eq_true _ (decPD x y) e).symm
 ·have:PyData.eqv x y=false:=Bool.eq_false_iff.mpr fun k=>e ((fZ hx hy).mp k)
  rw [this]; exact (@decide_eq_false _ (decPD x y) e).symm
noncomputable def ft (prog:Program) (w:World):@HeapKind prog w PyData decPD:=@HeapKind.mk prog w PyData decPD
 (fun h x a=>Rd h (.ref a) x∧okkey x=true∧∃ xs,x=.tuple xs)
 (dQ w) fQ (fun A=>A.units + 64 < cLine)
 (fun hx hy=>hx.1.inj hy.1)
 (fun x ho hd hs=>⟨x.1.but ho hd hs,x.2⟩)
 (fun hu x h=>by
  refine bc fun hn=>?_
  refine gD x fun r k zz=>?_; clear x
  obtain ⟨k1,d1⟩:=eE.mp k
  refine hn ?_
  exact qu 7 d1 k1 (by lia) r h)
 (fun {A E s x y a b Q} hu hx hy h=>qY hu hx.1 hy.1 hx.2.1 hy.2.1 (by rw [tJ (dq (eE.mp hx.2.1).1) (dq (eE.mp hy.2.1).1)]; exact h))
 (fun x h=>by
  refine bc fun hn=>?_
  refine gD x fun r k zz=>?_; clear x
  obtain ⟨k1,d1⟩:=eE.mp k
  refine hn ?_
  exact rY 8 (by exact zb1 ‹_› rfl) k1 r h)
section
variable {prog:Program} {w:World} {g:Heap}
noncomputable def isTup:PyData→Bool | .tuple _=>true | _=>false
noncomputable def isInt:PyData→Bool | .int _=>true | _=>false
theorem nw {ts:List PyData} {es:List (PyData×PyData)} (h:dJ (.tuple ts) es=true):∀ e∈es,isTup e.1=true:=fun e m=>by
 have:=List.all_eq_true.mp h e m
 revert this; cases e.1 <;> simp [isTup]
theorem jM {i:Int} {es:List (PyData×PyData)} (h:dJ (.int i) es=true):∀ e∈es,isInt e.1=true:=fun e m=>by
 have:=List.all_eq_true.mp h e m
 revert this; cases e.1 <;> simp [isInt]
theorem askOk_iff {k:PyData} {es:List (PyData×PyData)}:dj k es=true ↔ okkey k=true∧dJ k es=true:=by simp [dj]
theorem pD {k:PyData} {es:List (PyData×PyData)} (h:dJ k es=true):(∃ i,k=.int i)∨∃ ts,k=.tuple ts:=by
 cases k <;> simp [dJ] at h ⊢
theorem fB.keys {hs:PyData→Int}:∀ {ens:List DictEntry} {es:List (PyData×PyData)},fB hs g ens es→∀ e∈es,okkey e.1=true
 | [],[],_,e,m=>nomatch m
 | _ :: _,p :: es,⟨_,_,_,d,_,r⟩,e,m=>by
  rcases List.mem_cons.mp m with q | m
  ·exact q▸d
  ·exact fB.keys r e m
 | [],_ :: _,r,_,_=>r.elim
 | _ :: _,[],r,_,_=>r.elim
theorem cS {x:PyData} (h:okkey x=true):okd x=true:=dq (eE.mp h).1
theorem nK {x:PyData} (h:okd x=true):PyData.eqv x x=true:=(fZ h h).mpr rfl
theorem fB.nodup {hs:PyData→Int}:∀ {ens:List DictEntry} {es:List (PyData×PyData)},fB hs g ens es→(es.map (·.1)).Nodup
 | [],[],_=>by simp
 | _ :: _,p :: es,⟨_,_,_,d,ne,r⟩=>by
  simp only [List.map_cons]
  refine List.nodup_cons.mpr ⟨fun m=>?_,fB.nodup r⟩
  refine aB (List.mem_map.mp m) fun q hq e=>?_
  have:=ne q hq
  rw [e,nK (cS d)] at this; exact tF this
 | [],_ :: _,r=>r.elim
 | _ :: _,[],r=>r.elim
noncomputable def EX (g:Heap):List (PyData×Value×Value)→List (PyData×PyData)→Prop
 | [],[]=>True
 | x :: xs,p :: es=>x.1=p.1∧Rd g x.2.1 p.1∧Rd g x.2.2 p.2∧okkey p.1=true∧EX g xs es
 | _,_=>False
noncomputable def ib (w:World) (x:PyData×Value×Value):DictEntry:=⟨dQ w x.1,x.2.1,x.2.2⟩
theorem fB.toX:∀ {ens:List DictEntry} {es:List (PyData×PyData)},fB (dQ w) g ens es→∃ xs,ens=xs.map (ib w)∧EX g xs es
 | [],[],_=>(m1a2 [] rfl trivial)
 | e :: ens,p :: es,⟨a,b,c,d,_,r⟩=>by
  refine aB (fB.toX r) fun xs q k=>?_
  exact ⟨(p.1,e.key,e.val) :: xs,by rw [List.map_cons,← q]; unfold ib; rw [← c],rfl,a,b,d,k⟩
 | [],_ :: _,r=>r.elim
 | _ :: _,[],r=>r.elim
theorem fB.ofX:∀ {xs:List (PyData×Value×Value)} {es:List (PyData×PyData)},EX g xs es→(es.map (·.1)).Nodup→fB (dQ w) g (xs.map (ib w)) es
 | [],[],_,_=>trivial
 | x :: xs,p :: es,⟨a,b,c,d,r⟩,n=>by
  simp only [List.map_cons] at n
  have n':=List.nodup_cons.mp n
  refine (xO b c (by show dQ w x.1=_; rw [a]) d (fun q m=>Bool.eq_false_iff.mpr fun k=>n'.1 ?_) (fB.ofX r n'.2))
  have hq:okkey q.1=true:=by
   have:∀ {xs:List (PyData×Value×Value)} {es:List (PyData×PyData)},EX g xs es→∀ e∈es,okkey e.1=true:=by
    intro xs
    induction xs with
    | nil=>intro es r e m; cases es with | nil=>cases m | cons=>exact r.elim
    | cons y ys ih=>
     intro es r e m
     induction es using List.casesOn with
     | nil=>exact (List.not_mem_nil m).elim
     | cons p es=>
      rcases List.mem_cons.mp m with q | m
      ·exact q▸r.2.2.2.1
      ·exact ih r.2.2.2.2 e m
   exact this r q m
  rw [(fZ (cS d) (cS hq)).mp k]
  exact List.mem_map_of_mem (f:=(·.1)) m
 | [],_ :: _,r,_=>r.elim
 | _ :: _,[],r,_=>r.elim
theorem ig {k v:PyData}:∀ {es:List (PyData×PyData)},(findKey k es).isSome=true→(putKey k v es).map (·.1)=es.map (·.1)
 | [],h=>by simp [findKey] at h
 | e :: es,h=>by
  unfold putKey
  by_cases c:PyData.eqv e.1 k=true
  ·rw [if_pos c]; rfl
  ·rw [if_neg c]
   simp only [List.map_cons]
   rw [ig (by simpa [findKey,c] using h)]
theorem jF {k v:PyData}:∀ {es:List (PyData×PyData)},findKey k es=none→putKey k v es=es++[(k,v)]
 | [],_=>rfl
 | e :: es,h=>by
  unfold putKey
  by_cases c:PyData.eqv e.1 k=true
  ·simp [findKey,c] at h
  ·rw [if_neg c,jF (by simpa [findKey,c] using h)]; rfl
theorem jo {k:PyData} {es:List (PyData×PyData)} (hk:okd k=true) (h:findKey k es=none):k ∉ es.map (·.1):=fun m=>by
 refine aB (List.mem_map.mp m) fun e he q=>?_
 simp only [findKey,Option.map_eq_none_iff,List.find?_eq_none] at h
 exact h e he (by rw [q]; exact nK hk)
theorem EX.find {k:PyData} (hk:okd k=true):∀ {xs:List (PyData×Value×Value)} {es:List (PyData×PyData)},EX g xs es→
  (findKey k es=none∧∀ x∈xs,x.1≠k)∨∃ i x d,xs[i]?=some x∧x.1=k∧findKey k es=some d∧Rd g x.2.2 d∧es[i]?=some (k,d)∧(∀ v,putKey k v es=es.set i (k,v))∧(∀ (j:Nat) y,j < i→xs[j]?=some y→y.1≠k)
 | [],[],_=>.inl ⟨rfl,fun zz m=>nomatch m⟩
 | x :: xs,p :: es,⟨a,b,c,d,r⟩=>by
  by_cases e:PyData.eqv p.1 k=true
  ·have e':=(fZ (cS d) hk).mp e
   exact .inr (zX 0 x p.2 rfl (a.trans e') (by simp [findKey,e]) c (by rw [← e']; rfl) (fun v=>by unfold putKey; rw [if_pos e,e']; rfl) (fun j y hj=>absurd hj (Nat.not_lt_zero _)))
  ·have ne:p.1≠k:=fun q=>e (by rw [q]; exact nK hk)
   rcases EX.find hk r with ⟨q1,q2⟩ | ⟨i,y,dd,q1,q2,q3,q4,q5,q6,q7⟩
   ·exact .inl ⟨by simpa [findKey,e] using q1,fun z m=>by rcases List.mem_cons.mp m with h | m; exact h▸a▸ne; exact q2 z m⟩
   ·refine .inr (zX (i + 1) y dd (by simpa using q1) q2 (by simpa [findKey,e] using q3) q4 (by simpa using q5) (fun v=>by simp [putKey,e,q6]) (fun j z hj hz=>?_))
    induction j using Nat.casesOn with
    | zero=>simp at hz; subst hz; exact a▸ne
    | succ j=>simp at hz; exact q7 j z (by exact DR ‹_›) hz
 | [],_ :: _,r=>r.elim
 | _ :: _,[],r=>r.elim
theorem EX.set {k v:PyData} {val:Value} (hv:Rd g val v):∀ {xs:List (PyData×Value×Value)} {es:List (PyData×PyData)} {i:Nat} {x:PyData×Value×Value} {d:PyData},EX g xs es→xs[i]?=some x→es[i]?=some (k,d)→EX g (xs.set i (x.1,x.2.1,val)) (es.set i (k,v))
 | y :: xs,p :: es,0,x,d,⟨a,b,c,e,r⟩,h1,h2=>by
  simp at h1 h2; subst h1; subst h2
  exact (ij a b hv e r)
 | y :: xs,p :: es,i + 1,x,d,⟨a,b,c,e,r⟩,h1,h2=>by
  simp at h1 h2
  exact (ij a b c e (EX.set hv r h1 h2))
 | [],_,_,_,_,_,h1,_=>by simp at h1
 | _ :: _,[],_,_,_,r,_,_=>r.elim
theorem EX.snoc {k v:PyData} {key val:Value} (hk:Rd g key k) (hv:Rd g val v) (ok:okkey k=true):∀ {xs:List (PyData×Value×Value)} {es:List (PyData×PyData)},EX g xs es→EX g (xs++[(k,key,val)]) (es++[(k,v)])
 | [],[],_=>(ij rfl hk hv ok trivial)
 | _ :: _,_ :: _,⟨a,b,c,d,r⟩=>⟨a,b,c,d,EX.snoc hk hv ok r⟩
 | [],_ :: _,r=>r.elim
 | _ :: _,[],r=>r.elim
theorem EX.keys:∀ {xs:List (PyData×Value×Value)} {es:List (PyData×PyData)},EX g xs es→xs.map (·.1)=es.map (·.1)
 | [],[],_=>rfl
 | _ :: _,_ :: _,⟨a,_,_,_,r⟩=>by simp [a,EX.keys r]
 | [],_ :: _,r=>r.elim
 | _ :: _,[],r=>r.elim
theorem EX.tups:∀ {xs:List (PyData×Value×Value)} {es:List (PyData×PyData)},EX g xs es→(∀ e∈es,isTup e.1=true)→∀ x∈xs,∃ a ts,x.2.1=.ref a∧x.1=.tuple ts∧Rd g x.2.1 x.1∧okkey x.1=true
 | [],[],_,_,x,m=>nomatch m
 | y :: xs,p :: es,⟨a,b,c,d,r⟩,h,x,m=>by
  rcases List.mem_cons.mp m with q | m
  ·subst q
   have:=h p (.head _)
   obtain ⟨ts,ht⟩:∃ ts,p.1=.tuple ts:=by revert this; cases p.1 <;> simp [isTup]
   have b':=b
   rw [ht] at b'; simp only [Rd] at b'
   refine dB b' fun ad zz zz e zz=>?_; clear b'
   exact (m2a4 ad ts e (a.trans ht) (a▸b) (a▸d))
  ·exact EX.tups r (fun e m=>h e (.tail _ m)) x m
 | [],_ :: _,r,_,_,_=>r.elim
 | _ :: _,[],r,_,_,_=>r.elim
theorem EX.ints:∀ {xs:List (PyData×Value×Value)} {es:List (PyData×PyData)},EX g xs es→(∀ e∈es,isInt e.1=true)→∀ x∈xs,∃ i t,x.2.1=.int i t∧x.1=.int i
 | [],[],_,_,x,m=>nomatch m
 | y :: xs,p :: es,⟨a,b,c,d,r⟩,h,x,m=>by
  rcases List.mem_cons.mp m with q | m
  ·subst q
   have:=h p (.head _)
   obtain ⟨i,hi⟩:∃ i,p.1=.int i:=by revert this; cases p.1 <;> simp [isInt]
   rw [hi] at b; simp only [Rd] at b
   obtain ⟨t,e⟩:=b
   exact (g8 i t e (a.trans hi))
  ·exact EX.ints r (fun e m=>h e (.tail _ m)) x m
 | [],_ :: _,r,_,_,_=>r.elim
 | _ :: _,[],r,_,_,_=>r.elim
noncomputable def dU:Value→Addr | .ref a=>a | _=>0
noncomputable def dw:PyData→Int | .int i=>i | _=>0
theorem EX.dictH {h:Heap} (kg:∀ b o,g.get? b=some o→h.get? b=some o) {d:Addr} {o:Obj} {ens:Array DictEntry} {ep:Nat} {xs:List (PyData×Value×Value)} {es:List (PyData×PyData)} (ho:h.get? d=some o) (hx:o.ExactDict) (hd:o.data=.dict ens ep)
  (he:ens.toList=xs.map (ib w)) (X:EX g xs es) (ht:∀ e∈es,isTup e.1=true) (nd:(es.map (·.1)).Nodup):@Heap.DictOfH prog w PyData decPD (ft prog w) h d (xs.map fun x=>(x.1,dU x.2.1,x.2.2)):=by
 refine (sb o ens ep ho hx hd ?_ (fun x m=>?_) ?_)
 ·rw [he,List.map_map]
  refine List.map_congr_left fun x m=>?_
  refine cu (X.tups ht x m) fun a ts e1 e2 zz=>?_
  show ib w x=⟨dQ w x.1,.ref (dU x.2.1),x.2.2⟩
  unfold ib; rw [e1]; rfl
 ·refine aB (List.mem_map.mp m) fun y my e_1=>?_; subst e_1
  refine tZ (X.tups ht y my) fun a ts e1 e2 e3 e4=>?_
  refine (cw ?_ e4 ⟨ts,e2⟩)
  show Rd h (.ref (dU y.2.1)) y.1
  rw [e1] at e3 ⊢
  exact e3.mono (Sub.of kg)
 ·rw [List.map_map]
  show (xs.map (·.1)).Nodup
  rw [X.keys]; exact nd
theorem EX.dictI {h:Heap} {d:Addr} {o:Obj} {ens:Array DictEntry} {ep:Nat} {xs:List (PyData×Value×Value)} {es:List (PyData×PyData)} (ho:h.get? d=some o) (hx:o.ExactDict) (hd:o.data=.dict ens ep)
  (he:ens.toList=xs.map (ib w)) (X:EX g xs es) (ht:∀ e∈es,isInt e.1=true) (nd:(es.map (·.1)).Nodup):h.DictOf (intKind prog w) d (xs.map fun x=>(dw x.1,x.2.2)):=by
 refine (sb o ens ep ho hx hd (fun e m=>?_) ?_ ?_)
 ·have:e∈xs.map (ib w):=he▸Array.mem_toList_iff.mpr m
  refine aB (List.mem_map.mp this) fun x mx e_2=>?_; subst e_2
  refine eW (X.ints ht x mx) fun i t e1 e2=>?_
  refine (m1a2 i ?_ ?_)
  ·show (intKind prog w).is i x.2.1=true
   rw [e1]; exact intKind_is _ _ _ _
  ·show dQ w x.1=hashInt i
   rw [e2]; rfl
 ·rw [he]
  clear he nd hd hx ho
  induction xs generalizing es with
  | nil=>exact .nil
  | cons x xs ih=>
   induction es using List.casesOn with
   | nil=>exact X.elim
   | cons p es=>
    refine eW (X.ints ht x (.head _)) fun i t e1 e2=>?_
    refine .cons ?_ rfl (ih X.2.2.2.2 fun e m=>ht e (.tail _ m))
    show (intKind prog w).is (dw x.1) x.2.1=true
    rw [e1,e2]; exact intKind_is _ _ _ _
 ·rw [List.map_map]
  have:(xs.map (·.1)).Nodup:=by rw [X.keys]; exact nd
  have key:∀ {l:List (PyData×Value×Value)},(∀ x∈l,∃ i t,x.2.1=.int i t∧x.1=.int i)→(l.map (·.1)).Nodup→(l.map (dw ∘ (·.1))).Nodup:=by
   intro l
   induction l with
   | nil=>intro _ _; simp
   | cons y l ih=>
    intro hl n
    simp only [List.map_cons] at n ⊢
    have n':=List.nodup_cons.mp n
    refine List.nodup_cons.mpr ⟨fun m=>n'.1 ?_,ih (fun x m=>hl x (.tail _ m)) n'.2⟩
    refine aB (List.mem_map.mp m) fun z mz e=>?_
    refine eW (hl y (.head _)) fun i t zz e2=>?_
    refine eW (hl z (.tail _ mz)) fun j u zz e3=>?_
    simp only [Function.comp,e2,e3,dw] at e
    subst e
    rw [e2,← e3]; exact List.mem_map_of_mem (f:=(·.1)) mz
  exact key (X.ints ht) this
end
section
variable {prog:Program} {w:World} {g:Heap}
theorem lH {α:Type} (f:PyData×Value×Value→PyData×α) (put:PyData×α→PyData×α) (hf:∀ x,(f x).1=x.1) {k:PyData} (v:Value) (hput:∀ y,y.1≠k→put y=y) (hp:∀ x,x.1=k→put (f x)=f (x.1,x.2.1,v)):
  ∀ {l:List (PyData×Value×Value)} {i:Nat} {x:PyData×Value×Value},(l.map (·.1)).Nodup→l[i]?=some x→x.1=k→(l.map f).map put=(l.set i (x.1,x.2.1,v)).map f
 | y :: l,0,x,n,h,hk=>by
  simp at h; subst h
  simp only [List.map_cons] at n
  have n':=List.nodup_cons.mp n
  simp only [List.map_cons,List.set_cons_zero]
  rw [hp _ hk]
  congr 1
  rw [List.map_map]
  refine List.map_congr_left fun z m=>hput _ ?_
  rw [hf]; intro e
  exact n'.1 (hk▸e▸List.mem_map_of_mem (f:=(·.1)) m)
 | y :: l,i + 1,x,n,h,hk=>by
  simp at h
  simp only [List.map_cons] at n
  have n':=List.nodup_cons.mp n
  simp only [List.map_cons,List.set_cons_succ]
  rw [lH f put hf v hput hp n'.2 h hk]
  congr 1
  refine hput _ ?_
  rw [hf]; intro e
  exact n'.1 (e▸hk▸List.mem_map_of_mem (f:=(·.1)) (List.mem_of_getElem? h))
 | [],_,_,_,h,_=>by simp at h
theorem jI:∀ {l:List DictEntry} {xs:List (PyData×Value×Value)} {es:List (PyData×PyData)},Pairs (intKind prog w) l (xs.map fun x=>(dw x.1,x.2.2))→(∀ e∈l,∃ k,(intKind prog w).is k e.key=true∧e.hash=(intKind prog w).hash k)→EX g xs es→
  (∀ e∈es,isInt e.1=true)→(es.map (·.1)).Nodup→fB (dQ w) g l es
 | l,[],[],p,_,_,_,_=>by cases p; trivial
 | l,x :: xs,q :: es,p,hk,X,hi,n=>by
  cases p with
  | @cons e kv l' kvs h1 h2 h3=>
   simp only [List.map_cons] at n
   have n':=List.nodup_cons.mp n
   have r:=jI h3 (fun e m=>hk e (.tail _ m)) X.2.2.2.2 (fun e m=>hi e (.tail _ m)) n'.2
   refine dR X fun a b c d zz=>?_; clear X
   have hq:=hi q (.head _)
   obtain ⟨i,hqi⟩:∃ i,q.1=.int i:=by revert hq; cases q.1 <;> simp [isInt]
   have hxi:x.1=.int i:=a.trans hqi
   have h1':(intKind prog w).is i e.key=true:=by
    have:(intKind prog w).is (dw x.1) e.key=true:=h1
    rw [hxi] at this; exact this
   refine bc fun hn=>?_
   obtain ⟨t,ht⟩:=Value.isInt_shape h1'
   refine aB (hk e (.head _)) fun k' k1 k2=>?_
   refine hn ?_
   have:k'=i:=(intKind prog w).inj _ _ _ k1 h1'
   subst this
   refine (xO ?_ ?_ ?_ d (fun z m=>Bool.eq_false_iff.mpr fun k=>n'.1 ?_) r)
   ·rw [hqi,ht]; simp [Rd]
   ·rw [h2]; exact c
   ·rw [k2,hqi]; rfl
   ·have hz:=fB.keys r z m
    rw [(fZ (cS d) (cS hz)).mp k]
    exact List.mem_map_of_mem (f:=(·.1)) m
 | _,[],_ :: _,_,_,X,_,_=>X.elim
 | _,_ :: _,[],_,_,X,_,_=>X.elim
noncomputable def DictAt (w:World) (h g:Heap) (d:Addr) (es:List (PyData×PyData)):Prop:=∃ o ens n,h.get? d=some o∧o.ExactDict∧o.data=.dict ens n∧fB (dQ w) g ens.toList es
theorem fB.of_set {xs:List (PyData×Value×Value)} {es:List (PyData×PyData)} {k v:PyData} {key val:Value} (X:EX g xs es) (nd:(es.map (·.1)).Nodup) (hk:okkey k=true) (rk:Rd g key k) (rv:Rd g val v):
  ∃ ys,EX g ys (putKey k v es)∧((putKey k v es).map (·.1)).Nodup∧((findKey k es=none∧ys=xs++[(k,key,val)]∧(∀ x∈xs,x.1≠k))∨∃ i x,xs[i]?=some x∧x.1=k∧ys=xs.set i (x.1,x.2.1,val)∧(findKey k es).isSome=true):=by
 have hkd:=cS hk
 rcases X.find hkd with ⟨a,b⟩ | ⟨i,x,d,q1,q2,q3,q4,q5,q6,q7⟩
 ·refine (dT (xs++[(k,key,val)]) ?_ ?_ (.inl (cw a rfl b)))
  ·rw [jF a]; exact X.snoc rk rv hk
  ·rw [jF a,List.map_append]
   refine List.nodup_append.mpr (cw nd (by simp) (fun y my z mz e=>?_))
   simp at mz; subst mz; subst e
   exact jo hkd a my
 ·refine (dT (xs.set i (x.1,x.2.1,val)) ?_ ?_ (.inr (m2a4 i x q1 q2 rfl (by rw [q3]; rfl))))
  ·rw [q6]; exact X.set rv q1 q5
  ·rw [ig (by rw [q3]; rfl)]; exact nd
theorem iy {k v:PyData} {P:PyData→Bool} (hk:P k=true):∀ {es:List (PyData×PyData)},(∀ e∈es,P e.1=true)→∀ e∈putKey k v es,P e.1=true
 | [],_,e,m=>by simp [putKey] at m; subst m; exact hk
 | q :: es,h,e,m=>by
  unfold putKey at m
  by_cases c:PyData.eqv q.1 k=true
  ·rw [if_pos c] at m
   rcases List.mem_cons.mp m with r | m
   ·subst r; exact h q (.head _)
   ·exact h e (.tail _ m)
  ·rw [if_neg c] at m
   rcases List.mem_cons.mp m with r | m
   ·subst r; exact h _ (.head _)
   ·exact iy hk (fun e m=>h e (.tail _ m)) e m
end
section
variable {prog:Program} {w:World} {A:Around} {E:Value→Shared→Prop} {s:Shared} {g:Heap} {d:Addr} {es:List (PyData×PyData)} {k:PyData} {v:Value}
theorem n9 {K:Type} [DecidableEq K] {knd:HeapKind prog w K} {a:Addr} {k:K} {xs:List (K×Addr×Value)} {Q:Bool→Shared→Prop} (hu:knd.room A.in1) (hkey:knd.is s.heap k a) (hd:(d == sysModules)=false) (hm:s.heap.DictOfH knd d xs)
  (h:Q (atKey xs k).isSome { s with toks:=s.toks + knd.draws k }):wpAny (model prog w) A (contains (.ref d) (.ref a)) Q E s:=by
 unfold contains
 try with_reducible refine wpAny_holding ?_
 refine wpAny_bind (wpAny_specialOf hm.typeIs slot_dict_contains.lookup ?_)
 show wpAny _ _ (if (some (Value.builtin "dict.__contains__") == some Value.none)=true then _ else _) _ E s
 rw [if_neg (by rw [beq_builtin_none]; exact Bool.false_ne_true)]
 refine wpAny_bind (wpAny_callSpecialUnlessNone?_slot (name:=Str.ofString "__contains__") hm.typeIs slot_dict_contains
  (wpAny_call_entry slot_dict_contains hm.typeIs entry_dict_contains ?_ (args_dict_contains _ _)))
 show wpAny _ _ (dictGet d (.ref a) >>= _) _ _ s
 refine wpAny_bind (wpAny_dictGet_heap hu hkey hm ?_)
 induction hf:atKey xs k using Option.casesOn with
 | some p=>
  rw [hf] at h
  show wpAny _ _ (ret (.bool true)) _ _ _
  exact wpAny_pure (m1a2 _ rfl (wpAny_truthy_bool h))
 | none=>
  rw [hf] at h
  show wpAny _ _ (Builtin.Dict.pendingKey? d (.ref a) >>= _) _ _ _
  exact wpAny_bind (wpAny_pendingKey_other hd (wpAny_pure (m1a2 _ rfl (wpAny_truthy_bool h))))
theorem pK {K:Type} [DecidableEq K] {knd:KeyKind prog w K} {k:K} {key:Value} {f:K→Option Value} {Q:Bool→Shared→Prop} (hkey:knd.is k key=true) (hd:(d == sysModules)=false) (hm:s.heap.MapOf knd d f)
  (h:Q (f k).isSome { s with toks:=s.toks + 1 }):wpAny (model prog w) A (contains (.ref d) key) Q E s:=by
 unfold contains
 try with_reducible refine wpAny_holding ?_
 refine wpAny_bind (wpAny_specialOf hm.typeIs slot_dict_contains.lookup ?_)
 show wpAny _ _ (if (some (Value.builtin "dict.__contains__") == some Value.none)=true then _ else _) _ E s
 rw [if_neg (by rw [beq_builtin_none]; exact Bool.false_ne_true)]
 refine wpAny_bind (wpAny_callSpecialUnlessNone?_slot (name:=Str.ofString "__contains__") hm.typeIs slot_dict_contains
  (wpAny_call_entry slot_dict_contains hm.typeIs entry_dict_contains ?_ (args_dict_contains _ _)))
 show wpAny _ _ (dictGet d key >>= _) _ _ s
 refine wpAny_bind (wpAny_dictGet_of hkey hm ?_)
 induction hf:f k using Option.casesOn with
 | some v=>
  rw [hf] at h
  show wpAny _ _ (ret (.bool true)) _ _ _
  exact wpAny_pure (m1a2 _ rfl (wpAny_truthy_bool h))
 | none=>
  rw [hf] at h
  show wpAny _ _ (Builtin.Dict.pendingKey? d key >>= _) _ _ _
  exact wpAny_bind (wpAny_pendingKey_other hd (wpAny_pure (m1a2 _ rfl (wpAny_truthy_bool h))))
theorem DictAt.face (D:DictAt w s.heap g d es) (kg:∀ b o,g.get? b=some o→s.heap.get? b=some o) (ok:dj k es=true) (r:Rd g v k) (hu:A.units + 200 < cLine):
  (∃ a xs,v=.ref a∧(@HeapKind.room prog w PyData decPD (ft prog w)) A.in1∧(@HeapKind.is prog w PyData decPD (ft prog w)) s.heap k a∧@Heap.DictOfH prog w PyData decPD (ft prog w) s.heap d (xs.map fun x=>(x.1,dU x.2.1,x.2.2))∧EX g xs es∧(es.map (·.1)).Nodup∧(∀ e∈es,isTup e.1=true)∧isTup k=true)∨
  ∃ i t xs,v=.int i t∧k=.int i∧s.heap.DictOf (intKind prog w) d (xs.map fun x=>(dw x.1,x.2.2))∧EX g xs es∧(es.map (·.1)).Nodup∧(∀ e∈es,isInt e.1=true):=by
 refine bc fun hn=>?_
 obtain ⟨o,ens,n,ho,hx,hd,D⟩:=D
 obtain ⟨k1,k2⟩:=askOk_iff.mp ok
 obtain ⟨xs,e,X⟩:=D.toX
 refine hn ?_
 rcases pD k2 with ⟨i,rfl⟩ | ⟨ts,rfl⟩
 ·refine .inr ?_
  obtain ⟨t,rfl⟩:=r
  exact ⟨i,t,xs,rfl,rfl,X.dictI ho hx hd e (jM k2) D.nodup,X,D.nodup,jM k2⟩
 ·refine .inl ?_
  have r':=r
  obtain ⟨a,_,_,rfl,_⟩:=r'
  exact ⟨a,xs,rfl,by show A.units + 1 + 64 < cLine; lia,⟨r.mono (Sub.of kg),k1,ts,rfl⟩,X.dictH kg ho hx hd e (nw k2) D.nodup,X,D.nodup,nw k2,rfl⟩
end
section
variable {g:Heap} {es:List (PyData×PyData)} {k:PyData}
theorem hX {α:Type} {p:α→Bool}:∀ {l:List α} {i:Nat} {x:α},l[i]?=some x→p x=true→(∀ (j:Nat) y,j < i→l[j]?=some y→p y=false)→l.find? p=some x
 | y :: l,0,x,h,hp,_=>by simp at h; subst h; simp [hp]
 | y :: l,i + 1,x,h,hp,hn=>by
  simp at h
  have:=hn 0 y (Nat.succ_pos i) rfl
  rw [List.find?_cons,this]
  exact hX h hp fun j z hj hz=>hn (j + 1) z (by exact DT ‹_›) (by simpa using hz)
 | [],_,_,h,_,_=>by simp at h
theorem EX.atKey {xs:List (PyData×Value×Value)} (X:EX g xs es) (hk:okd k=true):
  (findKey k es=none∧@PySem.atKey PyData decPD (xs.map fun x=>(x.1,dU x.2.1,x.2.2)) k=none)∨∃ d p,findKey k es=some d∧@PySem.atKey PyData decPD (xs.map fun x=>(x.1,dU x.2.1,x.2.2)) k=some p∧Rd g p.2 d:=by
 rcases X.find hk with ⟨a,b⟩ | ⟨i,x,d,q1,q2,q3,q4,q5,q6,q7⟩
 ·refine .inl ⟨a,?_⟩
  unfold PySem.atKey
  rw [List.find?_eq_none.mpr]; rfl
  intro y m
  refine aB (List.mem_map.mp m) fun x mx e_1=>?_; subst e_1
  have:=b x mx
  simp only [decide_eq_true_eq]
  exact this
 ·refine .inr (dr d (dU x.2.1,x.2.2) q3 ?_ q4)
  unfold PySem.atKey
  rw [hX (i:=i) (x:=(x.1,dU x.2.1,x.2.2)) (by simp [q1]) (by exact @decide_eq_true _ (decPD _ _) q2) (fun j y hj hy=>?_)]
  ·rfl
  ·simp only [List.getElem?_map,Option.map_eq_some_iff] at hy
   refine aB hy fun z hz e_2=>?_; clear hy; subst e_2
   exact @decide_eq_false _ (decPD _ _) (q7 j z hj hz)
theorem EX.valueAt {i:Int} {xs:List (PyData×Value×Value)} (X:EX g xs es) (hi:∀ e∈es,isInt e.1=true):
  (findKey (.int i) es=none∧PySem.valueAt (xs.map fun x=>(dw x.1,x.2.2)) i=none)∨∃ d v,findKey (.int i) es=some d∧PySem.valueAt (xs.map fun x=>(dw x.1,x.2.2)) i=some v∧Rd g v d:=by
 rcases X.find (k:=.int i) (by simp [okd]) with ⟨a,b⟩ | ⟨j,x,d,q1,q2,q3,q4,q5,q6,q7⟩
 ·refine .inl ⟨a,?_⟩
  unfold PySem.valueAt
  rw [List.find?_eq_none.mpr]; rfl
  intro y m
  refine aB (List.mem_map.mp m) fun x mx e_3=>?_; subst e_3
  refine eW (X.ints hi x mx) fun j t zz e2=>?_
  intro q
  have q':=of_decide_eq_true q
  rw [e2] at q'
  exact b x mx (by rw [e2]; simpa [dw] using q')
 ·refine .inr (dr d x.2.2 q3 ?_ q4)
  unfold PySem.valueAt
  rw [hX (i:=j) (x:=(dw x.1,x.2.2)) (by simp [q1]) (by rw [q2]; simp [dw]) (fun j' y hj hy=>?_)]
  ·rfl
  ·simp only [List.getElem?_map,Option.map_eq_some_iff] at hy
   refine aB hy fun z hz e_4=>?_; clear hy; subst e_4
   refine eW (X.ints hi z (List.mem_of_getElem? hz)) fun j2 t zz e2=>?_
   refine decide_eq_false fun q'=>q7 j' z hj hz ?_
   rw [e2] at q' ⊢
   simpa [dw] using q'
end
section
variable {prog:Program} {w:World} {A:Around} {E:Value→Shared→Prop} {s:Shared} {g:Heap} {d:Addr} {es:List (PyData×PyData)} {k:PyData} {v:Value}
theorem jw {Q:Bool→Shared→Prop} (D:DictAt w s.heap g d es) (kg:∀ b o,g.get? b=some o→s.heap.get? b=some o) (ok:dj k es=true) (r:Rd g v k) (hu:A.units + 200 < cLine) (hd:(d == sysModules)=false)
  (h:∀ tk,Q (findKey k es).isSome { s with toks:=tk }):wpAny (model prog w) A (contains (.ref d) v) Q E s:=by
 rcases D.face (prog:=prog) kg ok r hu with ⟨a,xs,rfl,hr,hi,hm,X,nd,ht,_⟩ | ⟨i,t,xs,rfl,rfl,hm,X,nd,hi⟩
 ·refine @n9 prog w A E s d PyData decPD (ft prog w) a k _ Q hr hi hd hm ?_
  rcases X.atKey (cS (askOk_iff.mp ok).1) with ⟨e1,e2⟩ | ⟨x,p,e1,e2,_⟩
  ·rw [e2]; have:=h (s.toks + fQ k); rw [e1] at this; exact this
  ·rw [e2]; have:=h (s.toks + fQ k); rw [e1] at this; exact this
 ·refine pK (intKind_is prog w i t) hd hm.mapOf ?_
  rcases X.valueAt hi with ⟨e1,e2⟩ | ⟨x,p,e1,e2,_⟩
  ·rw [e2]; have:=h (s.toks + 1); rw [e1] at this; exact this
  ·rw [e2]; have:=h (s.toks + 1); rw [e1] at this; exact this
theorem yi {Q:Value→Shared→Prop} (D:DictAt w s.heap g d es) (kg:∀ b o,g.get? b=some o→s.heap.get? b=some o) (ok:dj k es=true) (r:Rd g v k) (hu:A.units + 200 < cLine) (hd:(d == sysModules)=false)
  (h:∀ tk,Q (.bool (findKey k es).isSome) { s with toks:=tk }):wpAny (model prog w) A (compareOp .In v (.ref d)) Q E s:=by
 show wpAny _ _ (do return .bool (← contains (.ref d) v)) Q E s
 exact wpAny_bind (jw D kg ok r hu hd fun tk=>wpAny_pure (h tk))
theorem sA {Q:Value→Shared→Prop} (D:DictAt w s.heap g d es) (kg:∀ b o,g.get? b=some o→s.heap.get? b=some o) (ok:dj k es=true) (r:Rd g v k) (hu:A.units + 200 < cLine) (hd:(d == sysModules)=false)
  (h:∀ tk,Q (.bool (!(findKey k es).isSome)) { s with toks:=tk }):wpAny (model prog w) A (compareOp .NotIn v (.ref d)) Q E s:=by
 show wpAny _ _ (do return .bool (!(← contains (.ref d) v))) Q E s
 exact wpAny_bind (jw D kg ok r hu hd fun tk=>wpAny_pure (h tk))
theorem pJ {x:PyData} {Q:Value→Shared→Prop} (D:DictAt w s.heap g d es) (kg:∀ b o,g.get? b=some o→s.heap.get? b=some o) (ok:dj k es=true) (r:Rd g v k) (hu:A.units + 200 < cLine) (hx:findKey k es=some x)
  (h:∀ tk val,Rd g val x→Q val { s with toks:=tk }):wpAny (model prog w) A (getItem (.ref d) v) Q E s:=by
 rcases D.face (prog:=prog) kg ok r hu with ⟨a,xs,rfl,hr,hi,hm,X,nd,ht,_⟩ | ⟨i,t,xs,rfl,rfl,hm,X,nd,hi⟩
 ·rcases X.atKey (cS (askOk_iff.mp ok).1) with ⟨e1,e2⟩ | ⟨y,p,e1,e2,e3⟩
  ·rw [hx] at e1; exact sN e1
  ·rw [hx] at e1; induction Option.some.inj e1
   exact @wpAny_getItem_heap prog w PyData decPD (ft prog w) A E s d a k _ p Q hr hi hm e2 (h _ _ e3)
 ·rcases X.valueAt hi with ⟨e1,e2⟩ | ⟨y,p,e1,e2,e3⟩
  ·rw [hx] at e1; exact sN e1
  ·rw [hx] at e1; induction Option.some.inj e1
   exact wpAny_getItem_of (intKind_is prog w i t) hm.mapOf e2 (h _ _ e3)
theorem dY {n:Nat} (h:n≤cB):n≤sizeLine:=by rw [sizeLine_eq]; unfold cB at h; exact zb1 ‹_› rfl
theorem pI {x:PyData} {val:Value} {Q:Unit→Shared→Prop} (D:DictAt w s.heap g d es) (kg:∀ b o,g.get? b=some o→s.heap.get? b=some o) (ok:dj k es=true) (r:Rd g v k) (rx:Rd g val x) (hu:A.units + 200 < cLine) (hl:es.length < cB)
  (h:∀ h' tk,Heap.SameBut d s.heap h'→DictAt w h' g d (putKey k x es)→Q () { s with heap:=h',toks:=tk }):wpAny (model prog w) A (setItem (.ref d) v val) Q E s:=by
 rcases D.face (prog:=prog) kg ok r hu with ⟨a,xs,rfl,hr,hi,hm,X,nd,ht,hkt⟩ | ⟨i,t,xs,rfl,rfl,hm,X,nd,hi⟩
 ·have hlen:xs.length=es.length:=by have:=congrArg List.length X.keys; simpa using this
  refine @wpAny_setItem_heap prog w PyData decPD (ft prog w) A E s d a k _ val Q hr hi hm (fun h' hm' hs'=>?_) (by simp; exact dY (by lia))
  refine h h' _ hs' ?_
  refine rJ hm' fun o ens n ho hxo hd he zz zz=>?_; clear hm'
  refine fq (fB.of_set X nd (askOk_iff.mp ok).1 r rx) fun ys Y nd' c=>?_
  refine (jL o ens n ho hxo hd ?_)
  have key:@storedH PyData decPD (xs.map fun x=>(x.1,dU x.2.1,x.2.2)) k a val=ys.map fun x=>(x.1,dU x.2.1,x.2.2):=by
   rcases c with ⟨c1,c2,c3⟩ | ⟨j,y,c1,c2,c3,c4⟩
   ·have e2:@PySem.atKey PyData decPD (xs.map fun x=>(x.1,dU x.2.1,x.2.2)) k=none:=by
     rcases X.atKey (cS (askOk_iff.mp ok).1) with ⟨_,e2⟩ | ⟨_,_,e1,_⟩
     ·exact e2
     ·rw [c1] at e1; exact nS e1
    rw [@storedH_new PyData decPD _ _ e2,c2]
    simp [dU]
   ·obtain ⟨p,e2⟩:∃ p,@PySem.atKey PyData decPD (xs.map fun x=>(x.1,dU x.2.1,x.2.2)) k=some p:=by
     rcases X.atKey (cS (askOk_iff.mp ok).1) with ⟨e1,_⟩ | ⟨_,p,_,e2,_⟩
     ·rw [e1] at c4; exact fT c4
     ·exact ⟨p,e2⟩
    rw [@storedH_old PyData decPD _ _ _ e2,c3]
    refine lH (fun x=>(x.1,dU x.2.1,x.2.2)) (@putAt PyData decPD k val) (fun zz=>rfl) val (fun y hy=>?_) (fun x hx=>?_) (by rw [X.keys]; exact nd) c1 c2
    ·unfold putAt; exact if_neg hy
    ·unfold putAt; exact if_pos hx
  rw [he,key,List.map_map]
  have ht':=iy (v:=x) (P:=isTup) hkt ht
  have:(ys.map ((@entryOfKey prog w PyData decPD (ft prog w)) ∘ fun x=>(x.1,dU x.2.1,x.2.2)))=ys.map (ib w):=by
   refine List.map_congr_left fun z m=>?_
   refine cu (Y.tups ht' z m) fun b ts e1 e2 zz=>?_
   show (⟨dQ w z.1,.ref (dU z.2.1),z.2.2⟩:DictEntry)=⟨dQ w z.1,z.2.1,z.2.2⟩
   rw [e1]; rfl
  rw [this]
  exact fB.ofX Y nd'
 ·have hlen:xs.length=es.length:=by have:=congrArg List.length X.keys; simpa using this
  refine wpAny_setItem_pairs (intKind_is prog w i t) hm (fun h' hm' hs'=>?_) (by simp; exact dY (by lia))
  refine h h' _ hs' ?_
  refine rJ hm' fun o ens n ho hxo hd hk hp hnd=>?_; clear hm'
  refine fq (fB.of_set X nd (askOk_iff.mp ok).1 (show Rd g (.int i t) (.int i) by simp [Rd]) rx) fun ys Y nd' c=>?_
  refine (jL o ens n ho hxo hd ?_)
  have key:stored (xs.map fun x=>(dw x.1,x.2.2)) i val=ys.map fun x=>(dw x.1,x.2.2):=by
   rcases c with ⟨c1,c2,c3⟩ | ⟨j,y,c1,c2,c3,c4⟩
   ·unfold stored
    rw [if_neg,c2]
    ·simp [dw]
    ·intro hc
     refine aB (List.any_eq_true.mp hc) fun z mz q=>?_
     refine aB (List.mem_map.mp mz) fun x' mx e_5=>?_; subst e_5
     refine eW (X.ints hi x' mx) fun j t' zz e2=>?_
     have:=c3 x' mx
     rw [e2] at this
     have q':dw x'.1=i:=of_decide_eq_true q
     rw [e2] at q'; exact this (by simpa [dw] using q')
   ·unfold stored
    rw [if_pos,c3]
    ·clear hp hk hlen hm hnd
     have hall:=X.ints hi
     have nd2:(xs.map (·.1)).Nodup:=by rw [X.keys]; exact nd
     clear X Y c3
     induction xs generalizing j with
     | nil=>simp at c1
     | cons z zs ih=>
      simp only [List.map_cons] at nd2
      have n':=List.nodup_cons.mp nd2
      induction j using Nat.casesOn with
      | zero=>
       simp at c1; subst c1
       simp only [List.map_cons,List.set_cons_zero]
       rw [if_pos (by rw [c2]; rfl)]
       congr 1
       rw [List.map_map]
       refine List.map_congr_left fun u mu=>?_
       refine eW (hall u (.tail _ mu)) fun j2 t2 zz e2=>?_
       have:u.1≠.int i:=fun e=>n'.1 (c2▸e▸List.mem_map_of_mem (f:=(·.1)) mu)
       show (if dw u.1=i then (dw u.1,val) else (dw u.1,u.2.2))=_
       rw [if_neg]
       rw [e2] at this ⊢
       simpa [dw] using this
      | succ j=>
       simp at c1
       simp only [List.map_cons,List.set_cons_succ]
       rw [ih j c1 (fun u mu=>hall u (.tail _ mu)) n'.2]
       congr 1
       refine eW (hall z (.head _)) fun j2 t2 zz e2=>?_
       have:z.1≠.int i:=fun e=>n'.1 (e▸c2▸List.mem_map_of_mem (f:=(·.1)) (List.mem_of_getElem? c1))
       rw [if_neg]
       rw [e2] at this ⊢
       simpa [dw] using this
    ·refine List.any_eq_true.mpr (m1a2 (dw y.1,y.2.2) (List.mem_map_of_mem (List.mem_of_getElem? c1)) ?_)
     rw [c2]; simp [dw]
  rw [key] at hp
  exact jI hp (fun e m=>hk e (Array.mem_toList_iff.mp m)) Y (iy (v:=x) (P:=isInt) (k:=.int i) rfl hi) nd'
end
noncomputable abbrev StG (G:Gl):=St G.C (dQ G.w) G.base
structure Step (G:Gl) (F:Fm) (ρ:List (Addr×Addr)) (σ:AS) (s:Shared) (ρ':List (Addr×Addr)) (σ':AS) (s':Shared):Prop where
 same:∃ h' tk,s'={ s with heap:=h',toks:=tk }
 pre:de ρ ρ'
 st:StG G F ρ' σ' s'.heap
 grow:bW s.heap (UU F ρ σ) s'.heap (UU F ρ' σ')
 kept:∀ b∈F.gd,∀ o,s.heap.get? b=some o→s'.heap.get? b=some o
section
variable {G:Gl} {F:Fm} {ρ ρ' ρ'':List (Addr×Addr)} {σ σ' σ'':AS} {s s' s'':Shared}
theorem Step.refl (S:StG G F ρ σ s.heap):Step G F ρ σ s ρ σ s:=⟨(bV s.heap s.toks rfl),de.refl _,S,bW.refl _ _,fun zz zz zz e=>e⟩
theorem Step.toks (S:StG G F ρ σ s.heap) (tk:Nat):Step G F ρ σ s ρ σ { s with toks:=tk }:=⟨(bV s.heap tk rfl),de.refl _,S,bW.refl _ _,fun zz zz zz e=>e⟩
theorem Step.trans (a:Step G F ρ σ s ρ' σ' s') (b:Step G F ρ' σ' s' ρ'' σ'' s''):Step G F ρ σ s ρ'' σ'' s'':=by
 refine ⟨?_,a.pre.trans b.pre,b.st,a.grow.trans b.grow,fun x hx o e=>b.kept x hx o (a.kept x hx o e)⟩
 refine bc fun hn=>?_
 refine cG a.same fun h1 t1 e_1=>?_; subst e_1
 refine cG b.same fun h2 t2 e_2=>?_; subst e_2
 refine hn ?_
 exact (bV h2 t2 rfl)
theorem Step.tok (a:Step G F ρ σ s ρ' σ' s') (tk:Nat):Step G F ρ σ s ρ' σ' { s' with toks:=tk }:=a.trans (Step.toks a.st tk)
theorem Step.keeps (O:FmOk G.base F) (S:StG G F ρ σ s.heap) {h':Heap} {tk:Nat} (k:∀ b o,s.heap.get? b=some o→h'.get? b=some o):Step G F ρ σ s ρ σ { s with heap:=h',toks:=tk }:=
 let ⟨S',g⟩:=S.keeps O k
 ⟨(bV h' tk rfl),de.refl _,S',g,fun zz zz o e=>k _ o e⟩
theorem Step.vrel (a:Step G F ρ σ s ρ' σ' s') {v:Value} {x:AV} (r:VRel (gr F ρ σ s.heap) ρ v x):VRel (gr F ρ' σ' s'.heap) ρ' v x:=r.mono a.grow.sub a.pre
theorem Step.vrelAll (a:Step G F ρ σ s ρ' σ' s') {vs:List Value} {xs:List AV} (r:VRelAll (gr F ρ σ s.heap) ρ vs xs):VRelAll (gr F ρ' σ' s'.heap) ρ' vs xs:=r.mono a.grow.sub a.pre
theorem Step.rd (a:Step G F ρ σ s ρ' σ' s') {v:Value} {x:PyData} (r:Rd (gr F ρ σ s.heap) v x):Rd (gr F ρ' σ' s'.heap) v x:=r.mono a.grow.sub
theorem Step.rdAll (a:Step G F ρ σ s ρ' σ' s') {v:List Value} {x:List PyData} (r:RdAll (gr F ρ σ s.heap) v x):RdAll (gr F ρ' σ' s'.heap) v x:=r.mono a.grow.sub
end
noncomputable def A0 (G:Gl) (n:Nat):Prop:=∀ (F:Fm) (e:Expr) (c:E) (σ:AS) (p:AV) (σ':AS) (ρ:List (Addr×Addr)) (s:Shared) (A:Around),FmOk G.base F→CE F.ns F.up e c→ar G.P G.W n c σ=some (p,σ')→StG G F ρ σ s.heap→AOk A n→
 ∀ (Q:Value→Shared→Prop) (E:Value→Shared→Prop),(∀ v s' ρ',Step G F ρ σ s ρ' σ' s'→VRel (gr F ρ' σ' s'.heap) ρ' v p→Q v s')→wpAny (model G.prog G.w) A (eval e F.env) Q E s
noncomputable def tW (G:Gl) (n:Nat):Prop:=∀ (F:Fm) (es:List Expr) (cs:List E) (σ:AS) (ps:List AV) (σ':AS) (ρ:List (Addr×Addr)) (s:Shared) (A:Around) (pos:Pos),FmOk G.base F→lB F.ns F.up es cs→c6 G.P G.W n cs σ=some (ps,σ')→StG G F ρ σ s.heap→AOk A n→
 ∀ (Q:List Value→Shared→Prop) (E:Value→Shared→Prop),(∀ vs s' ρ',Step G F ρ σ s ρ' σ' s'→VRelAll (gr F ρ' σ' s'.heap) ρ' vs ps→Q vs s')→wpAny (model G.prog G.w) A (spliced (backTo pos (starEach es F.env))) Q E s
noncomputable def AY (G:Gl) (n:Nat):Prop:=∀ (F:Fm) (e:Expr) (c:E) (σ:AS) (b:Bool) (σ':AS) (ρ:List (Addr×Addr)) (s:Shared) (A:Around),FmOk G.base F→CE F.ns F.up e c→dg G.P G.W n c σ=some (b,σ')→StG G F ρ σ s.heap→AOk A n→
 ∀ (Q:Bool→Shared→Prop) (E:Value→Shared→Prop),(∀ s' ρ',Step G F ρ σ s ρ' σ' s'→Q b s')→wpAny (model G.prog G.w) A (isTrue e F.env (eval e F.env)) Q E s
noncomputable def A3 (G:Gl) (n:Nat):Prop:=∀ (F:Fm) (f:Nat) (ps:List AV) (σ:AS) (p:AV) (σ':AS) (ρ:List (Addr×Addr)) (s:Shared) (A:Around) (vs:List Value),FmOk G.base F→callF G.P G.W n f ps σ=some (p,σ')→StG G F ρ σ s.heap→AOk A n→VRelAll (gr F ρ σ s.heap) ρ vs ps→
 ∀ (R:Result→Shared→Prop),(∀ v s' ρ',Step G F ρ σ s ρ' σ' s'→VRel (gr F ρ' σ' s'.heap) ρ' v p→R (.ok (.ret v)) s')→codeAny (model G.prog G.w) A (.call (.ref (G.FA f)) ⟨vs,[]⟩) R s
section
variable {G:Gl} {F:Fm} {ρ:List (Addr×Addr)} {σ:AS} {s:Shared} {A:Around} {E:Value→Shared→Prop}
theorem fe {α:Type} {l:List (Str×α)} {i:Nat} {x:Str} {k:α} (nd:(l.map (·.1)).Nodup) (h:l[i]?=some (x,k)):l.lookup x=some k:=dX nd (List.mem_of_getElem? h)
theorem FmOk.kindOf {base:Heap} (O:FmOk base F) {x:Str} {k:NameKind} (h:F.ns.lookup x=some k):F.env.kindOf x=some (x8 k):=by
 unfold Env.kindOf; rw [O.names]; exact lS h
theorem qF (O:FmOk G.base F) (S:StG G F ρ σ s.heap) {i:Nat} {x:Str} {k:NameKind} {v:AV} {Q:Value→Shared→Prop} (hi:F.ns[i]?=some (x,k)) (hk:k=.local∨k=.cell) (hv:σ.loc[i]?=some (some v))
  (h:∀ val,VRel (gr F ρ σ s.heap) ρ val v→Q val s):wpAny (model G.prog G.w) A (loadName F.env x) Q E s:=by
 have hl:=O.kindOf (fe O.nodup hi)
 rcases hk with rfl | rfl
 ·refine aB S.fd.ns fun m hn hm=>?_
  refine aB (hm i x hi v hv) fun val e r=>?_
  exact wpAny_loadName_local O.kind hl hn e (h val r)
 ·refine bc fun hn=>?_
  refine cu (S.fd.cells i x hi) fun c cv e hc r=>?_
  refine aB (r v hv) fun val e_3 r'=>?_; subst e_3
  refine hn ?_
  exact wpAny_loadName_cell O.kind hl e hc (h val r')
theorem xt {n:Nat} {i:Int} {k:Nat} {pos:Pos} {p:AV} {σ':AS} (_O:FmOk G.base F) (he:ar G.P G.W (n + 1) (.int i) σ=some (p,σ')) (S:StG G F ρ σ s.heap) {Q:Value→Shared→Prop}
  (h:∀ v s' ρ',Step G F ρ σ s ρ' σ' s'→VRel (gr F ρ' σ' s'.heap) ρ' v p→Q v s'):wpAny (model G.prog G.w) A (eval (.Constant (.int i) k pos) F.env) Q E s:=by
 obtain ⟨rfl,rfl⟩:=ik he
 exact wpAny_Constant_int (h _ _ _ (Step.toks S _) (by simp [VRel,Rd]))
theorem xp {n:Nat} {x:Str} {k:Nat} {pos:Pos} {p:AV} {σ':AS} (_O:FmOk G.base F) (he:ar G.P G.W (n + 1) (.str x) σ=some (p,σ')) (S:StG G F ρ σ s.heap) {Q:Value→Shared→Prop}
  (h:∀ v s' ρ',Step G F ρ σ s ρ' σ' s'→VRel (gr F ρ' σ' s'.heap) ρ' v p→Q v s'):wpAny (model G.prog G.w) A (eval (.Constant (.str x) k pos) F.env) Q E s:=by
 obtain ⟨rfl,rfl⟩:=ik he
 exact wpAny_Constant_str (h _ _ _ (Step.toks S _) (by simp [VRel,Rd]))
theorem vQ {n:Nat} {b:Bool} {k:Nat} {pos:Pos} {p:AV} {σ':AS} (_O:FmOk G.base F) (he:ar G.P G.W (n + 1) (.bool b) σ=some (p,σ')) (S:StG G F ρ σ s.heap) {Q:Value→Shared→Prop}
  (h:∀ v s' ρ',Step G F ρ σ s ρ' σ' s'→VRel (gr F ρ' σ' s'.heap) ρ' v p→Q v s'):wpAny (model G.prog G.w) A (eval (.Constant (.bool b) k pos) F.env) Q E s:=by
 obtain ⟨rfl,rfl⟩:=ik he
 exact wpAny_Constant_bool (h _ _ _ (Step.refl S) (by simp [VRel,Rd]))
theorem xr {n:Nat} {i:Nat} {x:Str} {k:NameKind} {pos:Pos} {p:AV} {σ':AS} (O:FmOk G.base F) (hi:F.ns[i]?=some (x,k)) (hk:k=.local∨k=.cell) (hd:(x == ("__debug__":Str))=false)
  (he:ar G.P G.W (n + 1) (.loc i) σ=some (p,σ')) (S:StG G F ρ σ s.heap) {Q:Value→Shared→Prop}
  (h:∀ v s' ρ',Step G F ρ σ s ρ' σ' s'→VRel (gr F ρ' σ' s'.heap) ρ' v p→Q v s'):wpAny (model G.prog G.w) A (eval (.Name x pos) F.env) Q E s:=by
 refine bc fun hn=>?_
 refine FQ he fun v hv he=>?_
 obtain ⟨rfl,rfl⟩:=ik he
 refine hn ?_
 exact wpAny_Name (qF O S hi hk hv fun val r=>h _ _ _ (Step.refl S) r) hd
theorem xq {n:Nat} {i:Nat} {x:Str} {pos:Pos} {p:AV} {σ':AS} (O:FmOk G.base F) (hf:F.ns.lookup x=some .free) (hu:F.up[i]?=some (x,.cell)) (hd:(x == ("__debug__":Str))=false) (hc:(x == ("__classdict__":Str))=false)
  (he:ar G.P G.W (n + 1) (.out i) σ=some (p,σ')) (S:StG G F ρ σ s.heap) {Q:Value→Shared→Prop}
  (h:∀ v s' ρ',Step G F ρ σ s ρ' σ' s'→VRel (gr F ρ' σ' s'.heap) ρ' v p→Q v s'):wpAny (model G.prog G.w) A (eval (.Name x pos) F.env) Q E s:=by
 refine bc fun hn=>?_
 refine FQ he fun v hv he=>?_
 obtain ⟨rfl,rfl⟩:=ik he
 refine cu (S.fd.outs i x hf hu) fun c cv e t_4 r=>?_; refine aB t_4 fun o ho hdt=>?_; clear t_4
 refine aB (r v hv) fun val e_5 r'=>?_; subst e_5
 refine hn ?_
 have hl:F.env.kindOf x=some .cell:=O.kindOf hf
 exact wpAny_Name (wpAny_loadName_cell O.kind hl e (m1a2 o ho hdt) (h _ _ _ (Step.refl S) r')) hd
theorem oH (O:FmOk G.base F) (K:GlOk G) (S:StG G F ρ σ s.heap) {x:Str} {v:Value} {p:Pos} {Q:Value→Shared→Prop} (hl:F.ns.lookup x=some .globalImplicit) (hg:G.mg x=some v) (hd:(x == ("__debug__":Str))=false) (h:Q v s):
  wpAny (model G.prog G.w) A (eval (.Name x p) F.env) Q E s:=
 Name_function_global O.kind (O.kindOf hl) (loadGlobal_global (env:=F.env) (by rw [O.glob]; exact K.T.g.keeps S.baseH) hg h) hd
theorem ke (O:FmOk G.base F) (K:GlOk G) (S:StG G F ρ σ s.heap) {x:Str} {v:Value} {p:Pos} {Q:Value→Shared→Prop} (hl:F.ns.lookup x=some .globalImplicit) (hg:G.mg x=none) (hb:bootBuiltins x=some v) (hn:x≠"__name__")
  (hd:(x == ("__debug__":Str))=false) (h:Q v s):wpAny (model G.prog G.w) A (eval (.Name x p) F.env) Q E s:=
 Name_function_global O.kind (O.kindOf hl) (loadGlobal_builtin (env:=F.env) (by rw [O.glob]; exact K.T.g.keeps S.baseH) hg (by rw [O.blt]; exact K.T.b.keeps S.baseH) ((K.T.builtins x hn).trans hb) h) hd
end
end Dg
end
section
open PySem PySem.W PyProof.Rows PySem.Calls PyProof
namespace Dg
section
variable {G:Gl} {F:Fm} {ρ:List (Addr×Addr)} {σ:AS} {s:Shared} {A:Around} {E:Value→Shared→Prop} {n:Nat}
theorem Step.push (O:FmOk G.base F) (S:StG G F ρ σ s.heap) (o:Obj) (tk:Nat):Step G F ρ σ s ρ σ { s with heap:=s.heap.push o,toks:=tk }:=
 Step.keeps O S fun zz zz e=>Heap.get?_push_of_some _ e
theorem tG (_O:FmOk G.base F) (S:StG G F ρ σ s.heap) {o:Obj} (ho:o.isFreed=false):(gr F ρ σ (s.heap.push o)).get? s.heap.objs.size=some o:=
 hideAll_get _ (Heap.get?_push_size _ ho) (S.fresh (Nat.le_refl _))
theorem nh (O:FmOk G.base F) (S:StG G F ρ σ s.heap) {vs:List Value} {xs:List PyData} (r:RdAll (gr F ρ σ s.heap) vs xs):Rd (gr F ρ σ (s.heap.push { cls:=.type "tuple",data:=.seq vs.toArray })) (.ref s.heap.objs.size) (.tuple xs):=by
 simp only [Rd]
 exact (k9 _ _ _ rfl (tG O S rfl) ((Step.push O S _ s.toks).rdAll r))
theorem tf (O:FmOk G.base F) (S:StG G F ρ σ s.heap) {vs:List Value} {xs:List PyData} (r:RdAll (gr F ρ σ s.heap) vs xs):Rd (gr F ρ σ (s.heap.push { cls:=.type "list",data:=.seq vs.toArray })) (.ref s.heap.objs.size) (.list xs):=by
 simp only [Rd]
 exact (k9 _ _ _ rfl (tG O S rfl) ((Step.push O S _ s.toks).rdAll r))
theorem BX {a b:Int} (h:a.natAbs≤cB):IntMulOk a b:=IntMulOk.of_left (intBits_le (by unfold cB at h; exact og ‹_› rfl))
theorem qS {x:PyData} {i:Int} (h:tC x=some i):x=.int i:=by cases x <;> first | (induction Option.some.inj h; rfl) | exact nS h
theorem mS {x:PyData} {xs:List PyData} (h:sV x=some xs):x=.tuple xs:=by cases x <;> first | (induction Option.some.inj h; rfl) | exact nS h
theorem wP (S:StG G F ρ σ s.heap) {bo:BO} {x y:Int} {z:PyData} (hz:CY bo x y=some z) {t u:Tok} {Q:Value→Shared→Prop} (h:∀ val s',Step G F ρ σ s ρ σ s'→Rd (gr F ρ σ s'.heap) val z→Q val s'):
  wpAny (model G.prog G.w) A (binaryOp (zE bo) (.int x t) (.int y u)) Q E s:=by
 cases bo with
 | add=>induction Option.some.inj hz; exact P.add_int (h _ _ (Step.toks S _) ⟨_,rfl⟩)
 | sub=>induction Option.some.inj hz; exact P.sub_int (h _ _ (Step.toks S _) ⟨_,rfl⟩)
 | mul=>exact dM hz fun hl hz=>by induction Option.some.inj hz; exact P.mul_int (h _ _ (Step.toks S _) ⟨_,rfl⟩) (BX hl.1)
 | fdiv=>exact dM hz fun hl hz=>by induction Option.some.inj hz; exact floordiv_int hl.1 (h _ _ (Step.toks S _) ⟨_,rfl⟩) (.inl (PyProof.noPylong_small (by have:=hl.2; unfold cB at this; exact og ‹_› rfl)))
 | mod=>exact z8 hz fun hl hz=>by induction Option.some.inj hz; exact mod_int' hl (h _ _ (Step.toks S _) ⟨_,rfl⟩)
 | pow=>
  refine dM hz fun hl hz=>?_
  induction Option.some.inj hz
  refine gD hl fun e_1 h0 h1=>?_; clear hl; subst e_1
  exact pow_int_small h0 (by lia) (by decide) (h _ _ (Step.toks S _) ⟨_,rfl⟩)
theorem wQ (O:FmOk G.base F) (S:StG G F ρ σ s.heap) {op:Operator} {bo:BO} (hop:kH op bo) {x y z:PyData} (hz:binD bo x y=some z) {v u:Value} (rv:Rd (gr F ρ σ s.heap) v x) (ru:Rd (gr F ρ σ s.heap) u y)
  {Q:Value→Shared→Prop} (h:∀ val s',Step G F ρ σ s ρ σ s'→Rd (gr F ρ σ s'.heap) val z→Q val s'):wpAny (model G.prog G.w) A (binaryOp op v u) Q E s:=by
 cases hop
 unfold binD at hz
 induction ex:tC x using Option.casesOn with
 | some i=>
  rw [ex] at hz
  refine FT hz fun j ey hz=>?_
  have hx:=qS ex
  have hy:=qS ey
  subst hx
  subst hy
  obtain ⟨t,rfl⟩:=rv
  obtain ⟨u,rfl⟩:=ru
  exact wP S hz h
 | none=>
  rw [ex] at hz
  refine Ds hz fun xs ex hz=>?_
  refine Ds hz fun ys ey hz=>?_
  refine dM hz fun hl hq=>?_
  induction Option.some.inj hq
  clear hz
  have hx:=mS ex
  have hy:=mS ey
  subst hx
  subst hy
  have hb:bo=.add:=by cases bo <;> first | rfl | cases hl.1
  subst hb
  replace hl:=hl.2
  have rv':=rv
  have ru':=ru
  refine eV rv fun a vs na e_2 e1 r1=>?_; clear rv; subst e_2
  refine eV ru fun b us nb e_3 e2 r2=>?_; clear ru; subst e_3
  have g1:=S.grH _ _ e1
  have g2:=S.grH _ _ e2
  have k1:=r1.length
  have k2:=r2.length
  by_cases c1:vs.isEmpty=true
  ·refine concat_meets (m1a2 _ g1 rfl) (m1a2 _ g2 rfl) noFill_tuple_add seq_tuple_add PySem.F.slot_tuple_add PySem.F.entry_tuple_add (PySem.F.args_tuple_add_2 _ _) (tuple_addW0 a b vs us na nb none none #[] #[] c1) (cw g1 g2 ?_)
   have:vs=#[]:=by simpa using c1
   subst this
   have:xs=[]:=by simpa using k1.symm
   subst this
   exact h _ _ (Step.refl S) (by simpa using ru')
  ·by_cases c2:us.isEmpty=true
   ·refine concat_meets (m1a2 _ g1 rfl) (m1a2 _ g2 rfl) noFill_tuple_add seq_tuple_add PySem.F.slot_tuple_add PySem.F.entry_tuple_add (PySem.F.args_tuple_add_2 _ _) (tuple_addW1 a b vs us na nb none none #[] #[] c1 c2) (cw g1 g2 ?_)
    have:us=#[]:=by simpa using c2
    subst this
    have:ys=[]:=by simpa using k2.symm
    subst this
    exact h _ _ (Step.refl S) (by simpa using rv')
   ·refine concat_meets (m1a2 _ g1 rfl) (m1a2 _ g2 rfl) noFill_tuple_add seq_tuple_add PySem.F.slot_tuple_add PySem.F.entry_tuple_add (PySem.F.args_tuple_add_2 _ _) (tuple_addW2 a b vs us na nb none none #[] #[] c1 c2 (dY (by simp at k1 k2; lia))) (cw g1 g2 ?_)
    have e:vs++us=(vs.toList++us.toList).toArray:=by simp
    rw [e]
    exact h _ _ (Step.push O S _ _) (nh O S (r1.append r2))
theorem lQ (S:StG G F ρ σ s.heap) {op:Operator} {bo:BO} (hop:kH op bo) (hb:bo=.add∨bo=.sub) {x y:Int} {z:PyData} (hz:binD bo (.int x) (.int y)=some z) {t u:Tok}
  {Q:Value→Shared→Prop} (h:∀ val s',Step G F ρ σ s ρ σ s'→Rd (gr F ρ σ s'.heap) val z→Q val s'):wpAny (model G.prog G.w) A (inplaceOp op (.int x t) (.int y u)) Q E s:=by
 rcases hb with rfl | rfl <;> cases hop <;> induction Option.some.inj hz
 ·exact P.iadd_int (h _ _ (Step.toks S _) ⟨_,rfl⟩)
 ·exact P.isub_int (h _ _ (Step.toks S _) ⟨_,rfl⟩)
theorem St.allocGrow {C:Addr} {hs:PyData→Int} {base:Heap} {h h':Heap} (S:St C hs base F ρ σ h) {a:Addr×Addr} {o:AO} (k:∀ b x,h.get? b=some x→h'.get? b=some x) (hnew:∀ x∈liveOf a o,h.objs.size≤x):
  bW h (UU F ρ σ) h' (UU F (ρ++[a]) (σ.alloc o).2):=by
 have u:UU F (ρ++[a]) (σ.alloc o).2=live ρ σ.heap++liveOf a o++F.fr:=by
  show live (ρ++[a]) (σ.heap++[o])++_=_; rw [gH _ _ S.len]
 have hno:∀ b x,h.get? b=some x→b ∉ liveOf a o:=fun b x e m=>by rw [cp (hnew b m)] at e; exact nS e
 exact fun b x e n=>⟨k b x e,fun m=>by
  rw [u] at m
  rcases List.mem_append.mp m with m | m
  ·rcases List.mem_append.mp m with m | m
   ·exact n (List.mem_append_left _ m)
   ·exact hno b x e m
  ·exact n (List.mem_append_right _ m)⟩
theorem newList (O:FmOk G.base F) (S:StG G F ρ σ s.heap) {vs:List Value} {xs:List PyData} (r:RdAll (gr F ρ σ s.heap) vs xs) (tk:Nat):
  ∃ ρ',Step G F ρ σ s ρ' (σ.alloc (.list xs)).2 { s with heap:=s.heap.push { cls:=.type "list",data:=.seq vs.toArray },toks:=tk }∧∀ g,VRel g ρ' (.ref s.heap.objs.size) (σ.alloc (.list xs)).1:=by
 have hk':∀ b x,s.heap.get? b=some x→(s.heap.push { cls:=.type "list",data:=.seq vs.toArray }).get? b=some x:=fun zz zz e=>Heap.get?_push_of_some _ e
 have hnew:(s.heap.push { cls:=.type "list",data:=.seq vs.toArray }).get? s.heap.objs.size=some { cls:=.type "list",data:=.seq vs.toArray }:=Heap.get?_push_size _ rfl
 have gg:=St.allocGrow (F:=F) (a:=(s.heap.objs.size,0)) (o:=.list xs) S hk' (fun x m=>by simp [liveOf] at m; subst m; exact Nat.le_refl _)
 have al:=S.alloc (a:=(s.heap.objs.size,0)) (o:=.list xs) O hk' (fun x m=>by simp [liveOf] at m; subst m; exact ⟨Nat.le_refl _,⟨_,hnew⟩⟩) (by simp [liveOf]) (m1a2 _ ⟨0,hnew⟩ (by simpa using r.mono gg.sub))
 refine (m1a2 (ρ++[(s.heap.objs.size,0)]) ⟨(bV _ _ rfl),de.snoc _ _,al.1,al.2,fun zz zz o e=>hk' _ o e⟩ (fun g=>(m1a2 (s.heap.objs.size,0) ?_ rfl)))
 show (ρ++[_])[σ.heap.length]?=_
 rw [← S.len]; simp
theorem xI (O:FmOk G.base F) (S:StG G F ρ σ s.heap) {k:Nat} {z:PyData} {m:Int} (hk:σ.heap[k]?=some (.list [z])) (h0:0≤m) (h1:m≤cB) {v:Value} {u:Tok} (rv:VRel (gr F ρ σ s.heap) ρ v (.o k))
  {Q:Value→Shared→Prop} (h:∀ val s' ρ',Step G F ρ σ s ρ' (σ.alloc (.list (List.replicate m.toNat z))).2 s'→VRel (gr F ρ' (σ.alloc (.list (List.replicate m.toNat z))).2 s'.heap) ρ' val (σ.alloc (.list (List.replicate m.toNat z))).1→Q val s'):
  wpAny (model G.prog G.w) A (binaryOp .Mult v (.int m u)) Q E s:=by
 refine aB rv fun a ea e_4=>?_; clear rv; subst e_4
 refine aB (S.objs k a _ ea hk) fun vs t_5 r=>?_; obtain ⟨nn,e⟩:=t_5
 have hl1:=r.length
 have hv:∃ v,vs=#[v]∧Rd (gr F ρ σ s.heap) v z:=by
  refine cu r fun v t e1 e2 e3=>?_; clear r
  subst e3
  exact (m1a2 v (by apply Array.toList_inj.mp; simpa using e1) e2)
 refine aB hv fun v e_6 rz=>?_; clear hv; subst e_6
 refine wpAny_binaryOp_repeat_ref (T:="list") (U:="int") (by decide) (m1a2 _ e rfl) (fun s'=>typeIs_int s' m u) noFill_list_mul PySem.F.fills_int_mul PySem.F.slot_int_rmul repeat_list PySem.F.slot_int_index.lookup
  (call_meets PySem.F.slot_int_rmul (typeIs_int s m u) PySem.F.entry_int_rmul (PySem.F.args_int_rmul_2 _ _) (int___rmul___int_list m u a.1 #[v] nn)
   (fS e rfl (m1a2 _ e rfl) (call_meets PySem.F.slot_list_mul (m1a2 _ e rfl) PySem.F.entry_list_mul (PySem.F.args_list_mul_2 _ _)
    (AutoListH.list___mul___list_int_3 a.1 #[v] nn m u (by unfold cB at h1; simp [Builtin.List.listFitsIndex]; lia) (by unfold cB at h1; simp; lia) (by unfold cB at h1; simp [Builtin.List.listTooLong,sizeLine]; lia))
    ⟨e,?_⟩)))
 have hfold:∀ (j:Nat) (acc:Array Value),List.foldl (fun x1 x2=>x1++x2) acc (List.replicate j #[v])=acc++(List.replicate j v).toArray:=by
  intro j
  induction j with
  | zero=>intro acc; simp
  | succ j ih=>intro acc; rw [List.replicate_succ,List.foldl_cons,ih]; apply Array.toList_inj.mp; simp [List.replicate_succ]
 have hc:(#[v]:Array Value).isEmpty=false:=rfl
 simp only [hc,Bool.false_eq_true,if_false,hfold]
 have hd:(#[]:Array Value)++(List.replicate m.toNat v).toArray=(List.replicate m.toNat v).toArray:=by simp
 rw [hd]
 have rr:RdAll (gr F ρ σ s.heap) (List.replicate m.toNat v) (List.replicate m.toNat z):=by
  refine RdAll.of_get (by simp) fun i y x hy hx=>?_
  simp [List.getElem?_replicate] at hy hx
  obtain ⟨_,rfl⟩:=hy
  obtain ⟨_,rfl⟩:=hx
  exact rz
 refine aB (newList O S rr s.toks) fun ρ' st vr=>?_
 exact h _ _ _ st (vr _)
end
section
variable {G:Gl} {F:Fm} {ρ:List (Addr×Addr)} {σ:AS} {s:Shared} {A:Around} {E:Value→Shared→Prop} {n:Nat}
theorem iT {k:Nat} (h:k≤dz):k≤sizeLine:=by rw [sizeLine_eq]; unfold dz at h; exact zb1 ‹_› rfl
theorem fN (S:StG G F ρ σ s.heap) {v:Value} {a:AV} {x:PyData} (rv:VRel (gr F ρ σ s.heap) ρ v a) (h:σ.look a=some x):∃ as,Reads s.heap v x as:=by
 induction a using AV.casesOn with
 | d y=>
  induction Option.some.inj h
  exact Rd.reads S.grH rv
 | o k=>
  refine aB rv fun p ep e_1=>?_; clear rv; subst e_1
  refine yP h fun xs hk h=>?_
  induction Option.some.inj h
  refine aB (S.objs k p _ ep hk) fun vs t_2 r=>?_; obtain ⟨nn,e⟩:=t_2
  obtain ⟨as,q⟩:=RdAll.reads S.grH r
  exact ⟨_,.list e rfl rfl q⟩
theorem eF (S:StG G F ρ σ s.heap) {v:Value} {a:AV} {xs:List PyData} (rv:VRel (gr F ρ σ s.heap) ρ v a) (h:σ.look a=some (.list xs)):
  ∃ p vs,v=.ref p∧s.heap.PlainList p vs∧RdAll (gr F ρ σ s.heap) vs.toList xs:=by
 induction a using AV.casesOn with
 | d y=>
  cases h
  refine eV rv fun p vs nn e_3 e r=>?_; clear rv; subst e_3
  exact (dr p vs rfl ⟨nn,S.grH _ _ e⟩ r)
 | o k=>
  refine aB rv fun p ep e_4=>?_; clear rv; subst e_4
  refine yP h fun ys hk h=>?_
  cases h
  refine aB (S.objs k p _ ep hk) fun vs e r=>?_
  exact (dr p.1 vs rfl e r)
theorem uy {a b:Nat} (h:b≤20):min a b≤20:=Nat.le_trans (Nat.min_le_right _ _) h
theorem iE (S:StG G F ρ σ s.heap) {k:Nat} {v:Value} {es:List (PyData×PyData)} (hk:σ.heap[k]?=some (.dict es)) (rv:VRel (gr F ρ σ s.heap) ρ v (.o k)):
  ∃ p,ρ[k]?=some p∧v=.ref p.1∧DictAt G.w s.heap (gr F ρ σ s.heap) p.1 es:=by
 refine aB rv fun p ep e_5=>?_; clear rv; subst e_5
 exact (dT p ep rfl (S.objs k p _ ep hk))
theorem ka (S:StG G F ρ σ s.heap) {k:Nat} {v:Value} {xs:List PyData} (hk:σ.heap[k]?=some (.list xs)) (rv:VRel (gr F ρ σ s.heap) ρ v (.o k)):
  ∃ p vs,ρ[k]?=some p∧v=.ref p.1∧s.heap.PlainList p.1 vs∧RdAll (gr F ρ σ s.heap) vs.toList xs:=by
 refine aB rv fun p ep e_6=>?_; clear rv; subst e_6
 refine aB (S.objs k p _ ep hk) fun vs e r=>?_
 exact (m2a4 p vs ep rfl e r)
theorem jJ (K:GlOk G) (S:StG G F ρ σ s.heap) {k:Nat} {p:Addr×Addr} {o:AO} (ep:ρ[k]?=some p) (hk:σ.heap[k]?=some o) (ho:p.1∈liveOf p o):(p.1 == sysModules)=false:=by
 have hm:p.1∈UU F ρ σ:=List.mem_append_left _ (cA ep hk ho)
 have hb:=(S.ex _ hm).1
 have:=K.low
 refine beq_eq_false_iff_ne.mpr fun e=>?_
 rw [e] at hb
 exact absurd hb (Nat.not_le.mpr this)
theorem wh {σ:AS} {k:Nat} {xs:List PyData} (h:σ.heap[k]?=some (.list xs)):σ.look (.o k)=some (.list xs):=by
 show (match σ.heap[k]? with | some (.list xs)=>some (PyData.list xs) | _=>none)=_
 rw [h]
theorem yR (K:GlOk G) (S:StG G F ρ σ s.heap) (hA:AOk A n) {b:AV} {x:PyData} {r:Bool} {v u:Value} (rx:Rd (gr F ρ σ s.heap) v x) (ru:VRel (gr F ρ σ s.heap) ρ u b) (hi:isIn σ x b=some r) {op':CmpOp} {f:Bool→Bool} {Q:Value→Shared→Prop}
  (ho:(op'=.In∧f=id)∨(op'=.NotIn∧f=not)) (h:∀ s',Step G F ρ σ s ρ σ s'→Q (.bool (f r)) s'):wpAny (model G.prog G.w) A (compareOp op' v u) Q E s:=by
 induction b using AV.casesOn with
 | d y=>exact nS hi
 | o k=>
  refine EU hi (fun es hk hi=>?_) fun xs hk hi=>?_
  ·refine dM hi fun ok hi=>?_
   induction Option.some.inj hi
   refine fq (iE S hk ru) fun p ep e_7 D=>?_; subst e_7
   have hd:=jJ K S ep hk (by simp [liveOf])
   rcases ho with ⟨rfl,rfl⟩ | ⟨rfl,rfl⟩
   ·exact yi D S.grH ok rx hA.line hd fun tk=>h _ (Step.toks S tk)
   ·exact sA D S.grH ok rx hA.line hd fun tk=>h _ (Step.toks S tk)
  ·refine dM hi fun ok hi=>?_
   induction Option.some.inj hi
   simp only [Bool.and_eq_true] at ok
   obtain ⟨as,rc⟩:=fN S ru (x:=.list xs) (wh hk)
   obtain ⟨bs,rx'⟩:=Rd.reads S.grH rx
   have k1:=iF.mp ok.1
   have k2:A.units + 1 + min (PyData.depthAll xs) x.depth < cLine:=by have:=hA.line; have:=uy (a:=PyData.depthAll xs) k1.2; lia
   rcases ho with ⟨rfl,rfl⟩ | ⟨rfl,rfl⟩
   ·exact SeqAt.in_list_reads rc rx' (c5 ok.2) (fp k1.1) k2 (h _ (Step.refl S))
   ·exact SeqAt.notIn_list_reads rc rx' (c5 ok.2) (fp k1.1) k2 (h _ (Step.refl S))
theorem Cv (S:StG G F ρ σ s.heap) (hA:AOk A n) {a b:AV} {x y:PyData} {v u:Value} (rv:VRel (gr F ρ σ s.heap) ρ v a) (ru:VRel (gr F ρ σ s.heap) ρ u b) (h1:σ.look a=some x) (h2:σ.look b=some y) (ok:(ez x && ez y)=true)
  {Q:Value→Shared→Prop} (h:Q (.bool (PyData.eqv x y)) s):wpAny (model G.prog G.w) A (compareOp .Eq v u) Q E s:=by
 have hu:A.units + 64 < cLine:=by have:=hA.line; lia
 simp only [Bool.and_eq_true] at ok
 have k1:=iF.mp ok.1
 have k2:=iF.mp ok.2
 obtain ⟨as,r1⟩:=fN S rv h1
 obtain ⟨bs,r2⟩:=fN S ru h2
 exact eq_dataH r1 r2 (dA k1.1 (by lia)) (dA k2.1 (by lia)) hu h
theorem BW (S:StG G F ρ σ s.heap) (hA:AOk A n) {a b:AV} {x y:PyData} {v u:Value} (rv:VRel (gr F ρ σ s.heap) ρ v a) (ru:VRel (gr F ρ σ s.heap) ρ u b) (h1:σ.look a=some x) (h2:σ.look b=some y) (ok:(ez x && ez y)=true)
  {Q:Value→Shared→Prop} (h:Q (.bool (!PyData.eqv x y)) s):wpAny (model G.prog G.w) A (compareOp .NotEq v u) Q E s:=by
 have hu:A.units + 64 < cLine:=by have:=hA.line; lia
 simp only [Bool.and_eq_true] at ok
 have k1:=iF.mp ok.1
 have k2:=iF.mp ok.2
 obtain ⟨as,r1⟩:=fN S rv h1
 obtain ⟨bs,r2⟩:=fN S ru h2
 exact ne_dataH r1 r2 (dA k1.1 (by lia)) (dA k2.1 (by lia)) hu h
theorem wL {op:CmpOp} (h:eK op .eq):op=.Eq:=h
theorem wF {op:CmpOp} (h:eK op .ne):op=.NotEq:=h
theorem wI {op:CmpOp} (h:eK op .isin):op=.In:=h
theorem qZ {op:CmpOp} (h:eK op .notin):op=.NotIn:=h
theorem wG {op:CmpOp} (h:eK op .lt):op=.Lt:=h
theorem wH {op:CmpOp} (h:eK op .le):op=.LtE:=h
theorem wJ {op:CmpOp} (h:eK op .gt):op=.Gt:=h
theorem wK {op:CmpOp} (h:eK op .ge):op=.GtE:=h
theorem nN (K:GlOk G) (S:StG G F ρ σ s.heap) (hA:AOk A n) {op:CmpOp} {co:CO} (hop:eK op co) {a b:AV} {r:Bool} (hr:cmpV σ co a b=some r) {v u:Value} (rv:VRel (gr F ρ σ s.heap) ρ v a) (ru:VRel (gr F ρ σ s.heap) ρ u b)
  {Q:Value→Shared→Prop} (h:∀ s',Step G F ρ σ s ρ σ s'→Q (.bool r) s'):wpAny (model G.prog G.w) A (compareOp op v u) Q E s:=by
 have R:=Step.refl S
 cases co with
 | eq=>exact Ci hr fun x y h1 h2 hq=>dM hq fun ok hq=>by induction Option.some.inj hq; rw [wL hop]; exact Cv S hA rv ru h1 h2 ok (h _ R)
 | ne=>exact Ci hr fun x y h1 h2 hq=>dM hq fun ok hq=>by induction Option.some.inj hq; rw [wF hop]; exact BW S hA rv ru h1 h2 ok (h _ R)
 | isin=>exact Cj hr fun x e hq=>by subst e; rw [wI hop]; exact yR K S hA rv ru hq (.inl ⟨rfl,rfl⟩) h
 | notin=>exact Cj hr fun x e hq=>by subst e; obtain ⟨r',hr',rfl⟩:=Option.map_eq_some_iff.mp hq; rw [qZ hop]; exact yR K S hA rv ru hr' (.inr ⟨rfl,rfl⟩) h
 | lt=>exact xT hr fun x y e1 e2 hq=>by subst e1; subst e2; obtain ⟨t,rfl⟩:=rv; obtain ⟨t',rfl⟩:=ru; cases (Option.some.inj hq:decide (x < y)=r); rw [wG hop]; exact P.lt_int (h _ R)
 | le=>exact xT hr fun x y e1 e2 hq=>by subst e1; subst e2; obtain ⟨t,rfl⟩:=rv; obtain ⟨t',rfl⟩:=ru; cases (Option.some.inj hq:decide (x≤y)=r); rw [wH hop]; exact P.le_int (h _ R)
 | gt=>exact xT hr fun x y e1 e2 hq=>by subst e1; subst e2; obtain ⟨t,rfl⟩:=rv; obtain ⟨t',rfl⟩:=ru; cases (Option.some.inj hq:decide (x > y)=r); rw [wJ hop]; exact P.gt_int (h _ R)
 | ge=>exact xT hr fun x y e1 e2 hq=>by subst e1; subst e2; obtain ⟨t,rfl⟩:=rv; obtain ⟨t',rfl⟩:=ru; cases (Option.some.inj hq:decide (x ≥ y)=r); rw [wK hop]; exact P.ge_int (h _ R)
theorem vu (S:StG G F ρ σ s.heap) {a:AV} {r:Bool} (hr:truthV σ a=some r) {v:Value} (rv:VRel (gr F ρ σ s.heap) ρ v a) {Q:Bool→Shared→Prop} (h:∀ s',Step G F ρ σ s ρ σ s'→Q r s'):
  wpAny (model G.prog G.w) A (truthy v) Q E s:=by
 refine t9 hr (fun e=>?_) fun xs hl hb e=>?_
 ·subst e
  cases rv
  exact wpAny_truthy_bool (h _ (Step.refl S))
 ·subst e
  refine cu (eF S rv hl) fun p vs e_9 hp ra=>?_; subst e_9
  have e:vs.size=xs.length:=ra.length
  refine wpAny_truthy_list hp.isList (by unfold dz at hb; lia) ?_
  have:(!vs.isEmpty)=(!xs.isEmpty):=by
   induction xs using List.casesOn with
   | nil=>rw [Array.isEmpty_iff_size_eq_zero.mpr e]; rfl
   | cons x xs=>
    have:vs.isEmpty=false:=decide_eq_false (by rw [e]; exact Nat.succ_ne_zero _)
    rw [this]; rfl
  rw [this]
  exact h _ (Step.toks S _)
end
section
variable {G:Gl} {F:Fm} {ρ:List (Addr×Addr)} {σ:AS} {s:Shared} {A:Around} {E:Value→Shared→Prop} {n:Nat}
theorem nz {xs:List PyData} {i:Int} {x:PyData} (h:itemAt xs i=some x):xs.length≤dz∧∃ k,k < xs.length∧xs[k]?=some x∧((0≤i∧k=i.toNat)∨(i < 0∧0≤i + xs.length∧k=(i + xs.length).toNat)):=by
 unfold itemAt at h
 refine dM h fun hb h=>?_
 refine ⟨hb,?_⟩
 split at h
 ·rename_i h0
  exact (dT i.toNat ((List.getElem?_eq_some_iff.mp h).1) h (.inl ⟨h0,rfl⟩))
 ·split at h
  ·rename_i h0 h1
   exact (dT _ ((List.getElem?_eq_some_iff.mp h).1) h (.inr (cw (by exact ze ‹_›) h1 rfl)))
  ·exact nS h
theorem fC {k:Int} {n:Nat} (h0:0≤k) (h1:k < n):seqIndex? k n=some k.toNat:=by
 unfold seqIndex?
 have h:¬ k < 0:=by exact Bo ‹_›
 simp only [h,if_false]
 rw [if_pos (by simp only [Bool.and_eq_true,decide_eq_true_eq]; exact ⟨‹_›,‹_›⟩)]
theorem rO (S:StG G F ρ σ s.heap) {xs:List PyData} {i:Int} {x:PyData} (h:itemAt xs i=some x) {v:Value} {t:Tok} (rv:Rd (gr F ρ σ s.heap) v (.tuple xs)) {Q:Value→Shared→Prop} (hq:∀ val,Rd (gr F ρ σ s.heap) val x→Q val s):
  wpAny (model G.prog G.w) A (getItem v (.int i t)) Q E s:=by
 obtain ⟨hb,t_1⟩:=nz h; refine fq t_1 fun k hk hx hc=>?_
 refine eV rv fun p vs nn e_2 e r=>?_; clear rv; subst e_2
 refine aB (r.get hx) fun val hv rx=>?_
 have hl:vs.size=xs.length:=by simpa using r.length
 unfold dz at hb
 refine P.getItem_tuple (S.grH _ _ e) (k:=k) (y:=val) (by lia) (by lia) ?_ (by simpa using hv) (hq val rx)
 rw [hl]
 rcases hc with ⟨h0,rfl⟩ | ⟨h0,h1,rfl⟩
 ·exact fC h0 (by lia)
 ·exact seqIndex_neg h0 (by lia)
theorem oP {h0:Heap} {p:Addr} {vs:Array Value} {xs:List PyData} (hp:s.heap.PlainList p vs) (r:RdAll h0 vs.toList xs) {i:Int} {x:PyData} (h:itemAt xs i=some x) {t:Tok} {Q:Value→Shared→Prop} (hq:∀ val,Rd h0 val x→Q val s):
  wpAny (model G.prog G.w) A (getItem (.ref p) (.int i t)) Q E s:=by
 obtain ⟨hb,t_3⟩:=nz h; refine fq t_3 fun k hk hx hc=>?_
 refine aB (r.get hx) fun val hv rx=>?_
 have hl:vs.size=xs.length:=by simpa using r.length
 unfold dz at hb
 rcases hc with ⟨h0,rfl⟩ | ⟨h0,h1,rfl⟩
 ·exact wpAny_getItem_list hp.isList h0 (by lia) (by simpa using hv) (hq _ rx)
 ·exact wpAny_getItem_list_neg hp.isList h0 (by lia) (by lia) (by rw [hl]; simpa using hv) (hq _ rx)
theorem gV {p:Addr} {vs:Array Value} (hp:s.heap.PlainList p vs):s.TypeIs (.ref p) "list":=hp.isList.typeIs
theorem rN {v:Value} {xs:List PyData} (S:StG G F ρ σ s.heap) (rv:Rd (gr F ρ σ s.heap) v (.tuple xs)):s.TypeIs v "tuple":=by
 refine eV rv fun p vs nn e_4 e r=>?_; clear rv; subst e_4
 exact (m1a2 _ (S.grH _ _ e) rfl)
theorem ir {p:Addr} {g:Heap} {es:List (PyData×PyData)} (D:DictAt G.w s.heap g p es):s.TypeIs (.ref p) "dict":=by
 refine eV D fun o ens nn e x zz=>?_; clear D
 exact (m1a2 o e x.1)
theorem vI (S:StG G F ρ σ s.heap) (hA:AOk A n) {a:AV} {i r:PyData} (hr:qb σ a i=some r) {v u:Value} (rv:VRel (gr F ρ σ s.heap) ρ v a) (ru:Rd (gr F ρ σ s.heap) u i)
  {Q:Value→Shared→Prop} (h:∀ val s',Step G F ρ σ s ρ σ s'→Rd (gr F ρ σ s'.heap) val r→Q val s'):(∃ T id,s.TypeIs v T∧typeLookup (.type T) "__getitem__"=pure (some (.builtin id)))∧wpAny (model G.prog G.w) A (getItem v u) Q E s:=by
 induction a using AV.casesOn with
 | d y=>
  induction y using PyData.casesOn with
  | list xs=>
   refine Dr hr fun i e hq=>?_
   clear hr; subst e
   refine cu (eF (a:=.d (.list xs)) S rv rfl) fun p vs e_5 hp ra=>?_; subst e_5
   have ru':=ru
   obtain ⟨t,rfl⟩:=ru'
   exact ⟨(g8 _ _ (gV hp) slot_list_getitem.lookup),oP hp ra hq fun val rx=>h val _ (Step.refl S) rx⟩
  | tuple xs=>
   refine Dr hr fun i e hq=>?_
   clear hr; subst e
   have ru':=ru
   obtain ⟨t,rfl⟩:=ru'
   exact ⟨(g8 _ _ (rN S rv) slot_tuple_getitem.lookup),rO S hq rv fun val rx=>h val _ (Step.refl S) rx⟩
  | _=>exact nS hr
 | o k=>
  refine EV hr (fun xs hk hr=>?_) fun es hk hr=>?_
  ·refine Dr hr fun i e hq=>?_
   subst e
   refine cu (eF (a:=.o k) (xs:=xs) S rv (wh hk)) fun p vs e_6 hp ra=>?_; subst e_6
   obtain ⟨t,rfl⟩:=ru
   exact ⟨(g8 _ _ (gV hp) slot_list_getitem.lookup),oP hp ra hq fun val rx=>h val _ (Step.refl S) rx⟩
  ·refine dM hr fun ok hr=>?_
   refine fq (iE S hk rv) fun p ep e_7 D=>?_; subst e_7
   exact ⟨(g8 _ _ (ir D) slot_dict_getitem.lookup),pJ D S.grH ok ru hA.line hr fun tk val rx=>h val _ (Step.toks S tk) rx⟩
theorem Step.listTurn (O:FmOk G.base F) (S:StG G F ρ σ s.heap) {k:Nat} {p:Addr×Addr} {vs:Array Value} {xs ys:List PyData} (ep:ρ[k]?=some p) (hk:σ.heap[k]?=some (.list xs)) (hp:s.heap.PlainList p.1 vs) (f:Array Value→Array Value)
  (r:RdAll (gr F ρ σ s.heap) (f vs).toList ys) (tk:Nat):Step G F ρ σ s ρ (σ.put k (.list ys)) { s with heap:=s.heap.update p.1 (Obj.mapSeq f),toks:=tk }:=by
 obtain ⟨nn,e⟩:=hp
 have hx:Heap.ExtBut p.1 s.heap (s.heap.update p.1 (Obj.mapSeq f)):=(Heap.SameBut.update ..).extBut
 have hn:=IsL.update (n:=nn) e f
 have hcU:p.1∈UU F ρ σ:=List.mem_append_left _ (cA ep hk (by simp [liveOf]))
 have T:=S.ownTurn (k:=k) (a:=p) (o:=.list xs) (o':=.list ys) O ep hk (by simp [liveOf]) rfl hx ⟨_,hn⟩ rfl (m1a2 _ ⟨_,hn⟩ (r.mono (bW.of_turn hx hcU).sub))
 have hnf:=S.notFr (cA ep hk (x:=p.1) (by simp [liveOf]))
 exact ⟨(bV _ _ rfl),de.refl _,T.1,T.2,fun b hb o e=>hx _ o (fun q=>hnf (q▸O.gdFr b hb)) e⟩
theorem Step.dictTurn (O:FmOk G.base F) (S:StG G F ρ σ s.heap) {k:Nat} {p:Addr×Addr} {es es':List (PyData×PyData)} {h':Heap} (ep:ρ[k]?=some p) (hk:σ.heap[k]?=some (.dict es)) (hs:Heap.SameBut p.1 s.heap h')
  (D:DictAt G.w h' (gr F ρ σ s.heap) p.1 es') (tk:Nat):Step G F ρ σ s ρ (σ.put k (.dict es')) { s with heap:=h',toks:=tk }:=by
 have hcU:p.1∈UU F ρ σ:=List.mem_append_left _ (cA ep hk (by simp [liveOf]))
 refine ga D fun o ens nn e x hd D=>?_
 have T:=S.ownTurn (k:=k) (a:=p) (o:=.dict es) (o':=.dict es') O ep hk (by simp [liveOf]) rfl hs.extBut ⟨_,e⟩ rfl (jL o ens nn e x hd (D.mono (bW.of_turn hs.extBut hcU).sub))
 have hnf:=S.notFr (cA ep hk (x:=p.1) (by simp [liveOf]))
 exact ⟨(bV _ _ rfl),de.refl _,T.1,T.2,fun b hb o e=>hs.extBut _ o (fun q=>hnf (q▸O.gdFr b hb)) e⟩
theorem qz {n:Nat} {i:Int} {j:Nat} (h:eP n i=some j):n≤dz∧j < n∧seqIndex? i n=some j∧-(2 ^ 63)≤i∧i < 2 ^ 63:=by
 unfold eP at h
 refine dM h fun hb h=>?_
 refine ⟨hb,?_⟩
 unfold dz at hb
 split at h
 ·rename_i h0
  refine dM h fun h1 h=>?_
  induction Option.some.inj h
  exact (fS (by lia) (fC h0 h1) (by lia) (by lia))
 ·split at h
  ·rename_i h0 h1
   induction Option.some.inj h
   exact (fS (by lia) (seqIndex_neg (by exact ze ‹_›) (by lia)) (by lia) (by lia))
  ·exact nS h
theorem qk {l:Addr} {items:Array Value} {k:Int} {t:Tok} {v:Value} {j:Nat} {Q:Unit→Shared→Prop} (hl:s.heap.PlainList l items) (hs:seqIndex? k items.size=some j) (hj:j < items.size) (h0:-(2 ^ 63)≤k) (h1:k < 2 ^ 63)
  (hQ:Q () { s with heap:=s.heap.update l (Obj.mapSeq (·.setIfInBounds j v)) }):wpAny (model G.prog G.w) A (setItem (.ref l) (.int k t) v) Q E s:=by
 obtain ⟨nn,ho⟩:=id hl
 have hfit:Builtin.List.listFitsIndex k=true:=by
  unfold Builtin.List.listFitsIndex
  simp only [Bool.and_eq_true,decide_eq_true_eq]
  exact ⟨‹_›,‹_›⟩
 unfold setItem
 try with_reducible refine wpAny_holding ?_
 first | refine wpAny_bind (wpAny_pure ?_) | skip
 refine wpAny_bind (wpAny_sequenceKey hl.isList.typeIs (by decide) ?_)
 refine wpAny_bind (wpAny_callSpecial?_slot (name:=Str.ofString "__setitem__") hl.isList.typeIs slot_list_setitem
  (wpAny_call_entry slot_list_setitem hl.isList.typeIs entry_list_setitem ?_ (args_list_setitem _ _ _)))
 show wpAny _ _ (Builtin.List.listSubscript? (.int k t) >>= _) _ _ s
 refine wpAny_bind (wpAny_listSubscript_int hfit ?_)
 have fin:∀ (x:Value),items[j]?=some x→wpAny (model G.prog G.w) A.in1 (setSeqItemAt l j v) (fun zz s'=>Q () s') E s:=fun x zz=>wpAny_setSeqItemAt ho rfl hQ
 have hx':items[j]?=some items[j]:=Array.getElem?_eq_getElem hj
 clear hfit
 by_cases hk:0≤k
 ·obtain ⟨i,rfl⟩:=Int.eq_ofNat_of_zero_le hk
  have:j=i:=by
   by_cases hi:(i:Int) < items.size
   ·have:=fC (n:=items.size) hk hi
    rw [this] at hs; simpa using hs.symm
   ·exfalso
    unfold seqIndex? at hs
    have h:¬ (i:Int) < 0:=by exact Bo ‹_›
    simp only [h,if_false] at hs
    rw [if_neg (by simp only [Bool.and_eq_true,decide_eq_true_eq]; lia)] at hs
    exact nS hs
  subst this
  show wpAny _ _ ((seqItemAt l j >>= fun r=>pure (r.map (j,·))) >>= _) _ _ s
  refine wpAny_bind (wpAny_bind (wpAny_seqItemAt ho rfl (wpAny_pure ?_)))
  rw [hx']
  show wpAny _ _ (setSeqItemAt l j v >>= _) _ _ s
  refine wpAny_bind (wpAny_setSeqItemAt ho rfl ?_)
  first
   | exact wpAny_bind (wpAny_pure (wpAny_pure (m1a2 .none rfl (wpAny_pure hQ))))
   | exact wpAny_pure (m1a2 .none rfl (wpAny_pure hQ))
 ·obtain ⟨i,rfl⟩:∃ i:Nat,k=Int.negSucc i:=by
   cases k with
   | ofNat n=>exact absurd (Int.natCast_nonneg n) hk
   | negSucc n=>exact ⟨n,rfl⟩
  show wpAny _ _ ((Builtin.List.listItems (.ref l) >>= fun xs=>pure ((seqIndex? (Int.negSucc i) xs.size).bind fun i=>xs[i]?.map (i,·))) >>= _) _ _ s
  refine wpAny_bind (wpAny_bind ?_)
  show wpAny _ _ (seqItems? (.ref l) >>= _) _ _ s
  refine wpAny_bind (wpAny_seqItems ho rfl (wpAny_pure (wpAny_pure ?_)))
  rw [hs]
  simp only [Option.bind_some,hx',Option.map_some]
  show wpAny _ _ (setSeqItemAt l j v >>= _) _ _ s
  refine wpAny_bind (wpAny_setSeqItemAt ho rfl ?_)
  first
   | exact wpAny_bind (wpAny_pure (wpAny_pure (m1a2 .none rfl (wpAny_pure hQ))))
   | exact wpAny_pure (m1a2 .none rfl (wpAny_pure hQ))
theorem oy (O:FmOk G.base F) (S:StG G F ρ σ s.heap) (hA:AOk A n) {a:AV} {i x:PyData} {σ':AS} (hr:iY σ a i x=some σ') {v u y:Value} (rv:VRel (gr F ρ σ s.heap) ρ v a) (ru:Rd (gr F ρ σ s.heap) u i) (ry:Rd (gr F ρ σ s.heap) y x)
  {Q:Unit→Shared→Prop} (h:∀ s',Step G F ρ σ s ρ σ' s'→Q () s'):wpAny (model G.prog G.w) A (setItem v u y) Q E s:=by
 induction a using AV.casesOn with
 | d _=>exact nS hr
 | o k=>
  refine EV hr (fun xs hk hr=>?_) fun es hk hr=>?_
  ·refine Dr hr fun m e hr=>?_
   ·subst e
    refine GH hr fun j hj hr=>?_
    ·induction Option.some.inj hr
     refine tZ (ka S hk rv) fun p vs ep e_8 hp ra=>?_; subst e_8
     obtain ⟨t,rfl⟩:=ru
     have hl:vs.size=xs.length:=by simpa using ra.length
     refine dR (qz hj) fun h1 h2 h3 h4 h5=>?_
     refine qk hp (by rw [hl]; exact h3) (by exact zf ‹_› ‹_›) h4 h5 (h _ (Step.listTurn O S ep hk hp _ ?_ s.toks))
     simpa using ra.set ry
  ·refine dM hr fun ok hr=>?_
   induction Option.some.inj hr
   simp only [Bool.and_eq_true,decide_eq_true_eq] at ok
   refine fq (iE S hk rv) fun p ep e_9 D=>?_; subst e_9
   exact pI D S.grH ok.1 ru ry hA.line ok.2 fun h' tk hs D'=>h _ (Step.dictTurn O S ep hk hs D' tk)
end
section
variable {G:Gl} {F:Fm} {ρ:List (Addr×Addr)} {σ:AS} {s:Shared} {A:Around} {E:Value→Shared→Prop} {n:Nat}
theorem eH (O:FmOk G.base F) (S:StG G F ρ σ s.heap) {a:AV} {x:PyData} {σ':AS} (hf:σ.freeze a=some (x,σ')) {v:Value} (rv:VRel (gr F ρ σ s.heap) ρ v a):
  Step G F ρ σ s ρ σ' s∧Rd (gr F ρ σ' s.heap) v x:=by
 induction a using AV.casesOn with
 | d y=>
  refine jn hf ?_
  exact ⟨Step.refl S,rv⟩
 | o k=>
  refine yP hf fun xs hk hf=>?_
  refine jn hf ?_
  refine aB rv fun p ep e_1=>?_; clear rv; subst e_1
  refine gD (S.freeze O ep hk) fun S' g r=>?_
  exact ⟨⟨(bV s.heap s.toks rfl),de.refl _,S',g,fun zz zz zz e=>e⟩,r⟩
theorem fD (O:FmOk G.base F):∀ {as:List AV} {xs:List PyData} {σ σ':AS} {vs:List Value},StG G F ρ σ s.heap→σ.freezeAll as=some (xs,σ')→VRelAll (gr F ρ σ s.heap) ρ vs as→
  Step G F ρ σ s ρ σ' s∧RdAll (gr F ρ σ' s.heap) vs xs
 | [],xs,σ,σ',vs,S,hf,rv=>by
  refine jn hf ?_
  induction vs using List.casesOn with
  | nil=>exact ⟨Step.refl S,by simp [RdAll]⟩
  | cons _ _=>exact rv.elim
 | a :: as,xs,σ,σ',vs,S,hf,rv=>by
  induction vs using List.casesOn with
  | nil=>exact rv.elim
  | cons v vs=>
   refine Bd hf fun x aa h1 hf=>?_
   refine u6 hf fun ys ah h2 hf=>?_
   refine jn hf ?_
   obtain ⟨st1,r1⟩:=eH O S h1 rv.1
   obtain ⟨st2,r2⟩:=fD O st1.st h2 (st1.vrelAll rv.2)
   refine ⟨st1.trans st2,?_⟩
   simp only [RdAll]
   exact (dr v vs rfl (st2.rd r1) r2)
noncomputable def Ba:Expr→Bool
 | .Constant .. | .UnaryOp .. | .Name .. | .Attribute .. | .BinOp .. | .Compare .. | .BoolOp .. | .IfExp .. | .Call .. | .Subscript .. | .Tuple .. | .List .. | .Dict .. | .ListComp ..=>true
 | _=>false
noncomputable def rZ:Dg.E→Bool
 | .not .. | .cmp .. | .cmp2 .. | .conj .. | .ife ..=>false
 | _=>true
noncomputable def Eo:Expr→Bool
 | .UnaryOp .Not _ _ | .Compare .. | .BoolOp .. | .IfExp ..=>false
 | e=>Ba e
inductive CEv (ns up:List (Str×NameKind)) (e:Expr) (c:Dg.E):Prop where
 | plain:Ba e=true→Eo e=true→jO e=false→rZ c=true→CEv ns up e c
 | comp (elt t it:Expr) (ifs:List Expr) (more:List Comprehension) (sc:Scope) (pos:Pos) (celt:Dg.E) (ct:T) (ci:Dg.I) (cifs:List Dg.E) (cmore:List (T×(Nat×List Dg.E)×List Dg.E)):
   e=.ListComp elt (⟨t,it,ifs,0⟩ :: more) sc pos→c=.comp sc.names.length celt ((ct,ci,cifs) :: cmore)→
   CompSc ns sc→CI ns up it ci→CT sc.names t ct→(ci.1=2→dC t=true)→lB sc.names ns ifs cifs→A7 sc.names ns more cmore→CE sc.names ns elt celt→CEv ns up e c
 | not (a:Expr) (ca:Dg.E) (pos:Pos):e=.UnaryOp .Not a pos→c=.not ca→CE ns up a ca→CEv ns up e c
 | cmp (a b:Expr) (ca cb:Dg.E) (op:CmpOp) (co:CO) (pos:Pos):e=.Compare a [op] [b] pos→c=.cmp co ca cb→eK op co→behindInMarks op b=false→CE ns up a ca→CE ns up b cb→CEv ns up e c
 | cmp2 (a b d:Expr) (ca cb cd:Dg.E) (op1 op2:CmpOp) (co1 co2:CO) (pos:Pos):e=.Compare a [op1,op2] [b,d] pos→c=.cmp2 co1 co2 ca cb cd→eK op1 co1→eK op2 co2→behindInMarks op2 d=false→CE ns up a ca→CE ns up b cb→CE ns up d cd→CEv ns up e c
 | conj (a b:Expr) (ca cb:Dg.E) (pos:Pos):e=.BoolOp .And [a,b] pos→c=.conj ca cb→CE ns up a ca→CE ns up b cb→CEv ns up e c
 | ife (t a b:Expr) (ct ca cb:Dg.E) (pos:Pos):e=.IfExp t a b pos→c=.ife ct ca cb→CEv ns up e c
set_option tactic.hygienic true in
theorem CE.view {ns up:List (Str×NameKind)} {e:Expr} {c:Dg.E} (h:CE ns up e c):CEv ns up e c:=by
 refine h.out fun m hm=>?_; clear h
 cases hm with
 | comp h1 h2 h3 h4 h5 h6 h7=>exact .comp _ _ _ _ _ _ _ _ _ _ _ _ rfl rfl h1 (ci h2) h3 h4 (yw h5) (FW h6) h7.ce
 | not h=>exact .not _ _ _ rfl rfl h.ce
 | cmp h1 h2 h3 h4=>exact .cmp _ _ _ _ _ _ _ rfl rfl h1 h2 h3.ce h4.ce
 | cmp2 h1 h2 h3 h4 h5 h6=>exact .cmp2 _ _ _ _ _ _ _ _ _ _ _ rfl rfl h1 h2 h3 h4.ce h5.ce h6.ce
 | conj h1 h2=>exact .conj _ _ _ _ _ rfl rfl h1.ce h2.ce
 | ife h1 h2 h3=>exact .ife _ _ _ _ _ _ _ rfl rfl
 | _=>exact .plain rfl rfl rfl rfl
theorem CE.ok {ns up:List (Str×NameKind)} {e:Expr} {c:Dg.E} (h:CE ns up e c):Ba e=true:=by
 cases h.view with
 | plain h=>exact h
 | comp _ _ _ _ _ _ _ _ _ _ _ _ h=>rw [h]; rfl
 | not _ _ _ h=>rw [h]; rfl
 | cmp _ _ _ _ _ _ _ h=>rw [h]; rfl
 | cmp2 _ _ _ _ _ _ _ _ _ _ _ h=>rw [h]; rfl
 | conj _ _ _ _ _ h=>rw [h]; rfl
 | ife _ _ _ _ _ _ _ h=>rw [h]; rfl
theorem zu {e o:Expr} {a:Str} {p:Pos} {l:Nat} {env:Env}:swapsWith e (some (.Attribute o a p)) l env=pure false:=by cases e <;> rfl
theorem zr {e o i:Expr} {p:Pos} {l:Nat} {env:Env}:swapsWith e (some (.Subscript o i p)) l env=pure false:=by cases e <;> rfl
theorem zt {e:Expr} {l:Nat} {env:Env} (k:Ba e=true) (h:jO e=false):swapsWith e none l env=pure false:=by cases e <;> first | rfl | (cases k; done) | (cases h; done)
theorem C4 {i:Expr} (h:eQ i=false):∀ ov iv new,augStore i ov iv new=(do holding [new,ov,iv] (setItem ov iv new); release [new,ov,iv] []; pure .next):=by cases i <;> first | (intros; rfl) | exact tF h
theorem AU {value:Expr} {attr:Str} {pos:Pos} {env:Env} (k:Ba value=true) (h:cH value=false):eval (.Attribute value attr pos) env=(do
   let o ← eval value env
   standAt pos.atName
   let r ← holding [o] (getAttr o attr true)
   letTemporaryGo value o r
   pure r):=by cases value <;> first | rfl | (exact tF k; done) | (exact tF h; done)
theorem Ad {e:Expr} {env:Env} (k:Ba e=true):∀ x,foldedSetIterable e env x=pure x:=by cases e <;> first | (intro _; rfl) | (exact fT k; done)
theorem Eh {i:Expr} {v u:Value} (h:eQ i=false):subscripted i false v u=operate [v,u] (getItem v u):=by cases i <;> first | rfl | exact tF h
theorem kR {ns up:List (Str×NameKind)} {e:Expr} {c:Dg.E} {env:Env} {es:List Expr} (h:CE ns up e c):starEach (e :: es) env=(false,eval e env) :: starEach es env:=by
 have k:=h.ok
 clear h
 cases e <;> first | rfl | (exact fT k; done)
theorem dG {ns up:List (Str×NameKind)} {env:Env} {pos:Pos}:∀ {es:List Expr} {cs:List Dg.E},lB ns up es cs→backTo pos (starEach es env)=es.map fun e=>(false,eval e env):=fun h=>by
 induction h with
 | nil=>rfl
 | @cons e _ es _ h _ ih=>
  rw [kR h]
  show _ :: backTo pos (starEach es env)=_
  rw [ih]; rfl
theorem fK {ns up:List (Str×NameKind)} {env:Env} {pos:Pos} {es:List Expr} {cs:List Dg.E} (h:lB ns up es cs):(backTo pos (starEach es env)).any (·.1)=false:=by
 rw [dG h]; simp
theorem mV {ns up:List (Str×NameKind)} {env:Env} {pos:Pos} {es:List Expr} {cs:List Dg.E} (h:lB ns up es cs) (hl:es.length≤20):
  ((backTo pos (starEach es env)).all (fun x=>!x.1) && (backToKw pos (keywordEach [] env)).all (fun x=>x.1.isSome) && decide (es.length + ([]:List Keyword).length + (if ([]:List Keyword).isEmpty then 0 else 1) < 30))=true:=by
 rw [dG h]
 show (((es.map fun e=>(false,eval e env)).all fun x=>!x.1) && true && decide (es.length + 0 + 0 < 30))=true
 rw [Bool.and_true,Bool.and_eq_true,List.all_eq_true,decide_eq_true_eq]
 exact ⟨fun x m=>(by refine aB (List.mem_map.mp m) fun e zz e_2=>?_; subst e_2; rfl),by lia⟩
theorem nU {ns up:List (Str×NameKind)} {o:Expr} {c:Dg.E} {a:Str} {env:Env} (h:CE ns up o c) (hc:cH o=false):attributeBase o a env (eval o env)=eval o env:=by
 have k:=h.ok
 clear h
 cases o <;> first | rfl | (exact tF k; done) | (exact tF hc; done)
theorem fy {f:Value} {pos:Pos} (ihEs:tW G n) (O:FmOk G.base F) {es:List Expr} {cs:List Dg.E} {ps:List AV} {σ':AS} (hc:lB F.ns F.up es cs) (he:c6 G.P G.W n cs σ=some (ps,σ')) (S:StG G F ρ σ s.heap) (hA:AOk A n) {Q:Args→Shared→Prop}
  (h:∀ vs s' ρ',Step G F ρ σ s ρ' σ' s'→VRelAll (gr F ρ' σ' s'.heap) ρ' vs ps→Q ⟨vs,[]⟩ s'):wpAny (model G.prog G.w) A (evalArgs f true (backTo pos (starEach es F.env)) []) Q E s:=by
 cases hc with
 | nil=>
  induction n using Nat.casesOn with
  | zero=>exact nS he
  | succ n=>
   obtain ⟨rfl,rfl⟩:=ik he
   exact PySem.evalArgs_none (h [] s ρ (Step.refl S) trivial)
 | cons h1 h2=>
  have k:=ihEs F _ _ σ ps σ' ρ s A pos O (.cons h1 h2) he S hA (fun vs s'=>Q ⟨vs,[]⟩ s') E h
  rw [kR h1] at k ⊢
  exact evalArgs_plain k
theorem wN {x:Str} {p pos:Pos} {f:Value} (ihEs:tW G n) (O:FmOk G.base F) (K:GlOk G) {es:List Expr} {cs:List Dg.E} {ps:List AV} {σ':AS} (hc:lB F.ns F.up es cs) (he:c6 G.P G.W n cs σ=some (ps,σ')) (S:StG G F ρ σ s.heap) (hA:AOk A n)
  (hl:F.ns.lookup x=some .globalImplicit) (hx:x∈(["len","min","max","tuple","sorted","range","enumerate"]:List Str)) (hb:bootBuiltins x=some f) (hf:(∃ id,f=.builtin id)∨∃ id,f=.type id) (hn:x≠"__name__") (hd:(x == ("__debug__":Str))=false)
  {Q:Value→Shared→Prop} (h:∀ vs s' ρ',Step G F ρ σ s ρ' σ' s'→VRelAll (gr F ρ' σ' s'.heap) ρ' vs ps→wpAny (model G.prog G.w) A (call f vs []) Q E s'):
  wpAny (model G.prog G.w) A (eval (.Call (.Name x p) es [] pos) F.env) Q E s:=by
 refine wpAny_Call_Name_kw (ke O K S hl (K.clsNo x hx) hb hn hd ?_)
 rcases hf with ⟨id,rfl⟩ | ⟨id,rfl⟩
 ·refine callWith_builtin (fK hc) (fy ihEs O hc he S hA fun vs s' ρ' st r=>?_)
  simpa using h vs s' ρ' st r
 ·refine PySem.callWith_type (fK hc) (fy ihEs O hc he S hA fun vs s' ρ' st r=>?_)
  simpa using h vs s' ρ' st r
end
structure IH (G:Gl) (n:Nat):Prop where
 K:GlOk G
 e:A0 G n
 es:tW G n
 t:AY G n
 c:A3 G n
noncomputable abbrev da (G:Gl) (F:Fm) (e:Expr) (p:AV) (σ σ':AS) (ρ:List (Addr×Addr)) (s:Shared) (A:Around):Prop:=
 ∀ (Q:Value→Shared→Prop) (E:Value→Shared→Prop),(∀ v s' ρ',Step G F ρ σ s ρ' σ' s'→VRel (gr F ρ' σ' s'.heap) ρ' v p→Q v s')→wpAny (model G.prog G.w) A (eval e F.env) Q E s
noncomputable abbrev rE (G:Gl) (F:Fm) (e:Expr) (b:Bool) (σ σ':AS) (ρ:List (Addr×Addr)) (s:Shared) (A:Around):Prop:=
 ∀ (Q:Bool→Shared→Prop) (E:Value→Shared→Prop),(∀ s' ρ',Step G F ρ σ s ρ' σ' s'→Q b s')→wpAny (model G.prog G.w) A (isTrue e F.env (eval e F.env)) Q E s
theorem AOk.pred {A:Around} {n:Nat} (h:AOk A (n + 1)):AOk A n:=h.less (Nat.le_succ n)
section
variable {G:Gl} {F:Fm} {ρ:List (Addr×Addr)} {σ σ':AS} {s:Shared} {A:Around} {n:Nat} {p:AV} {pos:Pos}
theorem CB (ih:IH G n) (O:FmOk G.base F) {e:Expr} {c:E} (hc:CE F.ns F.up e c) (he:ar G.P G.W (n + 1) (.neg c) σ=some (p,σ')) (S:StG G F ρ σ s.heap) (hA:AOk A (n + 1)):da G F (.UnaryOp .USub e pos) p σ σ' ρ s A:=by
 refine yO he fun i aa h1 he=>?_
 refine jn he ?_
 intro Q E h
 refine wpAny_UnaryOp (ih.e F e c σ _ _ ρ s A O hc h1 S hA.pred _ E fun v ac aJ st r=>?_)
 simp only [VRel,Rd] at r
 obtain ⟨t,rfl⟩:=r
 exact P.neg_int (h _ _ _ (st.tok _) (by simp [VRel,Rd]))
theorem CH (ih:IH G n) (O:FmOk G.base F) {a b:Expr} {ca cb:E} {op:Operator} {bo:BO} (hop:kH op bo) (ha:CE F.ns F.up a ca) (hb:CE F.ns F.up b cb) (he:ar G.P G.W (n + 1) (.bin bo ca cb) σ=some (p,σ')) (S:StG G F ρ σ s.heap) (hA:AOk A (n + 1)):
  da G F (.BinOp a op b pos) p σ σ' ρ s A:=by
 intro Q E h
 refine bc fun hn=>?_
 refine mC he fun x aa h1 he=>?_
 refine mC he fun y ah h2 he=>?_
 refine hn ?_
 refine wpAny_BinOp (ih.e F a ca σ _ _ ρ s A O ha h1 S hA.pred _ E fun v ac aJ st1 r1=>?_)
 refine ih.e F b cb aa _ _ aJ ac A O hb h2 st1.st hA.pred _ E fun u ao aU st2 r2=>?_
 have r1':=st2.vrel r1
 refine yx he (fun k m u e0 e1 e2 hk hm hq=>?_) fun a b u e1 e2 hz hq=>?_
 ·clear he; subst e0; subst e1; subst e2
  have:op=.Mult:=hop
  subst this
  obtain ⟨t,rfl⟩:=r2
  refine xI O st2.st hk hm.1 hm.2 r1' fun val bY fI st3 r3=>?_
  rw [hq] at st3 r3
  exact h _ _ _ (st1.trans (st2.trans st3)) r3
 ·clear he; subst e1; subst e2; cases hq
  exact wQ O st2.st hop hz r1' r2 fun val bY st3 r3=>h _ _ _ (st1.trans (st2.trans st3)) r3
theorem CG (ih:IH G n) (O:FmOk G.base F) {a b:Expr} {ca cb:E} {op:CmpOp} {co:CO} (hop:eK op co) (hm:behindInMarks op b=false) (ha:CE F.ns F.up a ca) (hb:CE F.ns F.up b cb) (he:ar G.P G.W (n + 1) (.cmp co ca cb) σ=some (p,σ')) (S:StG G F ρ σ s.heap) (hA:AOk A (n + 1)):
  da G F (.Compare a [op] [b] pos) p σ σ' ρ s A:=by
 refine bc fun hn=>?_
 refine mC he fun x aa h1 he=>?_
 refine mC he fun y ah h2 he=>?_
 refine Cd he fun r hr he=>?_
 refine hn ?_
 refine jn he ?_
 intro Q E h
 refine wpAny_Compare1 (ih.e F a ca σ _ _ ρ s A O ha h1 S hA.pred _ E fun v ac aJ st1 r1=>?_) hm
 refine ih.e F b cb aa _ _ aJ ac A O hb h2 st1.st hA.pred _ E fun u ao aU st2 r2=>?_
 exact nN ih.K st2.st hA hop hr (st2.vrel r1) r2 fun bY st3=>h _ _ _ (st1.trans (st2.trans st3)) (by simp [VRel,Rd])
theorem BH (ih:IH G n) (O:FmOk G.base F) {a b:Expr} {ca cb:E} {op:CmpOp} {co:CO} {r:Bool} (hop:eK op co) (hm:behindInMarks op b=false) (ha:CE F.ns F.up a ca) (hb:CE F.ns F.up b cb) (he:dg G.P G.W (n + 1) (.cmp co ca cb) σ=some (r,σ')) (S:StG G F ρ σ s.heap) (hA:AOk A (n + 1)):
  rE G F (.Compare a [op] [b] pos) r σ σ' ρ s A:=by
 refine bc fun hn=>?_
 refine mC he fun x aa h1 he=>?_
 refine mC he fun y ah h2 he=>?_
 refine Cd he fun r hr he=>?_
 refine hn ?_
 refine jn he ?_
 intro Q E h
 refine wpAny_isTrue_Compare1 (ih.e F a ca σ _ _ ρ s A O ha h1 S hA.pred _ E fun v ac aJ st1 r1=>?_) hm
 refine ih.e F b cb aa _ _ aJ ac A O hb h2 st1.st hA.pred _ E fun u ao aU st2 r2=>?_
 exact nN ih.K st2.st hA hop hr (st2.vrel r1) r2 fun bY st3=>wpAny_truthy_bool (h _ _ (st1.trans (st2.trans st3)))
theorem CD (ih:IH G n) (O:FmOk G.base F) {t a b:Expr} {ct ca cb:E} (ht:CE F.ns F.up t ct) (ha:CE F.ns F.up a ca) (hb:CE F.ns F.up b cb) (he:ar G.P G.W (n + 1) (.ife ct ca cb) σ=some (p,σ')) (S:StG G F ρ σ s.heap) (hA:AOk A (n + 1)):
  da G F (.IfExp t a b pos) p σ σ' ρ s A:=by
 intro Q E h
 refine xU he (fun aa h1 he=>?_) fun aa h1 he=>?_
 ·refine wpAny_IfExp (ih.t F t ct σ _ _ ρ s A O ht h1 S hA.pred _ E fun ac aJ st1=>?_)
  exact ih.e F a ca aa _ _ aJ ac A O ha he st1.st hA.pred _ E fun u ao aU st2 r2=>h _ _ _ (st1.trans st2) r2
 ·refine wpAny_IfExp (ih.t F t ct σ _ _ ρ s A O ht h1 S hA.pred _ E fun ac aJ st1=>?_)
  exact ih.e F b cb aa _ _ aJ ac A O hb he st1.st hA.pred _ E fun u ao aU st2 r2=>h _ _ _ (st1.trans st2) r2
theorem Cx (ih:IH G n) (O:FmOk G.base F) {a i:Expr} {ca ci:E} (hs:eQ i=false) (ha:CE F.ns F.up a ca) (hi:CE F.ns F.up i ci) (he:ar G.P G.W (n + 1) (.sub ca ci) σ=some (p,σ')) (S:StG G F ρ σ s.heap) (hA:AOk A (n + 1)):
  da G F (.Subscript a i pos) p σ σ' ρ s A:=by
 refine bc fun hn=>?_
 refine mC he fun x aa h1 he=>?_
 refine xS he fun j ah h2 he=>?_
 refine hn ?_
 ·refine Bc he fun r hr he=>?_
  refine jn he ?_
  intro Q E h
  refine Subscript_ (ih.e F a ca σ _ _ ρ s A O ha h1 S hA.pred _ E fun v ac aJ st1 r1=>?_)
  refine ih.e F i ci aa _ _ aJ ac A O hi h2 st1.st hA.pred _ E fun u ao aU st2 r2=>?_
  obtain ⟨⟨T,id,hT,hl⟩,hg⟩:=vI (E:=E) st2.st hA hr (st2.vrel r1) r2 fun val bY st3 r3=>h _ _ _ (st1.trans (st2.trans st3)) r3
  exact tail_any (ops:=[v,u]) hT hl hg (Eh hs)
theorem Af (ih:IH G n) (O:FmOk G.base F) {a b:Expr} {ca cb:E} {q:Pos} (hl:F.ns.lookup ("min":Str)=some .globalImplicit) (ha:CE F.ns F.up a ca) (hb:CE F.ns F.up b cb) (he:ar G.P G.W (n + 1) (.min2 ca cb) σ=some (p,σ')) (S:StG G F ρ σ s.heap) (hA:AOk A (n + 1)):
  da G F (.Call (.Name "min" q) [a,b] [] pos) p σ σ' ρ s A:=by
 refine bc fun hn=>?_
 refine yO he fun x aa h1 he=>?_
 refine yO he fun y ah h2 he=>?_
 refine hn ?_
 refine jn he ?_
 intro Q E h
 refine wpAny_Call_Name_kw (ke O ih.K S hl (ih.K.clsNo _ (by simp)) (by decide +kernel:bootBuiltins "min"=some (.builtin "min")) (by decide) (by decide) ?_)
 have hc:lB F.ns F.up [a,b] [ca,cb]:=.cons ha (.cons hb .nil)
 refine callWith_builtin (fK hc) ?_
 rw [dG hc]
 refine evalArgs_plain (spliced_cons (ih.e F a ca σ _ _ ρ s A O ha h1 S hA.pred _ E fun v ac aJ st1 r1=>?_))
 refine spliced_cons (ih.e F b cb aa _ _ aJ ac A O hb h2 st1.st hA.pred _ E fun u ao aU st2 r2=>spliced_nil ?_)
 have r1':=st2.vrel r1
 simp only [VRel,Rd] at r1' r2
 refine bc fun hn=>?_
 obtain ⟨t,rfl⟩:=r1'
 obtain ⟨t',rfl⟩:=r2
 refine hn ?_
 refine min_two_ints hA.handled fun h' tk hk=>?_
 have st3:=Step.keeps (tk:=tk) O st2.st hk
 refine h _ _ _ (st1.trans (st2.trans st3)) ?_
 by_cases hy:y < x <;> simp [VRel,Rd,hy]
theorem Ai (ih:IH G n) (O:FmOk G.base F) {a b:Expr} {ca cb:E} {q:Pos} (hl:F.ns.lookup ("max":Str)=some .globalImplicit) (ha:CE F.ns F.up a ca) (hb:CE F.ns F.up b cb) (he:ar G.P G.W (n + 1) (.max2 ca cb) σ=some (p,σ')) (S:StG G F ρ σ s.heap) (hA:AOk A (n + 1)):
  da G F (.Call (.Name "max" q) [a,b] [] pos) p σ σ' ρ s A:=by
 refine bc fun hn=>?_
 refine yO he fun x aa h1 he=>?_
 refine yO he fun y ah h2 he=>?_
 refine hn ?_
 refine jn he ?_
 intro Q E h
 refine wpAny_Call_Name_kw (ke O ih.K S hl (ih.K.clsNo _ (by simp)) (by decide +kernel:bootBuiltins "max"=some (.builtin "max")) (by decide) (by decide) ?_)
 have hc:lB F.ns F.up [a,b] [ca,cb]:=.cons ha (.cons hb .nil)
 refine callWith_builtin (fK hc) ?_
 rw [dG hc]
 refine evalArgs_plain (spliced_cons (ih.e F a ca σ _ _ ρ s A O ha h1 S hA.pred _ E fun v ac aJ st1 r1=>?_))
 refine spliced_cons (ih.e F b cb aa _ _ aJ ac A O hb h2 st1.st hA.pred _ E fun u ao aU st2 r2=>spliced_nil ?_)
 have r1':=st2.vrel r1
 simp only [VRel,Rd] at r1' r2
 refine bc fun hn=>?_
 obtain ⟨t,rfl⟩:=r1'
 obtain ⟨t',rfl⟩:=r2
 refine hn ?_
 refine max_two_ints hA.handled fun h' tk hk=>?_
 have st3:=Step.keeps (tk:=tk) O st2.st hk
 refine h _ _ _ (st1.trans (st2.trans st3)) ?_
 by_cases hy:y > x <;> simp [VRel,Rd,hy] <;> simp_all
theorem wO (ih:IH G n) (O:FmOk G.base F) {x:Str} {f:Value} {a:Expr} {ca:E} {cD:AV} {q:Pos} (hl:F.ns.lookup x=some .globalImplicit) (hx:x∈(["len","min","max","tuple","sorted","range","enumerate"]:List Str)) (hb:bootBuiltins x=some f) (hf:(∃ id,f=.builtin id)∨∃ id,f=.type id)
  (hn:x≠"__name__") (hd:(x == ("__debug__":Str))=false) (ha:CE F.ns F.up a ca) (h1:ar G.P G.W n ca σ=some (cD,σ')) (S:StG G F ρ σ s.heap) (hA:AOk A (n + 1)) {Q:Value→Shared→Prop} {E:Value→Shared→Prop}
  (h:∀ v s' ρ',Step G F ρ σ s ρ' σ' s'→VRel (gr F ρ' σ' s'.heap) ρ' v cD→wpAny (model G.prog G.w) A (call f [v]) Q E s'):wpAny (model G.prog G.w) A (eval (.Call (.Name x q) [a] [] pos) F.env) Q E s:=by
 refine wpAny_Call_Name_kw (ke O ih.K S hl (ih.K.clsNo _ hx) hb hn hd ?_)
 have hc:lB F.ns F.up [a] [ca]:=.cons ha .nil
 rcases hf with ⟨id,rfl⟩ | ⟨id,rfl⟩
 ·refine callWith_builtin (fK hc) ?_
  rw [dG hc]
  exact evalArgs_plain (spliced_cons (ih.e F a ca σ _ _ ρ s A O ha h1 S hA.pred _ E fun v ac aJ st1 r1=>spliced_nil (h v ac aJ st1 r1)))
 ·refine PySem.callWith_type (fK hc) ?_
  rw [dG hc]
  exact evalArgs_plain (spliced_cons (ih.e F a ca σ _ _ ρ s A O ha h1 S hA.pred _ E fun v ac aJ st1 r1=>spliced_nil (h v ac aJ st1 r1)))
theorem lO (O:FmOk G.base F) (S:StG G F ρ σ s.heap) {l:Addr} {vs:Array Value} {xs:List PyData} {g:Heap} (hl:s.heap.PlainList l vs) (r:RdAll g vs.toList xs) (hb:xs.length≤dz) {Q:Value→Shared→Prop} {E:Value→Shared→Prop}
  (h:∀ v s',Step G F ρ σ s ρ σ s'→Rd (gr F ρ σ s'.heap) v (.int xs.length)→Q v s'):wpAny (model G.prog G.w) A (call (.builtin "len") [.ref l]) Q E s:=by
 have e:vs.size=xs.length:=by simpa using r.length
 unfold dz at hb
 refine PySem.Calls.call_len_list hl.isList (by lia) (h _ _ (Step.toks S _) ?_)
 rw [e]; simp [Rd]
theorem CC (ih:IH G n) (O:FmOk G.base F) {a:Expr} {ca:E} {q:Pos} (hl:F.ns.lookup ("len":Str)=some .globalImplicit) (ha:CE F.ns F.up a ca) (he:ar G.P G.W (n + 1) (.len ca) σ=some (p,σ')) (S:StG G F ρ σ s.heap) (hA:AOk A (n + 1)):
  da G F (.Call (.Name "len" q) [a] [] pos) p σ σ' ρ s A:=by
 intro Q E h
 have go:∀ {cD:AV} {aa:AS},ar G.P G.W n ca σ=some (cD,aa)→(∀ v ac aJ,Step G F ρ σ s aJ aa ac→VRel (gr F aJ aa ac.heap) aJ v cD→wpAny (model G.prog G.w) A (call (.builtin "len") [v]) Q E ac)→
   wpAny (model G.prog G.w) A (eval (.Call (.Name "len" q) [a] [] pos) F.env) Q E s:=fun h1 h2=>
  wO ih O hl (by simp) boot_len (.inl ⟨_,rfl⟩) (by decide) (by decide) ha h1 S hA h2
 refine GB he (fun k aa h1 he=>?_) (fun xs aa h1 he=>?_) fun xs aa h1 he=>?_
 ·refine EV he (fun xs hk he=>?_) fun es hk he=>?_
  ·refine bc fun hn=>?_
   refine dM he fun hb he=>?_
   obtain ⟨rfl,rfl⟩:=ik he
   refine hn ?_
   refine go h1 fun v ac aJ st r=>?_
   refine tZ (ka st.st hk r) fun p vs ep e_1 hp ra=>?_; subst e_1
   exact lO O st.st hp ra hb fun v s' st' r'=>h _ _ _ (st.trans st') r'
  ·refine bc fun hn=>?_
   refine dM he fun hb he=>?_
   simp only [Bool.and_eq_true,decide_eq_true_eq] at hb
   obtain ⟨rfl,rfl⟩:=ik he
   refine hn ?_
   refine go h1 fun v ac aJ st r=>?_
   refine bc fun hn=>?_
   refine fq (iE st.st hk r) fun p ep e_2 D=>?_; subst e_2
   have hd:=jJ ih.K st.st ep hk (by simp [liveOf])
   refine ga D fun o ens nn ho hx hdt D=>?_
   refine aB D.toX fun xs e X=>?_
   refine hn ?_
   have hm:=X.dictI (w:=G.w) (prog:=G.prog) ho hx hdt e (jM hb.2) D.nodup
   have hlen:xs.length=es.length:=by have:=congrArg List.length X.keys; simpa using this
   have hb1:=hb.1
   unfold dz at hb1
   refine call_len_dict hd hm (by rw [List.length_map,hlen]; exact Int.lt_of_le_of_lt (Int.ofNat_le.mpr hb1) (by decide)) (h _ _ _ (st.trans (Step.toks st.st _)) ?_)
   simp [VRel,Rd,hlen]
 ·refine bc fun hn=>?_
  refine dM he fun hb he=>?_
  obtain ⟨rfl,rfl⟩:=ik he
  refine hn ?_
  refine go h1 fun v ac aJ st r=>?_
  refine cu (eF (a:=.d (.list xs)) st.st r rfl) fun p vs e_3 hp ra=>?_; subst e_3
  exact lO O st.st hp ra hb fun v s' st' r'=>h _ _ _ (st.trans st') r'
 ·refine bc fun hn=>?_
  refine dM he fun hb he=>?_
  obtain ⟨rfl,rfl⟩:=ik he
  refine hn ?_
  refine go h1 fun v ac aJ st r=>?_
  simp only [VRel,Rd] at r
  refine eV r fun t vs nn e_4 e ra=>?_; clear r; subst e_4
  have e':vs.size=xs.length:=by simpa using ra.length
  unfold dz at hb
  refine PyProof.Rows.len_tuple (dT _ (st.st.grH _ _ e) rfl ⟨_,rfl⟩) (by lia) (h _ _ _ (st.trans (Step.toks st.st _)) ?_)
  rw [e']; simp [VRel,Rd]
theorem yc (ih:IH G n) (O:FmOk G.base F) {a:Expr} {ca:E} {q:Pos} (hl:F.ns.lookup ("tuple":Str)=some .globalImplicit) (ha:CE F.ns F.up a ca) (he:ar G.P G.W (n + 1) (.tuple ca) σ=some (p,σ')) (S:StG G F ρ σ s.heap) (hA:AOk A (n + 1)):
  da G F (.Call (.Name "tuple" q) [a] [] pos) p σ σ' ρ s A:=by
 refine bc fun hn=>?_
 refine mC he fun cD aa h1 he=>?_
 refine FP he fun xs hk he=>?_
 refine hn ?_
 ·refine dM he fun hb he=>?_
  ·refine jn he ?_
   intro Q E h
   refine wO ih O hl (by simp) (by decide +kernel:bootBuiltins "tuple"=some (.type "tuple")) (.inr ⟨_,rfl⟩) (by decide) (by decide) ha h1 S hA fun v ac aJ st r=>?_
   refine cu (eF st.st r hk) fun p vs e_5 hp ra=>?_; subst e_5
   have e':vs.size=xs.length:=by simpa using ra.length
   refine call_tuple_list hp.isList (fun h' hh=>?_) (iT (by rw [e']; exact hb))
   have st2:Step G F aJ aa ac aJ aa { ac with heap:=h' }:=Step.keeps (tk:=ac.toks) O st.st hh
   have r2:=nh O st2.st (st2.rdAll ra)
   have e2:(vs.toList.toArray:Array Value)=vs:=by simp
   rw [e2] at r2
   exact h _ _ _ (st.trans (st2.trans (Step.push O st2.st _ ac.toks))) r2
end
section
variable {G:Gl} {F:Fm} {ρ:List (Addr×Addr)} {σ σ':AS} {s:Shared} {A:Around} {n:Nat} {p:AV} {pos:Pos}
theorem ja {id:String} {name:Str} {o:Expr} {c:E} {k:Nat} {aa:AS} {es:List Expr} {cs:List E} {ap pos:Pos} {xs:List PyData} (ih:IH G n) (O:FmOk G.base F) (hcall:cH o=false) (hline:(ap.endLine == pos.line)=true)
  (slot:Slot "list" name id) (hty:typeOf (.builtin id)=pure (.type "method_descriptor")) (hc:CE F.ns F.up o c) (hcs:lB F.ns F.up es cs) (hl:es.length≤20) (h1:ar G.P G.W n c σ=some (.o k,aa)) (hk:aa.heap[k]?=some (.list xs)) (S:StG G F ρ σ s.heap) (hA:AOk A (n + 1))
  {Q:Value→Shared→Prop} {E:Value→Shared→Prop}
  (h:∀ a ac aJ,Step G F ρ σ s aJ aa ac→aJ[k]?=some a→wpAny (model G.prog G.w) A (callWith pos (.builtin id) [.ref a.1] (es.map fun e=>(false,eval e F.env)) []) Q E ac):
  wpAny (model G.prog G.w) A (eval (.Call (.Attribute o name ap) es [] pos) F.env) Q E s:=by
 refine wpAny_Call_method_lateS (nU hc hcall) (mV hcs hl) hline ?_
 refine ih.e F o c σ _ _ ρ s A O hc h1 S hA.pred _ E fun v ac aJ st r=>?_
 refine tZ (ka st.st hk r) fun a vs ea e_1 hp ra=>?_; subst e_1
 refine (zZ "list" id PySem.F.plainAttrs_list slot hty (gV hp) (fun b e=>?_) ?_)
 ·cases e; obtain ⟨nn,e⟩:=hp; exact (m1a2 _ e rfl)
 ·rw [dG hcs]; exact h a ac aJ st ea
theorem iN {α:Type}:∀ (l:List α),l.eraseIdx (l.length - 1)=l.dropLast
 | []=>rfl
 | [_]=>rfl
 | a :: b :: t=>by
  have ih:=iN (b :: t)
  simp only [List.length_cons,List.dropLast_cons_cons] at ih ⊢
  simpa using ih
theorem nL (vs:Array Value):(vs.eraseIdxIfInBounds (vs.size - 1)).toList=vs.toList.dropLast:=by
 unfold Array.eraseIdxIfInBounds
 split
 ·rw [Array.toList_eraseIdx]
  have:=iN vs.toList
  simpa using this
 ·have:vs=#[]:=by apply Array.eq_empty_of_size_eq_zero; lia
  subst this; rfl
theorem RdAll.dropLast {g:Heap} {vs:List Value} {xs:List PyData} (r:RdAll g vs xs):RdAll g vs.dropLast xs.dropLast:=by
 have hl:=r.length
 refine RdAll.of_get (by simp [hl]) fun i v x hv hx=>?_
 rw [List.getElem?_dropLast] at hv hx
 split at hv
 ·split at hx
  ·exact r.getBoth hv hx
  ·exact nS hx
 ·exact nS hv
theorem RdAll.reverse {g:Heap} {vs:List Value} {xs:List PyData} (r:RdAll g vs xs):RdAll g vs.reverse xs.reverse:=by
 have hl:=r.length
 refine RdAll.of_get (by simp [hl]) fun i v x hv hx=>?_
 have h1:=(List.getElem?_eq_some_iff.mp hv).1
 have h2:=(List.getElem?_eq_some_iff.mp hx).1
 simp at h1 h2
 rw [List.getElem?_reverse (by assumption)] at hv
 rw [List.getElem?_reverse (by assumption)] at hx
 rw [hl] at hv
 exact r.getBoth hv hx
theorem ww (ih:IH G n) (O:FmOk G.base F) {o x:Expr} {c cx:E} {ap:Pos} (hcall:cH o=false) (hline:(ap.endLine == pos.line)=true) (hc:CE F.ns F.up o c) (hx:CE F.ns F.up x cx) (he:ar G.P G.W (n + 1) (.append c cx) σ=some (p,σ')) (S:StG G F ρ σ s.heap) (hA:AOk A (n + 1)):
  da G F (.Call (.Attribute o "append" ap) [x] [] pos) p σ σ' ρ s A:=by
 refine w9 he fun k aa h1 he=>?_
 refine yP he fun ys hk1 he=>?_
 refine mC he fun v ah h2 he=>?_
 refine Bd he fun y bi h3 he=>?_
 refine yP he fun xs hk he=>?_
 refine dM he fun hlim he=>?_
 refine jn he ?_
 intro Q E h
 refine ja ih O hcall hline PySem.F.slot_list_append PySem.F.type_list_append hc (.cons hx .nil) (by simp) h1 hk1 S hA fun a ac aJ st1 ea=>?_
 refine P.append_list (ih.e F x cx aa _ _ aJ ac A O hx h2 st1.st hA.pred _ E fun u ao aU st2 r2=>?_)
 obtain ⟨st3,r3⟩:=eH O st2.st h3 r2
 have ea2:=st2.pre _ _ ea
 refine aB (st3.st.objs k a _ ea2 hk) fun vs t_2 ra=>?_; obtain ⟨nn,e⟩:=t_2
 have hl:vs.size=xs.length:=by simpa using ra.length
 refine (dr vs nn (dY (by rw [hl]; exact Nat.le_of_lt hlim)) e ?_)
 have st4:=Step.listTurn O st3.st ea2 hk ⟨nn,e⟩ (fun xs=>xs.push u) (ys:=xs++[y]) (by simpa using ra.append (RdAll.one r3)) ao.toks
 exact h _ _ _ (st1.trans (st2.trans (st3.trans st4))) (by simp [VRel,Rd])
theorem Cz (ih:IH G n) (O:FmOk G.base F) {o:Expr} {c:E} {ap:Pos} (hcall:cH o=false) (hline:(ap.endLine == pos.line)=true) (hc:CE F.ns F.up o c) (he:ar G.P G.W (n + 1) (.pop c) σ=some (p,σ')) (S:StG G F ρ σ s.heap) (hA:AOk A (n + 1)):
  da G F (.Call (.Attribute o "pop" ap) [] [] pos) p σ σ' ρ s A:=by
 refine w9 he fun k aa h1 he=>?_
 refine yP he fun xs hk he=>?_
 refine Bc he fun y hy he=>?_
 refine dM he fun hb he=>?_
 refine jn he ?_
 intro Q E h
 refine ja ih O hcall hline PySem.F.slot_list_pop PySem.F.type_list_pop hc .nil (by simp) h1 hk S hA fun a ac aJ st1 ea=>?_
 refine aB (st1.st.objs k a _ ea hk) fun vs t_3 ra=>?_; obtain ⟨nn,e⟩:=t_3
 have hl:vs.size=xs.length:=by simpa using ra.length
 have hy':xs[xs.length - 1]?=some y:=by rw [← List.getLast?_eq_getElem?]; exact hy
 refine aB (ra.get hy') fun u hu ru=>?_
 have st4:=Step.listTurn O st1.st ea hk ⟨nn,e⟩ (fun xs=>xs.eraseIdxIfInBounds (vs.size - 1)) (ys:=xs.dropLast) (by rw [nL]; exact ra.dropLast) ac.toks
 refine P.pop_list (y:=u) e (by rw [hl]; simpa using hu) (h _ _ _ (st1.trans st4) (st4.rd ru)) (iT (by exact va ‹_› ‹_›))
theorem uS (ih:IH G n) (O:FmOk G.base F) {o:Expr} {c:E} {ap:Pos} (hcall:cH o=false) (hline:(ap.endLine == pos.line)=true) (hc:CE F.ns F.up o c) (he:ar G.P G.W (n + 1) (.reverse c) σ=some (p,σ')) (S:StG G F ρ σ s.heap) (hA:AOk A (n + 1)):
  da G F (.Call (.Attribute o "reverse" ap) [] [] pos) p σ σ' ρ s A:=by
 refine w9 he fun k aa h1 he=>?_
 refine yP he fun xs hk he=>?_
 refine dM he fun hb he=>?_
 refine jn he ?_
 intro Q E h
 refine ja ih O hcall hline PySem.F.slot_list_reverse PySem.F.type_list_reverse hc .nil (by simp) h1 hk S hA fun a ac aJ st1 ea=>?_
 refine aB (st1.st.objs k a _ ea hk) fun vs t_4 ra=>?_; obtain ⟨nn,e⟩:=t_4
 have hl:vs.size=xs.length:=by simpa using ra.length
 have st4:=Step.listTurn O st1.st ea hk ⟨nn,e⟩ (fun xs=>xs.reverse) (ys:=xs.reverse) (by simpa using ra.reverse) ac.toks
 refine P.reverse_list e (h _ _ _ (st1.trans st4) (by simp [VRel,Rd])) (iT (by exact va ‹_› ‹_›))
theorem wv (ih:IH G n) (O:FmOk G.base F) {o x:Expr} {c cx:E} {ap:Pos} (hcall:cH o=false) (hline:(ap.endLine == pos.line)=true) (hc:CE F.ns F.up o c) (hx:CE F.ns F.up x cx) (he:ar G.P G.W (n + 1) (.extend c cx) σ=some (p,σ')) (S:StG G F ρ σ s.heap) (hA:AOk A (n + 1)):
  da G F (.Call (.Attribute o "extend" ap) [x] [] pos) p σ σ' ρ s A:=by
 refine w9 he fun k aa h1 he=>?_
 refine yP he fun zs hk1 he=>?_
 refine w9 he fun j ah h2 he=>?_
 refine E0 he fun xs ys hk hj he=>?_
 ·refine dM he fun hlim he=>?_
  refine jn he ?_
  intro Q E h
  refine ja ih O hcall hline PySem.F.slot_list_extend PySem.F.type_list_extend hc (.cons hx .nil) (by simp) h1 hk1 S hA fun a ac aJ st1 ea=>?_
  refine P.extend_list (ih.e F x cx aa _ _ aJ ac A O hx h2 st1.st hA.pred _ E fun u ao aU st2 r2=>?_)
  have ea2:=st2.pre _ _ ea
  refine aB (st2.st.objs k a _ ea2 hk) fun vs t_5 ra=>?_; obtain ⟨nn,e⟩:=t_5
  refine tZ (ka st2.st hj r2) fun b us eb e_6 t_7 rb=>?_; subst e_6; obtain ⟨mm,e2⟩:=t_7
  have hl:vs.size=xs.length:=by simpa using ra.length
  have hl2:us.size=ys.length:=by simpa using rb.length
  have st4:=Step.listTurn O st2.st ea2 hk ⟨nn,e⟩ (fun xs=>xs++us) (ys:=xs++ys) (by simpa using ra.append rb) ao.toks
  have hlim2:=hlim.2
  refine (zW b.1 vs us nn mm (dY (by lia)) ?_ ?_ rfl e e2 (h _ _ _ (st1.trans (st2.trans st4)) (by simp [VRel,Rd])))
  ·have:xs.length + ys.length≤sizeLine:=dY hlim2
   lia
  ·have:xs.length + ys.length≤sizeLine:=dY hlim2
   simp only [Bool.and_eq_true,not_and]
   intro _
   unfold Builtin.List.listTooLong
   simp only [decide_eq_true_eq]
   lia
end
section
variable {G:Gl} {F:Fm} {ρ:List (Addr×Addr)} {σ σ':AS} {s:Shared} {A:Around} {n:Nat} {p:AV} {pos:Pos}
theorem StG.keepsK (K:GlOk G) (S:StG G F ρ σ s.heap):G.K.In s.heap:=K.X.keeps S.baseH
theorem sr {g:Heap} {v:Value} {a:AV} (r:VRel g ρ v a):handedIn v=true:=by
 induction a using AV.casesOn with
 | d x=>
  cases x <;> simp only [VRel,Rd] at r
  ·subst r; rfl
  ·subst r; rfl
  ·obtain ⟨t,rfl⟩:=r; rfl
  ·obtain ⟨t,rfl⟩:=r; rfl
  ·refine dB r fun zz zz zz e_1 zz=>?_; clear r; subst e_1; rfl
  ·refine dB r fun zz zz zz e_2 zz=>?_; clear r; subst e_2; rfl
 | o k=>refine aB r fun zz zz e_3=>?_; clear r; subst e_3; rfl
theorem pf {i:Nat} {x:Str} (h:cr[i]?=some x):i < 4:=by
 have:=(List.getElem?_eq_some_iff.mp h).1; simpa [cr] using this
theorem pP:cr.Nodup:=by decide +kernel
theorem lx {i j:Nat} {x y:Str} (hi:cr[i]?=some x) (hj:cr[j]?=some y) (hne:i≠j):(x == y)=false:=by
 refine beq_eq_false_iff_ne.mpr fun e=>hne ?_
 subst e
 exact (List.getElem?_inj (by have:=pf hi; simpa [cr] using this) pP).mp (hi.trans hj.symm)
theorem jQ {g:Heap} {ens:List DictEntry} {fs:List AV} (r:iK ens fs g ρ) {i:Nat} {e:DictEntry} {x y:Str} (he:ens[i]?=some e) (hx:cr[i]?=some x):e.key.isStr y=(x == y):=by
 have hi:i < fs.length:=by rw [← r.1]; exact (List.getElem?_eq_some_iff.mp he).1
 refine ga (r.2.2 i _ (List.getElem?_eq_getElem hi)) fun e' t x' a b c d=>?_
 rw [he] at a; induction Option.some.inj a
 rw [hx] at b; induction Option.some.inj b
 rw [c]; rfl
theorem qT {g:Heap} {ens:List DictEntry} {fs:List AV} (r:iK ens fs g ρ) {k:Nat} {x:Str} {f:AV} (hk:cr[k]?=some x) (hf:fs[k]?=some f):∃ v,getL x ens=some (some v)∧VRel g ρ v f:=by
 refine ga (r.2.2 k f hf) fun e t x' a b c d=>?_
 rw [hk] at b; induction Option.some.inj b
 refine (m1a2 e.val ?_ d)
 unfold getL
 rw [hX (i:=k) (x:=e) a (by rw [jQ r a hk]; simp) fun j y hj hy=>?_]
 have hj':j < fs.length:=by rw [← r.1]; exact (List.getElem?_eq_some_iff.mp hy).1
 refine ga (r.2.2 j _ (List.getElem?_eq_getElem hj')) fun e' t' x' a' b' c' d'=>?_
 rw [jQ r hy b']
 exact lx b' hk (by exact Di ‹_›)
theorem lR {g:Heap} {ens:List DictEntry} {fs:List AV} (r:iK ens fs g ρ) {x:Str} (hx:x ∉ cr.take fs.length):getL x ens=some none:=by
 unfold getL
 have hall:∀ e∈ens,∃ y t,e.key=.str y t∧y∈cr.take fs.length:=fun e m=>by
  refine bc fun hn=>?_
  obtain ⟨i,hi⟩:=List.mem_iff_getElem?.mp m
  have hi':i < fs.length:=by rw [← r.1]; exact (List.getElem?_eq_some_iff.mp hi).1
  refine ga (r.2.2 i _ (List.getElem?_eq_getElem hi')) fun e' t y a b c d=>?_
  refine hn ?_
  rw [hi] at a; induction Option.some.inj a
  refine (g8 y t c (List.mem_iff_getElem?.mpr ⟨i,?_⟩))
  rw [List.getElem?_take_of_lt hi']; exact b
 rw [List.find?_eq_none.mpr fun e m=>?_]
 ·rw [if_neg]
  rw [List.any_eq_true]
  rintro ⟨e,m,q⟩
  refine eW (hall e m) fun y t c zz=>?_
  unfold DictEntry.refKey at q
  rw [c] at q; exact fT q
 ·refine eW (hall e m) fun y t c my=>?_
  rw [c]
  show ¬ (y == x)=true
  intro q
  exact hx (eq_of_beq q▸my)
theorem nk (S:StG G F ρ σ s.heap) {k:Nat} {v:Value} {fs:List AV} (hk:σ.heap[k]?=some (.inst fs)) (rv:VRel (gr F ρ σ s.heap) ρ v (.o k)):
  ∃ p ens nn,ρ[k]?=some p∧v=.ref p.1∧InstAt s.heap p.1 (instObj G.C p.2) G.C (some (dictOf ens nn))∧iK ens fs (gr F ρ σ s.heap) ρ:=by
 refine bc fun hn=>?_
 refine aB rv fun p ep e_4=>?_; clear rv; subst e_4
 refine cu (S.objs k p _ ep hk) fun ens nn e1 e2 r=>?_
 refine hn ?_
 exact (jL p ens nn ep rfl ⟨e1,rfl,rfl,e2⟩ r)
theorem An (ih:IH G n) (O:FmOk G.base F) {e:Expr} {c:E} {a:Str} {k:Nat} (hcall:cH e=false) (ha:cr[k]?=some a) (hc:CE F.ns F.up e c) (he:ar G.P G.W (n + 1) (.attr c k) σ=some (p,σ')) (S:StG G F ρ σ s.heap) (hA:AOk A (n + 1)):
  da G F (.Attribute e a pos) p σ σ' ρ s A:=by
 refine bc fun hn=>?_
 refine w9 he fun j aa h1 he=>?_
 refine EY he fun fs hj he=>?_
 refine GJ he fun v hv he=>?_
 refine hn ?_
 refine jn he ?_
 intro Q E h
 refine Attribute_any_ (ih.e F e c σ _ _ ρ s A O hc h1 S hA.pred _ E fun u ac aJ st r=>?_) (AU hc.ok hcall)
 refine bc fun hn=>?_
 refine ga (nk st.st hj r) fun q ens nn eq e_5 I gf=>?_; subst e_5
 refine aB (qT gf ha hv) fun val hl rv=>?_
 refine gD (ih.K.attr k a ha) fun g1 g2 g3=>?_
 refine hn ?_
 exact get_value (StG.keepsK ih.K st.st) I (plainGet_of g1).1 (findObj_own ih.K.hasDict g2 rfl (by rw [lookIn_dict]; exact hl)) (sr rv) (h _ _ _ (st.tok _) rv)
theorem Ak (ih:IH G n) (O:FmOk G.base F) {a b:Expr} {ca cb:E} (ha:CE F.ns F.up a ca) (hb:CE F.ns F.up b cb) (he:ar G.P G.W (n + 1) (.conj ca cb) σ=some (p,σ')) (S:StG G F ρ σ s.heap) (hA:AOk A (n + 1)):
  da G F (.BoolOp .And [a,b] pos) p σ σ' ρ s A:=by
 intro Q E h
 refine GC he (fun aa h1 he=>?_) fun aa h1 he=>?_
 ·refine BoolOp_and (ih.e F a ca σ _ _ ρ s A O ha h1 S hA.pred _ E fun v ac aJ st r=>?_)
  simp only [VRel,Rd] at r; subst r
  refine wpAny_truthy_bool ?_
  exact BoolOp_one (ih.e F b cb aa _ _ aJ ac A O hb he st.st hA.pred _ E fun u ao aU st2 r2=>h _ _ _ (st.trans st2) r2)
 ·obtain ⟨rfl,rfl⟩:=ik he
  refine BoolOp_and (ih.e F a ca σ _ _ ρ s A O ha h1 S hA.pred _ E fun v ac aJ st r=>?_)
  have r':=r
  simp only [VRel,Rd] at r; subst r
  refine wpAny_truthy_bool ?_
  exact h _ _ _ st r'
theorem BG (ih:IH G n) (O:FmOk G.base F) {e:Expr} {c:E} {r:Bool} (hc:CE F.ns F.up e c) (he:dg G.P G.W (n + 1) (.not c) σ=some (r,σ')) (S:StG G F ρ σ s.heap) (hA:AOk A (n + 1)):rE G F (.UnaryOp .Not e pos) r σ σ' ρ s A:=by
 refine GL he fun r' aa h1 he=>?_
 refine jn he ?_
 intro Q E h
 exact isTrue_not (ih.t F e c σ _ _ ρ s A O hc h1 S hA.pred _ E fun ac aJ st=>h _ _ st)
theorem zo (ih:IH G n) (O:FmOk G.base F) {a b:Expr} {ca cb:E} {r:Bool} (ha:CE F.ns F.up a ca) (hb:CE F.ns F.up b cb) (he:dg G.P G.W (n + 1) (.conj ca cb) σ=some (r,σ')) (S:StG G F ρ σ s.heap) (hA:AOk A (n + 1)):
  rE G F (.BoolOp .And [a,b] pos) r σ σ' ρ s A:=by
 intro Q E h
 refine FU he fun t aa h1 he=>?_
 ·refine isTrue_and (ih.t F a ca σ _ _ ρ s A O ha h1 S hA.pred _ E fun ac aJ st=>?_)
  induction t using Bool.casesOn with
  | true=>
   refine isTrue_and (ih.t F b cb aa _ _ aJ ac A O hb he st.st hA.pred _ E fun ao aU st2=>?_)
   induction r using Bool.casesOn with
   | true=>rw [if_pos rfl]; exact isTrue_and_nil (h _ _ (st.trans st2))
   | false=>rw [if_neg Bool.false_ne_true]; exact h _ _ (st.trans st2)
  | false=>
   obtain ⟨rfl,rfl⟩:=ik he
   exact h _ _ st
theorem zp (ih:IH G n) (O:FmOk G.base F) {a b c:Expr} {ca cb cc:E} {op1 op2:CmpOp} {co1 co2:CO} {r:Bool} (hop1:eK op1 co1) (hop2:eK op2 co2) (hm:behindInMarks op2 c=false) (ha:CE F.ns F.up a ca) (hb:CE F.ns F.up b cb) (hc:CE F.ns F.up c cc)
  (he:dg G.P G.W (n + 1) (.cmp2 co1 co2 ca cb cc) σ=some (r,σ')) (S:StG G F ρ σ s.heap) (hA:AOk A (n + 1)):rE G F (.Compare a [op1,op2] [b,c] pos) r σ σ' ρ s A:=by
 intro Q E h
 refine bc fun hn=>?_
 refine mC he fun x aa h1 he=>?_
 refine mC he fun y ah h2 he=>?_
 refine hn ?_
 refine isTrue_chain (ih.e F a ca σ _ _ ρ s A O ha h1 S hA.pred _ E fun v ac aJ st1 r1=>?_) (by simp [lastMarks,hm])
 refine test_link (ih.e F b cb aa _ _ aJ ac A O hb h2 st1.st hA.pred _ E fun u ao aU st2 r2=>?_)
 refine FS he (fun hr he=>?_) fun hr he=>?_
 ·refine nN ih.K st2.st hA hop1 hr (st2.vrel r1) r2 fun bY st3=>wpAny_truthy_bool ?_
  refine bc fun hn=>?_
  refine mC he fun z bi h3 he=>?_
  refine Cd he fun r' hr' he=>?_
  obtain ⟨rfl,rfl⟩:=ik he
  refine hn ?_
  refine test_last (ih.e F c cc ah _ _ aU bY A O hc h3 st3.st hA.pred _ E fun w mU u8 st4 r4=>?_)
  exact nN ih.K st4.st hA hop2 hr' (st4.vrel (st3.vrel r2)) r4 fun mA st5=>wpAny_truthy_bool (h _ _ (st1.trans (st2.trans (st3.trans (st4.trans st5)))))
 ·obtain ⟨rfl,rfl⟩:=ik he
  refine nN ih.K st2.st hA hop1 hr (st2.vrel r1) r2 fun bY st3=>wpAny_truthy_bool ?_
  exact h _ _ (st1.trans (st2.trans st3))
theorem xj (ih:IH G n) (O:FmOk G.base F) {e:Expr} {c:E} {r:Bool} {v:AV} {aa:AS} (hc:CE F.ns F.up e c) (h1:ar G.P G.W n c σ=some (v,aa)) (hr:truthV aa v=some r) (S:StG G F ρ σ s.heap) (hA:AOk A (n + 1))
  (hp:isTrue e F.env (eval e F.env)=(do let v ← eval e F.env; standAt e.pos; holding [v] (truthy v))):rE G F e r σ aa ρ s A:=by
 intro Q E h
 refine isTrue_plain (ih.e F e c σ _ _ ρ s A O hc h1 S hA.pred _ E fun u ac aJ st r1=>?_) hp
 exact vu st.st hr r1 fun ao st2=>h _ _ (st.trans st2)
theorem CF (ih:IH G n) (O:FmOk G.base F) {o k x:Expr} {c ck cx:E} {ap:Pos} (hcall:cH o=false) (hline:(ap.endLine == pos.line)=true) (hc:CE F.ns F.up o c) (hk:CE F.ns F.up k ck) (hx:CE F.ns F.up x cx) (he:ar G.P G.W (n + 1) (.get c ck cx) σ=some (p,σ')) (S:StG G F ρ σ s.heap) (hA:AOk A (n + 1)):
  da G F (.Call (.Attribute o "get" ap) [k,x] [] pos) p σ σ' ρ s A:=by
 refine bc fun hn=>?_
 refine w9 he fun j aa h1 he=>?_
 refine FR he fun es0 hj1 he=>?_
 refine yO he fun i ah h2 he=>?_
 refine xS he fun dv bi h3 he=>?_
 refine hn ?_
 ·refine bc fun hn=>?_
  refine FR he fun es hj he=>?_
  refine dM he fun ok he=>?_
  refine hn ?_
  refine jn he ?_
  intro Q E h
  have hcs:lB F.ns F.up [k,x] [ck,cx]:=.cons hk (.cons hx .nil)
  refine wpAny_Call_method_lateS (nU hc hcall) (mV hcs (by simp)) hline ?_
  refine ih.e F o c σ _ _ ρ s A O hc h1 S hA.pred _ E fun v ac aJ st1 r1=>?_
  refine fq (iE st1.st hj1 r1) fun q ep e_6 D=>?_; subst e_6
  have hT:=ir D
  refine (zZ "dict" "dict.get" PySem.F.plainAttrs_dict PySem.F.slot_dict_get PySem.F.type_dict_get hT (fun b e=>?_) ?_)
  ·cases e; refine eV D fun o ens nn e x zz=>?_; clear D; exact (m1a2 o e x.2.1)
  rw [dG hcs]
  refine callWith_builtin (by simp) (evalArgs_plain (spliced_cons ?_))
  refine ih.e F k ck aa _ _ aJ ac A O hk h2 st1.st hA.pred _ E fun u ao aU st2 r2=>?_
  refine spliced_cons (ih.e F x cx ah _ _ aU ao A O hx h3 st2.st hA.pred _ E fun y bY fI st3 r3=>spliced_nil ?_)
  have ep3:=st3.pre _ _ (st2.pre _ _ ep)
  have D3:DictAt G.w bY.heap (gr F fI bi bY.heap) q.1 es:=st3.st.objs j q _ ep3 hj
  have hd:=jJ ih.K st3.st ep3 hj (by simp [liveOf])
  have r2':=st3.vrel r2
  simp only [VRel,Rd] at r2'
  obtain ⟨t,rfl⟩:=r2'
  rcases D3.face (prog:=G.prog) st3.st.grH ok (show Rd (gr F fI bi bY.heap) (.int i t) (.int i) by simp [Rd]) hA.line with ⟨a,xs,e,_⟩ | ⟨i',t',xs,e,e',hm,X,nd,hi⟩
  ·cases e
  ·cases e
   refine call_meetsIn PySem.F.slot_dict_get (ir D3) PySem.F.entry_dict_get (PySem.F.args_dict_get_3 _ _ _) (meets_dict_get_default (intKind G.prog G.w) q.1 (intKind_is G.prog G.w i t) hd y) (m1a2 _ hm.mapOf ?_)
   have stt:=st1.trans (st2.trans (st3.trans (Step.toks st3.st (bY.toks + 1))))
   rcases X.valueAt hi with ⟨e1,e2⟩ | ⟨z,val,e1,e2,rz⟩
   ·rw [e2]; exact h _ _ _ stt (by rw [e1]; exact r3)
   ·rw [e2]; exact h _ _ _ stt (by rw [e1]; exact rz)
end
section
variable {G:Gl} {F:Fm} {ρ:List (Addr×Addr)} {σ σ':AS} {s:Shared} {A:Around} {n:Nat} {p:AV} {pos:Pos}
noncomputable abbrev A4 (G:Gl) (F:Fm) (es:List Expr) (ps:List AV) (σ σ':AS) (ρ:List (Addr×Addr)) (s:Shared) (A:Around):Prop:=
 ∀ (pos:Pos) (Q:List Value→Shared→Prop) (E:Value→Shared→Prop),(∀ vs s' ρ',Step G F ρ σ s ρ' σ' s'→VRelAll (gr F ρ' σ' s'.heap) ρ' vs ps→Q vs s')→wpAny (model G.prog G.w) A (spliced (backTo pos (starEach es F.env))) Q E s
set_option tactic.hygienic true in
theorem Ae (ih:IH G n) (O:FmOk G.base F) {es:List Expr} {cs:List E} {ps:List AV} (hc:lB F.ns F.up es cs) (he:c6 G.P G.W (n + 1) cs σ=some (ps,σ')) (S:StG G F ρ σ s.heap) (hA:AOk A (n + 1)):A4 G F es ps σ σ' ρ s A:=by
 intro pos Q E h
 cases hc with
 | nil=>
  obtain ⟨rfl,rfl⟩:=ik he
  exact spliced_nil (h [] s ρ (Step.refl S) trivial)
 | cons h1 h2=>
  rename_i e c es cs
  refine mC he fun v aa e1 he=>?_
  refine xV he fun vs ah e2 he=>?_
  obtain ⟨rfl,rfl⟩:=ik he
  rw [kR h1]
  refine spliced_cons (ih.e F e c σ _ _ ρ s A O h1 e1 S hA.pred _ E fun u ac aJ st1 r1=>?_)
  exact ih.es F es cs aa _ _ aJ ac A pos O h2 e2 st1.st hA.pred _ E fun us ao aU st2 r2=>h _ _ _ (st1.trans st2) ⟨st2.vrel r1,r2⟩
theorem hZ {P:List FD} {W:Nat}:∀ {n:Nat} {cs:List E} {σ:AS} {ps:List AV} {σ':AS},c6 P W n cs σ=some (ps,σ')→ps.length=cs.length
 | 0,_,_,_,_,h=>nomatch h
 | n + 1,[],_,_,_,h=>by cases h; rfl
 | n + 1,c :: cs,σ,ps,σ',h=>mC h fun v aa h1 h=>xV h fun vs ah h2 h=>by cases h; exact congrArg (· + 1) (hZ h2)
theorem ju:∀ {as:List AV} {xs:List PyData} {σ σ':AS},σ.freezeAll as=some (xs,σ')→xs.length=as.length
 | [],xs,σ,σ',h=>by cases h; rfl
 | a :: as,xs,σ,σ',h=>Bd h fun v aa h1 h=>u6 h fun vs ah h2 h=>by cases h; exact congrArg (· + 1) (ju h2)
theorem Cw (ih:IH G n) (O:FmOk G.base F) {es:List Expr} {cs:List E} {k:Nat} (hc:lB F.ns F.up es cs) (hl:es.length≤100) (he:ar G.P G.W (n + 1) (.tup cs) σ=some (p,σ')) (S:StG G F ρ σ s.heap) (hA:AOk A (n + 1)):
  da G F (.Tuple es k pos) p σ σ' ρ s A:=by
 refine xV he fun vs aa h1 he=>?_
 refine u6 he fun xs ah h2 he=>?_
 refine jn he ?_
 intro Q E h
 refine wpAny_Tuple (ih.es F es cs σ _ _ ρ s A pos O hc h1 S hA.pred _ E fun us ac aJ st r=>?_)
 obtain ⟨st2,r2⟩:=fD O st.st h2 r
 have e1:=r.length
 have e2:=hZ h1
 have e3:=hc.len
 exact ⟨dY (by unfold cB; lia),h _ _ _ (st.trans (st2.trans (Step.push O st2.st _ _))) (nh O st2.st r2)⟩
theorem Aj (ih:IH G n) (O:FmOk G.base F) {es:List Expr} {cs:List E} (hc:lB F.ns F.up es cs) (hl:es.length≤100) (he:ar G.P G.W (n + 1) (.list cs) σ=some (p,σ')) (S:StG G F ρ σ s.heap) (hA:AOk A (n + 1)):
  da G F (.List es pos) p σ σ' ρ s A:=by
 intro Q E h
 refine xV he fun vs aa h1 he=>?_
 refine u6 he fun xs ah h2 he=>?_
 simp only [Option.some.injEq] at he
 refine wpAny_List (ih.es F es cs σ _ _ ρ s A pos O hc h1 S hA.pred _ E fun us ac aJ st r=>?_)
 obtain ⟨st2,r2⟩:=fD O st.st h2 r
 have e1:=r.length
 have e2:=hZ h1
 have e3:=hc.len
 refine ⟨dY (by unfold cB; lia),?_⟩
 refine aB (newList O st2.st r2 ac.toks) fun ρ' st3 vr=>?_
 rw [he] at st3 vr
 exact h _ _ _ (st.trans (st2.trans st3)) (vr _)
theorem yf (O:FmOk G.base F) (he:ar G.P G.W (n + 1) .dict0 σ=some (p,σ')) (S:StG G F ρ σ s.heap):da G F (.Dict [] [] pos) p σ σ' ρ s A:=by
 intro Q E h
 have he:σ.alloc (.dict [])=(p,σ'):=Option.some.inj he
 have hnew:(s.heap.push { cls:=.type "dict",data:=.dict #[] }).get? s.heap.objs.size=some { cls:=.type "dict",data:=.dict #[] }:=Heap.get?_push_size _ rfl
 have hk':∀ b x,s.heap.get? b=some x→(s.heap.push { cls:=.type "dict",data:=.dict #[] }).get? b=some x:=fun zz zz e=>Heap.get?_push_of_some _ e
 have al:=S.alloc (a:=(s.heap.objs.size,0)) (o:=.dict []) O hk' (fun x m=>by simp [liveOf] at m; subst m; exact ⟨Nat.le_refl _,⟨_,hnew⟩⟩) (by simp [liveOf]) (jL _ (#[]) 0 hnew (cw rfl rfl rfl) rfl trivial)
 refine wpAny_Dict_empty ?_
 have st:Step G F ρ σ s (ρ++[(s.heap.objs.size,0)]) (σ.alloc (.dict [])).2 { s with heap:=s.heap.push { cls:=.type "dict",data:=.dict #[] } }:=⟨(bV _ _ rfl),de.snoc _ _,al.1,al.2,fun zz zz o e=>hk' _ o e⟩
 have vr:∀ g,VRel g (ρ++[(s.heap.objs.size,0)]) (.ref s.heap.objs.size) (σ.alloc (.dict [])).1:=fun g=>(m1a2 (s.heap.objs.size,0) (by show (ρ++[_])[σ.heap.length]?=_; rw [← S.len]; simp) rfl)
 rw [he] at st vr
 exact h _ _ _ st (vr _)
theorem nA {g:Heap}:∀ {xs:List PyData} {is:List Int} {vs:List Value},lh xs=some is→RdAll g vs xs→IntsAre vs is
 | [],is,vs,h,r=>by cases h; cases r; exact .nil
 | x :: xs,is,vs,h,r=>by
  simp only [RdAll] at r
  refine cu r fun v t e_1 r1 r2=>?_; clear r; subst e_1
  cases x <;> simp only [lh] at h <;> try exact nS h
  simp only [Option.map_eq_some_iff] at h
  refine aB h fun js h1 e_2=>?_; clear h; subst e_2
  simp only [Rd] at r1
  obtain ⟨t',rfl⟩:=r1
  exact .cons _ _ (nA h1 r2)
theorem oW:∀ (r:List Int) (a:Int),(r.foldl (fun m x=>if x < m then x else m) a=a∨r.foldl (fun m x=>if x < m then x else m) a∈r)∧r.foldl (fun m x=>if x < m then x else m) a≤a∧∀ x∈r,r.foldl (fun m x=>if x < m then x else m) a≤x
 | [],a=>(cw (.inl rfl) (Int.le_refl _) (fun zz m=>nomatch m))
 | b :: r,a=>by
  simp only [List.foldl_cons]
  refine gD (oW r (if b < a then b else a)) fun h1 h2 h3=>?_
  refine (cw ?_ ?_ (fun x m=>?_))
  ·rcases h1 with h | h
   ·rw [h]; split
    ·exact .inr (.head _)
    ·exact .inl rfl
   ·exact .inr (.tail _ h)
  ·refine Int.le_trans h2 ?_; split <;> lia
  ·rcases List.mem_cons.mp m with e | m
   ·subst e; refine Int.le_trans h2 ?_; split <;> lia
   ·exact h3 x m
theorem r9 {is:List Int} {m:Int} (h:qG is=some m):m∈is∧∀ a∈is,m≤a:=by
 induction is using List.casesOn with
 | nil=>exact nS h
 | cons a r=>
  have h:r.foldl (fun m x=>if x < m then x else m) a=m:=Option.some.inj h
  refine gD (oW r a) fun h1 h2 h3=>?_
  rw [h] at h1 h2 h3
  refine ⟨?_,fun x mx=>?_⟩
  ·rcases h1 with e | e
   ·rw [e]; exact .head _
   ·exact .tail _ e
  ·rcases List.mem_cons.mp mx with e | mx
   ·rw [e]; exact h2
   ·exact h3 x mx
theorem sk {vs:Array Value} {is:List Int} (h:IntsAre vs.toList is):∃ xs:Array (Int×Tok),vs=intItems xs∧(xs.toList.map (·.1))=is:=by
 have:∀ {vs:List Value} {is:List Int},IntsAre vs is→∃ xs:List (Int×Tok),vs=xs.map (fun x=>.int x.1 x.2)∧xs.map (·.1)=is:=by
  intro vs is h
  induction h with
  | nil=>exact (m1a2 [] rfl rfl)
  | cons n t r ih=>refine aB ih fun xs a b=>?_; clear ih; exact (m1a2 ((n,t) :: xs) (by rw [a]; rfl) (by rw [← b]; rfl))
 refine aB (this h) fun xs a b=>?_
 refine (m1a2 xs.toArray ?_ (by simpa using b))
 apply Array.toList_inj.mp
 rw [a]; simp [intItems]
theorem Ag (ih:IH G n) (O:FmOk G.base F) {a:Expr} {ca:E} {q:Pos} (hl:F.ns.lookup ("min":Str)=some .globalImplicit) (ha:CE F.ns F.up a ca) (he:ar G.P G.W (n + 1) (.min1 ca) σ=some (p,σ')) (S:StG G F ρ σ s.heap) (hA:AOk A (n + 1)):
  da G F (.Call (.Name "min" q) [a] [] pos) p σ σ' ρ s A:=by
 refine EW he fun xs aa h1 he=>?_
 refine GI he fun is hi he=>?_
 refine FT he fun m hm he=>?_
 refine jn he ?_
 intro Q E h
 refine wO ih O hl (by simp) boot_min (.inl ⟨_,rfl⟩) (by decide) (by decide) ha h1 S hA fun v ac aJ st r=>?_
 refine cu (eF (a:=.d (.list xs)) st.st r rfl) fun b vs e_3 hp ra=>?_; subst e_3
 have hI:=nA hi ra
 refine aB (sk hI) fun ys e1 e2=>?_
 obtain ⟨m1,m2⟩:=r9 hm
 have hne:0 < ys.size:=by
  have:0 < is.length:=List.length_pos_of_mem m1
  rw [← e2] at this; simpa using this
 have hl':=hp.isList
 rw [e1] at hl'
 refine min_intList hA.handled hl' hne fun v h' tk hv hk=>?_
 obtain ⟨t,rfl⟩:=intItems_at hv
 obtain ⟨h1,h2⟩:=argBest_lt (numAt ys) (ys.size - 1)
 have st2:=Step.keeps (tk:=tk) O st.st hk
 refine h _ _ _ (st.trans st2) ?_
 have k1:numAt ys (argBest (fun i j=>decide (numAt ys i < numAt ys j)) (ys.size - 1))∈is:=by
  rw [numAt_eq,← e2]; exact getD_mem (by rw [List.length_map,Array.length_toList]; exact Nat.lt_of_le_of_lt h1 (Nat.sub_lt hne Nat.one_pos))
 have k2:∀ a∈is,numAt ys (argBest (fun i j=>decide (numAt ys i < numAt ys j)) (ys.size - 1))≤a:=fun a ha=>by
  rw [← e2] at ha
  refine aB (mem_getD ha) fun j hj e_4=>?_; subst e_4
  rw [List.length_map,Array.length_toList] at hj
  rw [← numAt_eq]; exact h2 j (by exact Ge ‹_›)
 have:numAt ys (argBest (fun i j=>decide (numAt ys i < numAt ys j)) (ys.size - 1))=m:=Int.le_antisymm (k2 _ m1) (m2 _ k1)
 rw [this]
 simp [VRel,Rd]
theorem kp {a:Expr} (h:jN a=true):∀ o r,letTemporaryGo a o r=pure ():=by
 cases a <;> first | (intro _ _; rfl) | (exact fT h; done)
theorem RdAll.sub {g:Heap} {vs:List Value} {xs:List PyData} (r:RdAll g vs xs) (a b:Nat):RdAll g ((vs.drop a).take b) ((xs.drop a).take b):=by
 have hl:=r.length
 refine RdAll.of_get (by simp [hl]) fun i v x hv hx=>?_
 rw [List.getElem?_take] at hv hx
 by_cases c:i < b
 ·rw [if_pos c,List.getElem?_drop] at hv hx
  exact r.getBoth hv hx
 ·rw [if_neg c] at hv; exact nS hv
theorem yd (ih:IH G n) (O:FmOk G.base F) {a lo hi:Expr} {ca cl ch:E} {q:Pos} (hn:jN a=true) (ha:CE F.ns F.up a ca) (hlo:CE F.ns F.up lo cl) (hhi:CE F.ns F.up hi ch) (he:ar G.P G.W (n + 1) (.slice ca cl ch) σ=some (p,σ')) (S:StG G F ρ σ s.heap) (hA:AOk A (n + 1)):
  da G F (.Subscript a (.Slice (some lo) (some hi) none q) pos) p σ σ' ρ s A:=by
 refine xS he fun x aa h1 he=>?_
 ·refine xS he fun i ah h2 he=>?_
  ·refine xS he fun j bi h3 he=>?_
   ·refine Bc he fun r hr he=>?_
    refine jn he ?_
    intro Q E h
    refine wpAny_Subscript_list_slice (ih.e F a ca σ _ _ ρ s A O ha h1 S hA.pred _ E fun v ac aJ st1 r1=>?_) (kp hn)
    refine evalPart_some_step (ih.e F lo cl aa _ _ aJ ac A O hlo h2 st1.st hA.pred _ E fun u ao aU st2 r2=>?_)
    refine evalPart_some_step (ih.e F hi ch ah _ _ aU ao A O hhi h3 st2.st hA.pred _ E fun y bY fI st3 r3=>?_)
    have r1':=st3.vrel (st2.vrel r1)
    have r2':=st3.vrel r2
    refine uh hr fun xs a b e1 e2 e3 hb hq=>?_
    ·clear hr; subst e1; subst e2; subst e3; subst hq
     refine cu (eF (a:=.d (.list xs)) st3.st r1' rfl) fun l vs e_5 hp ra=>?_; subst e_5
     simp only [VRel,Rd] at r2' r3
     obtain ⟨t,rfl⟩:=r2'
     obtain ⟨t',rfl⟩:=r3
     refine gC hb fun k1 k2 k3 k4=>?_; clear hb
     have e':vs.size=xs.length:=by simpa using ra.length
     refine (EF l vs (some a) (some b) rfl hp.isList (iT (by exact va ‹_› ‹_›)) (.int a t) (.int b t') ?_)
     obtain ⟨a',rfl⟩:=Int.eq_ofNat_of_zero_le k1
     obtain ⟨b',rfl⟩:=Int.eq_ofNat_of_zero_le (Int.le_trans k1 k2)
     have:=slicePick_run vs a' b' (by lia) (by exact zg ‹_›)
     rw [this]
     have st4:=Step.push (s:=bY) O st3.st { cls:=.type "slice",data:=.fields #[.int (a':Int) t,.int (b':Int) t',.none] } bY.toks
     have rr:RdAll (gr F fI bi bY.heap) ((vs.toList.drop a').take (b' - a')) ((xs.drop a').take (b' - a')):=ra.sub _ _
     have st5:=Step.push O st4.st { cls:=.type "list",data:=.seq ((vs.toList.drop a').take (b' - a')).toArray } bY.toks
     have rl:=tf O st4.st (st4.rdAll rr)
     rw [Heap.size_push] at rl
     refine h _ _ _ (st1.trans (st2.trans (st3.trans (st4.trans st5)))) ?_
     have e3:((b':Int) - (a':Int)).toNat=b' - a':=by lia
     show Rd _ _ (PyData.list _)
     rw [show ((a':Nat):Int).toNat=a' from rfl,e3]
     exact rl
theorem Cy (ih:IH G n) (O:FmOk G.base F) {a:Expr} {ca:E} {k:Nat} {q p1 p2:Pos} (hn:jN a=true) (ha:CE F.ns F.up a ca) (he:ar G.P G.W (n + 1) (.rev ca) σ=some (p,σ')) (S:StG G F ρ σ s.heap) (hA:AOk A (n + 1)):
  da G F (.Subscript a (.Slice none none (some (.UnaryOp .USub (.Constant (.int 1) k p1) p2)) q) pos) p σ σ' ρ s A:=by
 refine mC he fun v aa h1 he=>?_
 refine GA he fun xs ah h2 he=>?_
 ·refine dM he fun hb he=>?_
  refine jn he ?_
  intro Q E h
  refine wpAny_Subscript_Slice_step (T:="list") list_getitem_lookup (ih.e F a ca σ _ _ ρ s A O ha h1 S hA.pred _ E fun v ac aJ st1 r1=>?_) (kp hn)
  obtain ⟨st2,r2⟩:=eH O st1.st h2 r1
  refine cu (eF (a:=.d (.list xs)) st2.st r2 rfl) fun l vs e_6 hp ra=>?_; subst e_6
  have e':vs.size=xs.length:=by simpa using ra.length
  refine wpAny_Slice (evalPart_none_step (evalPart_none_step (evalPart_some_step (wpAny_UnaryOp (wpAny_Constant_int (P.neg_int ?_))))))
  refine ⟨(hp.isList.push _).typeIs,?_⟩
  refine wpAny_getItem_list_slice (hp.isList.push _) (Heap.IsSliceOf.new ..) .none .none (.int (-1) _) (by simp) ?_ (iT (by exact va ‹_› ‹_›))
  rw [show (-(1:Int))=-1 from rfl,krv_pick]
  have stt:=Step.toks st2.st (ac.toks + 1 + 1)
  have st4:=Step.push O stt.st { cls:=.type "slice",data:=.fields #[.none,.none,.int (-1) (ac.toks + 1)] } (ac.toks + 1 + 1)
  have st5:=Step.push O st4.st { cls:=.type "list",data:=.seq vs.toList.reverse.toArray } (ac.toks + 1 + 1)
  have rl:=tf O st4.st (st4.rdAll ra.reverse)
  exact h _ _ _ (st1.trans (st2.trans (stt.trans (st4.trans st5)))) rl
end
noncomputable def FlRel (g:Heap) (ρ:List (Addr×Addr)):Flow→Fl→Prop
 | .next,.next=>True
 | .ret v,.ret a=>VRel g ρ v a
 | _,_=>False
noncomputable def tV (G:Gl) (n:Nat):Prop:=∀ (F:Fm) (ss:List Stmt) (cs:List S) (σ:AS) (fl:Fl) (σ':AS) (ρ:List (Addr×Addr)) (s:Shared) (A:Around),FmOk G.base F→F.up=[]→CSs F.ns ss cs→Dg.execs G.P G.W n cs σ=some (fl,σ')→StG G F ρ σ s.heap→AOk A n→
 ∀ (Q:Flow→Shared→Prop) (E:Value→Shared→Prop),(∀ f s' ρ',Step G F ρ σ s ρ' σ' s'→FlRel (gr F ρ' σ' s'.heap) ρ' f fl→Q f s')→wpAny (model G.prog G.w) A (PySem.execs ss F.env) Q E s
theorem lZ {kd:Str→Option NameKind} {x:Str}:∀ {l:List (Str×Value)} {m:Str→Option Value},x ∉ l.map (·.1)→bindL kd l m x=m x
 | [],_,_=>rfl
 | (n,v) :: r,m,h=>by
  simp only [List.map_cons,List.mem_cons,not_or] at h
  unfold bindL
  rw [lZ h.2]
  split
  ·exact if_neg h.1
  ·rfl
theorem md {kd:Str→Option NameKind} {x:Str}:∀ {l:List (Str×Value)} {m:Str→Option Value},x ∉ l.map (·.1)→bindC kd l m x=m x
 | [],_,_=>rfl
 | (n,v) :: r,m,h=>by
  simp only [List.map_cons,List.mem_cons,not_or] at h
  unfold bindC
  rw [md h.2]
  split
  ·rfl
  ·exact if_neg h.1
theorem lq {kd:Str→Option NameKind} {x:Str} {v:Value} (hk:kd x=some .local):∀ {l:List (Str×Value)} {m:Str→Option Value},(l.map (·.1)).Nodup→(x,v)∈l→bindL kd l m x=some v
 | (n,u) :: r,m,nd,h=>by
  simp only [List.map_cons] at nd
  have nd':=List.nodup_cons.mp nd
  unfold bindL
  rcases List.mem_cons.mp h with e | h
  ·cases e
   rw [lZ nd'.1,if_pos hk,if_pos rfl]
  ·exact lq hk nd'.2 h
theorem lr {kd:Str→Option NameKind} {x:Str} {v:Value} (hk:kd x≠some .local):∀ {l:List (Str×Value)} {m:Str→Option Value},(l.map (·.1)).Nodup→(x,v)∈l→bindC kd l m x=some v
 | (n,u) :: r,m,nd,h=>by
  simp only [List.map_cons] at nd
  have nd':=List.nodup_cons.mp nd
  unfold bindC
  rcases List.mem_cons.mp h with e | h
  ·cases e
   rw [md nd'.1,if_neg hk,if_pos rfl]
  ·exact lr hk nd'.2 h
theorem gv {x:Str}:∀ {names:List (Str×NameKind)} {n:Nat} {acc:List (Str×Addr)},(∃ c,acc.lookup x=some c)→∃ c,(cellsFrom n names acc).lookup x=some c
 | [],_,_,h=>h
 | (name,kind) :: r,n,acc,h=>by
  unfold cellsFrom
  split
  ·refine gv ?_
   obtain ⟨c,h⟩:=h
   rw [List.lookup_cons]
   cases x == name
   ·exact ⟨c,h⟩
   ·exact ⟨_,rfl⟩
  ·exact gv h
theorem c9 {x:Str}:∀ {names:List (Str×NameKind)} {n:Nat} {acc:List (Str×Addr)},(x,NameKind.cell)∈names→∃ c,(cellsFrom n names acc).lookup x=some c
 | (name,kind) :: r,n,acc,h=>by
  unfold cellsFrom
  rcases List.mem_cons.mp h with e | h
  ·cases e
   rw [if_pos (by rfl)]
   exact gv ⟨n,by rw [List.lookup_cons]; simp⟩
  ·split <;> exact c9 h
theorem jB {α β:Type}:∀ {as:List α} {bs:List β} {i:Nat} {a:α} {b:β},as[i]?=some a→bs[i]?=some b→(a,b)∈as.zip bs
 | _ :: _,_ :: _,0,_,_,h1,h2=>by simp at h1 h2; subst h1; subst h2; exact .head _
 | _ :: _,_ :: _,i + 1,_,_,h1,h2=>by simp at h1 h2; exact .tail _ (jB h1 h2)
 | [],_,_,_,_,h1,_=>by simp at h1
 | _ :: _,[],_,_,_,_,h2=>by simp at h2
theorem mO {β:Type}:∀ {as:List Str} {bs:List β},as.length=bs.length→(as.zip bs).map (·.1)=as
 | [],[],_=>rfl
 | _ :: _,_ :: _,h=>by simp [mO (by simpa using h)]
 | [],_ :: _,h=>by simp at h
 | _ :: _,[],h=>by simp at h
theorem VRelAll.get {g:Heap} {ρ:List (Addr×Addr)}:∀ {vs:List Value} {xs:List AV} {i:Nat} {x:AV},VRelAll g ρ vs xs→xs[i]?=some x→∃ v,vs[i]?=some v∧VRel g ρ v x
 | v :: _,_ :: _,0,_,r,h=>by simp at h; subst h; exact (m1a2 v rfl r.1)
 | _ :: _,_ :: _,i + 1,_,r,h=>by simp at h; refine aB (VRelAll.get r.2 h) fun v a b=>?_; exact (m1a2 v (by simpa using a) b)
 | _,[],_,_,_,h=>by simp at h
 | [],_ :: _,_,_,r,_=>r.elim
theorem eh:∀ {names:List (Str×NameKind)} {n:Nat} {acc:List (Str×Addr)},(names.map (·.1)).Nodup→(acc.map (·.1)).Nodup→(∀ x∈acc.map (·.1),x ∉ names.map (·.1))→((cellsFrom n names acc).map (·.1)).Nodup
 | [],_,_,_,h,_=>h
 | (name,kind) :: r,n,acc,nd,h,k=>by
  simp only [List.map_cons] at nd
  have nd':=List.nodup_cons.mp nd
  unfold cellsFrom
  split
  ·refine eh nd'.2 ?_ fun x m=>?_
   ·simp only [List.map_cons]
    exact List.nodup_cons.mpr ⟨fun m=>k _ m (by simp),h⟩
   ·simp only [List.map_cons] at m
    rcases List.mem_cons.mp m with e | m
    ·exact e▸nd'.1
    ·exact fun q=>k x m (by simp only [List.map_cons]; exact .tail _ q)
  ·exact eh nd'.2 h fun x m q=>k x m (by simp only [List.map_cons]; exact .tail _ q)
noncomputable def calleeFm (F:Fm) (fd:FuncData) (L a:Addr):Fm:=⟨callEnvC fd L a,L :: (cellsFrom (L + 1) fd.scope.names []).map (·.2)++F.fr,F.fr,fd.scope.names,[]⟩
section
variable {G:Gl} {F:Fm} {ρ:List (Addr×Addr)} {σ:AS} {s:Shared}
theorem uW {fd:FuncData} {a:Addr} (O:FmOk G.base F) (S:StG G F ρ σ s.heap) (hk:fd.scope.kind=.function) (hg:fd.globals=mainGlobals) (hb:fd.builtins=builtinsNs) (nd:(fd.scope.names.map (·.1)).Nodup) (nf:∀ x∈fd.scope.names,x.2≠.free)
  (ap:(cellsFrom (s.heap.objs.size + 1) fd.scope.names []).Pairwise fun x y=>x.2≠y.2) (ab:∀ n c,(n,c)∈cellsFrom (s.heap.objs.size + 1) fd.scope.names []→s.heap.objs.size < c):FmOk G.base (calleeFm F fd s.heap.objs.size a) where
 kind:=hk
 glob:=hg
 blt:=hb
 names:=(pF nf).symm
 defn:=fun zz=>nf
 nodup:=nd
 above:=S.size O
 frL:=.head _
 cell:=fun x hx=>by
  obtain ⟨c,hc⟩:=c9 (n:=s.heap.objs.size + 1) (acc:=[]) (mem_of_lookup hx)
  have hm:=mem_of_lookup hc
  exact (dT c hc (.tail _ (List.mem_append_left _ (List.mem_map_of_mem (f:=(·.2)) hm))) (Nat.ne_of_gt (ab _ _ hm)))
 apart:=fun x y c h1 h2=>name_of_addr ap (mem_of_lookup h1) (mem_of_lookup h2)
 gdFr:=fun b hb=>.tail _ (List.mem_append_right _ hb)
 locN:=fun m=>S.fresh (Nat.le_refl _) (List.mem_append_right _ m)
 cellN:=fun x c hx hc m=>S.fresh (Nat.le_of_lt (ab _ _ (mem_of_lookup hc))) (List.mem_append_right _ m)
 outG:=fun x c hx zz zz=>absurd rfl (nf _ (mem_of_lookup hx))
theorem uV {fd:FuncData} {a:Addr} {ac:Shared} {ps:List AV} {vs:List Value} {np:Nat} (O:FmOk G.base F) (S:StG G F ρ σ s.heap) (nd:(fd.scope.names.map (·.1)).Nodup) (nf:∀ x∈fd.scope.names,x.2≠.free) (hv:VRelAll (gr F ρ σ s.heap) ρ vs ps) (hnp:ps.length=np) (hle:np≤fd.scope.names.length)
  (x:InCallC s (callEnvC fd s.heap.objs.size a).locals (bindL (callEnvC fd s.heap.objs.size a).kindOf (((fd.scope.names.take np).map (·.1)).zip vs) fun zz=>none) (callEnvC fd s.heap.objs.size a).cells (bindC (callEnvC fd s.heap.objs.size a).kindOf (((fd.scope.names.take np).map (·.1)).zip vs) fun zz=>none) ac):
  StG G (calleeFm F fd s.heap.objs.size a) ρ { loc:=ps.map some++List.replicate (fd.scope.names.length - np) none,out:=[],heap:=σ.heap } ac.heap∧bW s.heap (UU F ρ σ) ac.heap (UU (calleeFm F fd s.heap.objs.size a) ρ { loc:=ps.map some++List.replicate (fd.scope.names.length - np) none,out:=[],heap:=σ.heap }):=by
 have k:=x.toInCall.keep
 have hU:∀ b,b∈UU (calleeFm F fd s.heap.objs.size a) ρ { loc:=ps.map some++List.replicate (fd.scope.names.length - np) none,out:=[],heap:=σ.heap }→b∈UU F ρ σ∨s.heap.objs.size≤b:=fun b m=>by
  rcases List.mem_append.mp m with m | m
  ·exact .inl (List.mem_append_left _ m)
  ·rcases List.mem_cons.mp m with q | m
   ·exact .inr (q▸Nat.le_refl _)
   ·rcases List.mem_append.mp m with m | m
    ·refine aB (List.mem_map.mp m) fun p hp e_1=>?_; subst e_1
     exact .inr (Nat.le_of_lt (x.above p.1 p.2 hp))
    ·exact .inl (List.mem_append_right _ m)
 have Gw:bW s.heap (UU F ρ σ) ac.heap (UU (calleeFm F fd s.heap.objs.size a) ρ { loc:=ps.map some++List.replicate (fd.scope.names.length - np) none,out:=[],heap:=σ.heap }):=fun b o e n=>⟨k b o e,fun m=>by
  rcases hU b m with q | q
  ·exact n q
  ·rw [cp q] at e; cases e⟩
 have hlen:=hv.length
 refine ⟨⟨S.len,fun b o e=>Gw.hide b o (S.bas b o e),?_,fun b m=>?_,fun j p o e1 e2=>(S.objs j p o e1 e2).mono (fun zz zz zz e=>k _ _ e) Gw.sub (de.refl _),?_⟩,Gw⟩
 ·have n0:=List.nodup_append.mp S.nd
  refine List.nodup_append.mpr (cw n0.1 ?_ (fun y m z n e=>?_))
  ·refine List.nodup_cons.mpr ⟨fun m=>?_,List.nodup_append.mpr (cw ?_ n0.2.1 (fun y m z n e=>?_))⟩
   ·rcases List.mem_append.mp m with m | m
    ·refine aB (List.mem_map.mp m) fun p hp e=>?_
     have h1:s.heap.objs.size < p.2:=x.above p.1 p.2 hp
     exact absurd e (Nat.ne_of_gt h1)
    ·exact S.fresh (Nat.le_refl _) (List.mem_append_right _ m)
   ·have:=x.apart
    rw [List.nodup_iff_pairwise_ne,List.pairwise_map]
    exact this
   ·refine aB (List.mem_map.mp m) fun p hp e_2=>?_; subst e_2
    exact S.fresh (Nat.le_of_lt (x.above p.1 p.2 hp)) (List.mem_append_right _ (e▸n))
  ·rcases List.mem_cons.mp n with q | n
   ·exact S.fresh (Nat.le_refl _) (List.mem_append_left _ (by rw [← q,← e]; exact m))
   ·rcases List.mem_append.mp n with n | n
    ·refine aB (List.mem_map.mp n) fun p hp e_3=>?_; subst e_3
     exact S.fresh (Nat.le_of_lt (x.above p.1 p.2 hp)) (List.mem_append_left _ (e▸m))
    ·exact n0.2.2 y m z n e
 ·rcases List.mem_append.mp m with m | m
  ·obtain ⟨z,t_4⟩:=S.ex b (List.mem_append_left _ m); obtain ⟨o,e⟩:=t_4; exact ⟨z,⟨o,k _ _ e⟩⟩
  ·rcases List.mem_cons.mp m with q | m
   ·refine dB x.toInCall.ns fun o es ep e zz=>?_
    exact ⟨q▸S.size O,⟨o,q▸e⟩⟩
   ·rcases List.mem_append.mp m with m | m
    ·refine aB (List.mem_map.mp m) fun p hp e_5=>?_; subst e_5
     have h1:s.heap.objs.size < p.2:=x.above p.1 p.2 hp
     refine ⟨Nat.le_trans (S.size O) (Nat.le_of_lt h1),?_⟩
     have hc:(callEnvC fd s.heap.objs.size a).cells.lookup p.1=some p.2:=dX (eh nd (by simp) (by simp)) hp
     refine aB (x.cell _ _ hc) fun o ho zz=>?_
     exact ⟨o,ho⟩
    ·obtain ⟨z,t_6⟩:=S.ex b (List.mem_append_right _ m); obtain ⟨o,e⟩:=t_6; exact ⟨z,⟨o,k _ _ e⟩⟩
 ·have hvl:vs.length=np:=by rw [hlen,hnp]
  have hkl:((fd.scope.names.take np).map (·.1)).length=vs.length:=by simp [hvl]; lia
  have hkd:((((fd.scope.names.take np).map (·.1)).zip vs).map (·.1)).Nodup:=by
   rw [mO hkl,List.map_take]
   exact nd.sublist (List.take_sublist _ _)
  have key:∀ (i:Nat) (y:Str) (kd:NameKind),fd.scope.names[i]?=some (y,kd)→∀ v,(ps.map some++List.replicate (fd.scope.names.length - np) none)[i]?=some (some v)→∃ val,(y,val)∈((fd.scope.names.take np).map (·.1)).zip vs∧VRel (gr F ρ σ s.heap) ρ val v:=by
   intro i y kd hy v hi
   have hin:i < ps.length:=by
    refine Nat.lt_of_not_le fun hge=>?_
    rw [List.getElem?_append_right (by simpa using hge),List.getElem?_replicate] at hi
    split at hi <;> cases hi
   rw [List.getElem?_append_left (by simpa using hin),List.getElem?_map] at hi
   refine bc fun hn=>?_
   refine aB (Option.map_eq_some_iff.mp hi) fun v' hv' e=>?_
   cases e
   refine aB (hv.get hv') fun val h1 h2=>?_
   refine hn ?_
   refine (m1a2 val (jB (i:=i) ?_ h1) h2)
   rw [List.getElem?_map,List.getElem?_take_of_lt (by exact Bq ‹_› ‹_›),hy]; rfl
  have hlk:∀ (i:Nat) (y:Str) (kd:NameKind),fd.scope.names[i]?=some (y,kd)→(callEnvC fd s.heap.objs.size a).kindOf y=some kd:=fun i y kd hy=>fe nd hy
  refine ⟨?_,(m1a2 _ x.toInCall.ns (fun i y hy v hi=>?_)),fun i y hy=>?_,fun i y hy zz=>absurd rfl (nf _ (mem_of_lookup hy))⟩
  ·show (ps.map some++List.replicate (fd.scope.names.length - np) none).length=fd.scope.names.length
   simp; lia
  ·refine aB (key i y _ hy v hi) fun val h1 h2=>?_
   exact (m1a2 val (lq (hlk i y _ hy) hkd h1) (h2.mono Gw.sub (de.refl _)))
  ·obtain ⟨c,hc⟩:=c9 (n:=s.heap.objs.size + 1) (acc:=[]) (List.mem_of_getElem? hy)
   refine (dr c _ hc (x.cell y c hc) (fun v hi=>?_))
   refine aB (key i y _ hy v hi) fun val h1 h2=>?_
   exact (m1a2 val (lr (by rw [hlk i y _ hy]; simp) hkd h1) (h2.mono Gw.sub (de.refl _)))
theorem yy {fd:FuncData} {a L:Addr} {ρ':List (Addr×Addr)} {σ':AS} {h':Heap} (O:FmOk G.base F) (S:StG G F ρ σ s.heap) (S':StG G (calleeFm F fd L a) ρ' σ' h') (pre:de ρ ρ') (kept:∀ b∈F.fr,∀ o,s.heap.get? b=some o→h'.get? b=some o)
  (Gw:bW s.heap (UU F ρ σ) h' (UU (calleeFm F fd L a) ρ' σ')):StG G F ρ' { σ' with loc:=σ.loc,out:=σ.out } h'∧bW h' (UU (calleeFm F fd L a) ρ' σ') h' (UU F ρ' { σ' with loc:=σ.loc,out:=σ.out }):=by
 have hU:∀ b,b∈UU F ρ' { σ' with loc:=σ.loc,out:=σ.out }→b∈UU (calleeFm F fd L a) ρ' σ':=fun b m=>by
  rcases List.mem_append.mp m with m | m
  ·exact List.mem_append_left _ m
  ·exact List.mem_append_right _ (.tail _ (List.mem_append_right _ m))
 have G2:bW h' (UU (calleeFm F fd L a) ρ' σ') h' (UU F ρ' { σ' with loc:=σ.loc,out:=σ.out }):=fun b o e n=>⟨e,fun m=>n (hU b m)⟩
 have n0:=List.nodup_append.mp S'.nd
 have n1:(L :: ((cellsFrom (L + 1) fd.scope.names []).map (·.2)++F.fr)).Nodup:=n0.2.1
 have n2:=(List.nodup_append.mp (List.nodup_cons.mp n1).2).2.1
 refine ⟨⟨S'.len,fun b o e=>G2.hide b o (S'.bas b o e),List.nodup_append.mpr (cw n0.1 n2 (fun y m z n e=>n0.2.2 y m z (.tail _ (List.mem_append_right _ n)) e)),fun b m=>S'.ex b (hU b m),fun j p o e1 e2=>(S'.objs j p o e1 e2).mono (fun zz zz zz e=>e) G2.sub (de.refl _),?_⟩,G2⟩
 have k:∀ b∈F.fr,∀ o,s.heap.get? b=some o→h'.get? b=some o:=kept
 exact S.fd.keep (k _ O.frL) (fun y c h1 h2=>k _ (O.cellIn h1 h2)) O (Gw.trans G2).hide pre (fun b hb=>k b (O.gdFr b hb))
end
section
variable {G:Gl} {F:Fm} {ρ:List (Addr×Addr)} {σ σ':AS} {s:Shared} {A:Around} {n:Nat} {p:AV} {pos:Pos}
theorem lf:∀ {ρ ρ':List (Addr×Addr)} {H:List AO},ρ.length≤H.length→de ρ ρ'→ρ'.length=H.length→(live ρ (H.take ρ.length)).Sublist (live ρ' H)
 | [],ρ',H,_,_,_=>by simp [live]
 | a :: ρ,ρ',o :: H,h1,h2,h3=>by
  induction ρ' using List.casesOn with
  | nil=>simp at h3
  | cons b ρ'=>
   have hab:b=a:=by have:=h2 0 a rfl; simpa using this
   subst hab
   simp only [List.length_cons,List.take_succ_cons,live]
   refine List.Sublist.append (List.Sublist.refl _) (lf (by simpa using h1) (fun k x e=>?_) (by simpa using h3))
   have:=h2 (k + 1) x (by simpa using e)
   simpa using this
 | _ :: _,_,[],h1,_,_=>by simp at h1
theorem xA {ρ ρ':List (Addr×Addr)} (h:de ρ ρ'):ρ.length≤ρ'.length:=by
 rcases Nat.lt_or_ge ρ'.length ρ.length with q | q
 ·have:=h ρ'.length ρ[ρ'.length] (List.getElem?_eq_getElem q)
  rw [List.getElem?_eq_none (Nat.le_refl _)] at this
  exact nS this
 ·exact q
theorem St.cut {C:Addr} {hs:PyData→Int} {base h:Heap} (S:St C hs base F ρ' σ h) (hp:de ρ ρ') (hlen:ρ.length≤σ.heap.length) (hc:aI (σ.heap.take ρ.length)=true)
  (hfd:FrD F h (gr F ρ { σ with heap:=σ.heap.take ρ.length } h) ρ σ.loc σ.out):
  St C hs base F ρ { σ with heap:=σ.heap.take ρ.length } h∧bW h (UU F ρ' σ) h (UU F ρ { σ with heap:=σ.heap.take ρ.length }):=by
 have sub:(UU F ρ { σ with heap:=σ.heap.take ρ.length }).Sublist (UU F ρ' σ):=List.Sublist.append (lf hlen hp S.len) (List.Sublist.refl _)
 have G:bW h (UU F ρ' σ) h (UU F ρ { σ with heap:=σ.heap.take ρ.length }):=fun b o e n=>⟨e,fun m=>n (sub.subset m)⟩
 have hl:(σ.heap.take ρ.length).length=ρ.length:=by rw [List.length_take]; lia
 have vcut:∀ {g:Heap} {v:Value} {f:AV},(∀ k,f=.o k→k < ρ.length)→VRel g ρ' v f→VRel g ρ v f:=fun {g v f} hk r=>by
  induction f using AV.casesOn with
  | d x=>exact r
  | o k=>
   refine aB r fun a e q=>?_; clear r
   have hlt:=hk k rfl
   refine (m1a2 a ?_ q)
   have:=hp k ρ[k] (List.getElem?_eq_getElem hlt)
   rw [e] at this
   rw [List.getElem?_eq_getElem hlt,← this]
 refine ⟨⟨hl.symm,fun b o e=>G.hide b o (S.bas b o e),S.nd.sublist sub,fun b m=>S.ex b (sub.subset m),fun j a o e1 e2=>?_,?_⟩,G⟩
 ·have e2':(σ.heap.take ρ.length)[j]?=some o:=e2
  have hj:j < ρ.length:=(List.getElem?_eq_some_iff.mp e1).1
  have e3:σ.heap[j]?=some o:=by rwa [List.getElem?_take_of_lt hj] at e2'
  have R:=S.objs j a o (hp j a e1) e3
  have R':od C hs h (gr F ρ { σ with heap:=σ.heap.take ρ.length } h) ρ' a o:=R.mono (fun zz zz zz e=>e) G.sub (de.refl _)
  induction o using AO.casesOn with
  | list xs=>exact R'
  | dict es=>exact R'
  | dead=>trivial
  | inst fs=>
   refine Bz R' fun ens n q1 q2 q3 q4 q5=>?_; clear R'
   refine (xM ens n q1 q2 q3 q4 (fun i f hf=>?_))
   refine ga (q5 i f hf) fun e t x a1 b1 c1 d1=>?_
   refine (jL e t x a1 b1 c1 (vcut (fun k hk=>?_) d1))
   subst hk
   have hm:=List.all_eq_true.mp hc (.inst fs) (List.mem_of_getElem? e2')
   have:=List.all_eq_true.mp hm (.o k) (List.mem_of_getElem? hf)
   simpa [hl] using this
 ·exact hfd
theorem AN (K:GlOk G) (ihS:tV G n):A3 G (n + 1):=by
 intro F f ps σ p σ' ρ s A vs O he S hA hv R h
 refine fq (jj he) fun fd hf hnp he=>?_
 obtain ⟨o,name,qual,params,body,scope,dV,kV,doc,pm,cdv,ct,an,ho,hd,hcd,hbind,hk,hco,hgen,nd,hnl,hle,hpk,nf,hcs⟩:=K.fn f fd hf
 have hvl:vs.length=fd.np:=by rw [hv.length,hnp]
 have hkindp:∀ x∈((scope.names.take fd.np).map (·.1)).zip vs,scope.names.lookup x.1=some .local∨(scope.names.lookup x.1=some .cell∧((cellsFrom (s.heap.objs.size + 1) scope.names []).lookup x.1).isSome=true):=by
  intro x hx
  have h1:=(List.of_mem_zip hx).1
  refine aB (List.mem_map.mp h1) fun y hy e=>?_
  have hy':y∈scope.names:=List.mem_of_mem_take hy
  have hl:scope.names.lookup y.1=some y.2:=dX nd hy'
  rw [← e]
  rcases hpk y hy with q | q
  ·exact .inl (hl.trans (by rw [q]))
  ·refine .inr ⟨hl.trans (by rw [q]),?_⟩
   obtain ⟨c,hc⟩:=c9 (n:=s.heap.objs.size + 1) (acc:=[]) (show (y.1,NameKind.cell)∈scope.names by rw [← q]; exact hy')
   rw [hc]; rfl
 refine codeAny_call_cells (fd:=fnX name qual params body scope [] dV kV doc pm an cdv ct) hA.room (S.baseH _ _ ho) hd (K.nolim.keeps S.baseH) (hcd.keeps S.baseH) rfl (hbind vs hvl) rfl hkindp (fun ac x=>?_) hco hgen hk
 obtain ⟨S1,G1⟩:=uV (fd:=fnX name qual params body scope [] dV kV doc pm an cdv ct) (a:=G.FA f) O S nd nf hv hnp (by show fd.np≤scope.names.length; exact DO ‹_› ‹_›) x
 have O1:FmOk G.base (calleeFm F (fnX name qual params body scope [] dV kV doc pm an cdv ct) s.heap.objs.size (G.FA f)):=uW O S hk rfl rfl nd nf x.apart (fun n c hm=>x.above n c hm)
 have he':∃ fl aa,Dg.execs G.P G.W n fd.body { loc:=ps.map some++List.replicate (scope.names.length - fd.np) none,out:=[],heap:=σ.heap }=some (fl,aa)∧((∃ x,fl=.ret (.d x)∧p=.d x)∨(fl=.next∧p=.d .none))∧σ'={ loc:=σ.loc,out:=σ.out,heap:=fV σ.heap.length aa.heap }:=by
  rw [hnl]
  exact he
 refine cu he' fun fl aa h1 hfl e_1=>?_; clear he'; subst e_1
 refine ihS (calleeFm F (fnX name qual params body scope [] dV kV doc pm an cdv ct) s.heap.objs.size (G.FA f)) body fd.body _ fl aa ρ ac _ O1 rfl hcs h1 S1 hA.deeper _ _ fun f' s' ρ' st r=>?_
 refine eW x.done fun il yH e1 kk=>?_
 have kept:∀ b∈F.fr,∀ o,s.heap.get? b=some o→s'.heap.get? b=some o:=fun b hb o e=>st.kept b hb o (x.toInCall.keep b o e)
 obtain ⟨S2,G2⟩:=yy O S st.st st.pre kept (G1.trans st.grow)
 refine cG st.same fun sn sW e2=>?_
 have stf:Step G F ρ σ s ρ' { aa with loc:=σ.loc,out:=σ.out } s':=⟨(bV sn sW (by rw [e2,e1])),st.pre,S2,(G1.trans st.grow).trans G2,fun b hb=>kept b (O.gdFr b hb)⟩
 have fin:∃ ρ'',Step G F ρ σ s ρ'' { loc:=σ.loc,out:=σ.out,heap:=fV σ.heap.length aa.heap } s'∧∀ u x,VRel (gr (calleeFm F (fnX name qual params body scope [] dV kV doc pm an cdv ct) s.heap.objs.size (G.FA f)) ρ' aa s'.heap) ρ' u (.d x)→VRel (gr F ρ'' { loc:=σ.loc,out:=σ.out,heap:=fV σ.heap.length aa.heap } s'.heap) ρ'' u (.d x):=by
  by_cases hc:aI (aa.heap.take σ.heap.length)=true
  ·have hH:fV σ.heap.length aa.heap=aa.heap.take ρ.length:=by unfold fV; rw [if_pos hc,S.len]
   have hpl:ρ.length≤aa.heap.length:=by
    have h1:ρ.length≤ρ'.length:=xA st.pre
    have h2:=S2.len
    simp only at h2
    exact Fv ‹_› ‹_›
   have hc':aI (({ aa with loc:=σ.loc,out:=σ.out }:AS).heap.take ρ.length)=true:=by rw [S.len]; exact hc
   have sub:(UU F ρ { loc:=σ.loc,out:=σ.out,heap:=aa.heap.take ρ.length }).Sublist (UU F ρ' { aa with loc:=σ.loc,out:=σ.out }):=List.Sublist.append (lf hpl st.pre S2.len) (List.Sublist.refl _)
   have G3:bW s'.heap (UU F ρ' { aa with loc:=σ.loc,out:=σ.out }) s'.heap (UU F ρ { loc:=σ.loc,out:=σ.out,heap:=aa.heap.take ρ.length }):=fun b o e n=>⟨e,fun m=>n (sub.subset m)⟩
   have GG:=((G1.trans st.grow).trans G2).trans G3
   have hfd:FrD F s'.heap (gr F ρ { loc:=σ.loc,out:=σ.out,heap:=aa.heap.take ρ.length } s'.heap) ρ σ.loc σ.out:=
    S.fd.keep (kept _ O.frL) (fun y c h1 h2=>kept _ (O.cellIn h1 h2)) O GG.hide (de.refl _) (fun b hb=>kept b (O.gdFr b hb))
   obtain ⟨S3,_⟩:=St.cut S2 st.pre hpl hc' hfd
   rw [hH]
   exact (m1a2 ρ ⟨(bV sn sW (by rw [e2,e1])),de.refl _,S3,GG,fun b hb=>kept b (O.gdFr b hb)⟩ (fun u x r=>VRel.mono (G2.trans G3).sub (de.refl _) r))
  ·have hH:fV σ.heap.length aa.heap=aa.heap:=by unfold fV; rw [if_neg hc]
   rw [hH]
   exact (m1a2 ρ' stf (fun u x r=>VRel.mono G2.sub (de.refl _) r))
 refine aB fin fun ρ'' stf' vr=>?_; clear fin
 rcases hfl with ⟨x,rfl,rfl⟩ | ⟨rfl,rfl⟩
 ·cases f' with
  | ret u=>exact h _ _ _ stf' (vr _ _ r)
  | _=>exact r.elim
 ·cases f' with
  | next=>exact h _ _ _ stf' (by simp [VRel,Rd])
  | _=>exact r.elim
theorem Am (ih:IH G n) (O:FmOk G.base F) {x:Str} {f:Nat} {as:List Expr} {cs:List E} {q:Pos} (hl:F.ns.lookup x=some .globalImplicit) (hg:gname f=some x) (hc:lB F.ns F.up as cs) (he:ar G.P G.W (n + 1) (.call f cs) σ=some (p,σ')) (S:StG G F ρ σ s.heap) (hA:AOk A (n + 1)):
  da G F (.Call (.Name x q) as [] pos) p σ σ' ρ s A:=by
 intro Q E h
 refine xV he fun vs aa h1 he=>?_
 have hd:(x == ("__debug__":Str))=false:=by
  have:=ki (p:=fun zz x=>!(x == ("__debug__":Str))) (by decide +kernel) hg
  rwa [Bool.not_eq_true'] at this
 refine wpAny_Call_Name_kw (oH O ih.K S hl (ih.K.glob f x hg) hd ?_)
 have hfd:∃ fd,G.P[f]?=some fd:=by
  induction n using Nat.casesOn with
  | zero=>exact nS he
  | succ n=>
   refine aB (jj he) fun fd hfd zz=>?_
   exact ⟨fd,hfd⟩
 obtain ⟨fd,hfd⟩:=hfd
 obtain ⟨o,name,qual,params,body,scope,dV,kV,doc,pm,cdv,ct,an,ho,hdt,_⟩:=ih.K.fn f fd hfd
 refine callWith_function (o:=o) (fd:=fnX name qual params body scope [] dV kV doc pm an cdv ct) (fy ih.es O hc h1 S hA.pred fun us ac aJ st r=>⟨⟨st.st.baseH _ _ ho,hdt⟩,?_⟩)
 refine wpAny_call ?_
 show codeAny _ _ (.call _ ⟨[]++us,[]⟩) _ _
 rw [List.nil_append]
 exact ih.c F f vs aa _ _ aJ ac A us O he st.st hA.pred r _ fun v ao aU st2 r2=>h _ _ _ (st.trans st2) r2
theorem Ah (ih:IH G n) (O:FmOk G.base F) {o:Expr} {c:E} {m:Str} {f:Nat} {as:List Expr} {cs:List E} {ap:Pos} (hcall:cH o=false) (hm:mname f=some m) (hf1:f≠1) (hc:CE F.ns F.up o c) (hcs:lB F.ns F.up as cs) (hl:as.length≤20) (hline:(ap.endLine == pos.line)=true)
  (he:ar G.P G.W (n + 1) (.meth f c cs) σ=some (p,σ')) (S:StG G F ρ σ s.heap) (hA:AOk A (n + 1)):da G F (.Call (.Attribute o m ap) as [] pos) p σ σ' ρ s A:=by
 intro Q E h
 refine w9 he fun k aa h1 he=>?_
 refine EY he fun fs hk he=>?_
 refine xV he fun vs ah h2 he=>?_
 rw [arm_eval_Call,nU hc hcall]
 refine wpAny_bind (ih.e F o c σ _ _ ρ s A O hc h1 S hA.pred _ E fun v ac aJ st1 r1=>?_)
 refine wpAny_bind (wpAny_standAt ?_)
 refine ga (nk st1.st hk r1) fun q ens nn eq e_2 I gf=>?_; subst e_2
 refine gD (ih.K.meth f m hm hf1) fun g1 g2 g3=>?_
 have hform:methodCallForm (as.length + ([]:List Keyword).length) (backTo pos (starEach as F.env)) (backToKw pos (keywordEach [] F.env))=true:=mV hcs hl
 have hpos:methodCallPos true o F.env ap pos=pure pos:=by unfold methodCallPos; simp [hline]
 unfold methodCall
 rw [hform]
 have hno:m ∉ cr.take fs.length:=by
  intro hmem
  have k:m∈cr:=List.mem_of_mem_take hmem
  have:=ki (p:=fun zz x=>!(decide (x∈cr))) (by decide +kernel) hm
  rw [Bool.not_eq_true',decide_eq_false_iff_not] at this
  exact this k
 refine wpAny_bind (wpAny_holding (method_fn (StG.keepsK ih.K st1.st) I (plainGet_of g1).1 (plainGet_of g1).2 g2 (beq_iff_eq.mp g3) (by show (lookIn m (dictOf ens nn)).map _=_; rw [lookIn_dict,lR gf hno]; rfl) ?_))
 refine wpAny_bind (wpAny_of_eq hpos ?_)
 have hfd:∃ fd,G.P[f]?=some fd:=by
  induction n using Nat.casesOn with
  | zero=>exact nS he
  | succ n=>
   refine aB (jj he) fun fd hfd zz=>?_
   exact ⟨fd,hfd⟩
 obtain ⟨fd,hfd⟩:=hfd
 obtain ⟨o',name,qual,params,body,scope,dV,kV,doc,pm,cdv,ct,an,ho,hdt,_⟩:=ih.K.fn f fd hfd
 refine callWith_function (o:=o') (fd:=fnX name qual params body scope [] dV kV doc pm an cdv ct) (fy ih.es O hcs h2 st1.st hA.pred fun us ao aU st2 r2=>⟨⟨st2.st.baseH _ _ ho,hdt⟩,?_⟩)
 refine wpAny_call ?_
 show codeAny _ _ (.call _ ⟨[.ref q.1]++us,[]⟩) _ _
 refine ih.c F f (.o k :: vs) ah _ _ aU ao A (.ref q.1 :: us) O he st2.st hA.pred ⟨(m1a2 q (st2.pre _ _ eq) rfl),r2⟩ _ fun v bY fI st3 r3=>h _ _ _ (st1.trans (st2.trans st3)) r3
end
theorem yJ (a:Args):(Code.builtin "type.__call__" a).frames=0:=by kernel_rfl
theorem BD (a:Args):(Code.builtin "type.__call__" a).isGuard=false:=by
 show guardIds.contains "type.__call__"=false
 decide +kernel
theorem BE (a:Args):(Code.builtin "type.__call__" a).isCaller=false:=by kernel_rfl
theorem uf (a:Args):(Code.builtin "type.__call__" a).weight≤1:=by
 unfold Code.weight
 rw [yJ,BD,BE]
 split <;> simp
theorem vA (a:Args):(Code.builtin "type.__call__" a).cUnits=1:=by
 show 1 + 3 * (Code.builtin "type.__call__" a).frames=1
 rw [yJ]
theorem AOk.under {A:Around} {n:Nat} (h:AOk A (n + 1)) (a:Args):AOk (A.under (.builtin "type.__call__" a)) n:=
 ⟨h.handled,by have:=h.depth; have:=uf a; show A.depth + (Code.builtin "type.__call__" a).weight + n≤900; lia,by have:=h.units; show A.units + (Code.builtin "type.__call__" a).cUnits + 20 * n≤9000; rw [vA]; lia⟩
section
variable {G:Gl} {F:Fm} {ρ:List (Addr×Addr)} {σ σ':AS} {s:Shared} {A:Around} {n:Nat} {p:AV} {pos:Pos}
theorem xH (O:FmOk G.base F) (S:StG G F ρ σ s.heap):
  ∃ ρ',Step G F ρ σ s ρ' (σ.alloc (.inst [])).2 { s with heap:=(s.heap.push emptyDict).push (instObj G.C s.heap.objs.size) }∧∀ g,VRel g ρ' (.ref (s.heap.objs.size + 1)) (σ.alloc (.inst [])).1:=by
 have k1:∀ b x,s.heap.get? b=some x→((s.heap.push emptyDict).push (instObj G.C s.heap.objs.size)).get? b=some x:=fun zz zz e=>Heap.get?_push_of_some _ (Heap.get?_push_of_some _ e)
 have hd:((s.heap.push emptyDict).push (instObj G.C s.heap.objs.size)).get? s.heap.objs.size=some emptyDict:=Heap.get?_push_of_some _ (Heap.get?_push_size _ rfl)
 have hx:((s.heap.push emptyDict).push (instObj G.C s.heap.objs.size)).get? (s.heap.objs.size + 1)=some (instObj G.C s.heap.objs.size):=by
  have:=Heap.get?_push_size (s.heap.push emptyDict) (o:=instObj G.C s.heap.objs.size) rfl
  rwa [Heap.size_push] at this
 have al:=S.alloc (a:=(s.heap.objs.size + 1,s.heap.objs.size)) (o:=.inst []) O k1 (fun x m=>by
   simp [liveOf] at m
   rcases m with rfl | rfl
   ·exact ⟨Nat.le_succ _,⟨_,hx⟩⟩
   ·exact ⟨Nat.le_refl _,⟨_,hd⟩⟩) (by simp [liveOf]) (xM [] 0 hx hd rfl (by simp) (fun i f e=>by simp at e))
 refine (m1a2 (ρ++[(s.heap.objs.size + 1,s.heap.objs.size)]) ⟨(bV _ _ rfl),de.snoc _ _,al.1,al.2,fun zz zz o e=>k1 _ o e⟩ (fun g=>(m1a2 (s.heap.objs.size + 1,s.heap.objs.size) ?_ rfl)))
 show (ρ++[_])[σ.heap.length]?=_
 rw [← S.len]; simp
theorem CA (ih:IH G n) (O:FmOk G.base F) {as:List Expr} {cs:List E} {q:Pos} (hl:F.ns.lookup ("Diagrams":Str)=some .globalImplicit) (hc:lB F.ns F.up as cs) (he:ar G.P G.W (n + 1) (.new cs) σ=some (p,σ')) (S:StG G F ρ σ s.heap) (hA:AOk A (n + 1)):
  da G F (.Call (.Name "Diagrams" q) as [] pos) p σ σ' ρ s A:=by
 refine xV he fun vs aa h1 he=>?_
 refine GD he fun ah h2 he=>?_
 ·refine jn he ?_
  intro Q E h
  refine wpAny_Call_Name_kw (oH O ih.K S hl ih.K.cls (by decide) ?_)
  refine callWith_of (by rw [fK hc]; rfl) (keeps_K ih.K.keepC) (fy ih.es O hc h1 S hA.pred fun us ac aJ st r=>⟨StG.keepsK ih.K st.st,?_⟩)
  refine wpAny_call ?_
  rw [List.nil_append]
  have X:=StG.keepsK ih.K st.st
  refine aB (xH O st.st) fun ρ' st2 vr=>?_
  obtain ⟨hh,gg,dd,tt,oo⟩:=ac
  refine make_core (rest:=us) (kw:=[]) (makes_of X ih.K.makes) (looks_findIn X ih.K.init) (fun self=>bind_fn X self ih.K.initT) (.inl rfl) ?_
  refine ih.c F 1 _ _ _ _ ρ' _ _ (.ref (hh.objs.size + 1) :: us) O h2 st2.st (hA.under _) ⟨vr _,st2.vrelAll r⟩ _ fun v bY fI st3 r3=>?_
  subst r3
  refine ⟨rfl,h _ _ _ (st.trans (st2.trans st3)) ?_⟩
  exact st3.vrel (vr _)
end
section
variable {G:Gl} {F:Fm} {ρ:List (Addr×Addr)} {σ σ':AS} {s:Shared} {A:Around} {n:Nat} {p:AV} {pos:Pos}
theorem ye (ih:IH G n) (O:FmOk G.base F) {k v:Expr} {ck cv:E} (hk:CE F.ns F.up k ck) (hv:CE F.ns F.up v cv) (he:ar G.P G.W (n + 1) (.dict1 ck cv) σ=some (p,σ')) (S:StG G F ρ σ s.heap) (hA:AOk A (n + 1)):
  da G F (.Dict [some k] [v] pos) p σ σ' ρ s A:=by
 intro Q E h
 refine bc fun hn=>?_
 refine yO he fun i aa h1 he=>?_
 refine xS he fun x ah h2 he=>?_
 refine hn ?_
 ·replace he:=Option.some.inj he
  have hnew:(s.heap.push { cls:=.type "dict",data:=.dict #[] }).get? s.heap.objs.size=some { cls:=.type "dict",data:=.dict #[] }:=Heap.get?_push_size _ rfl
  have k0:∀ b x,s.heap.get? b=some x→(s.heap.push { cls:=.type "dict",data:=.dict #[] }).get? b=some x:=fun zz zz e=>Heap.get?_push_of_some _ e
  obtain ⟨S0,G0⟩:=S.more O k0 (Nat.le_refl _) ⟨_,hnew⟩
  have OI:FmOk G.base (F.more s.heap.objs.size):=O.more fun m=>S.fresh (Nat.le_refl _) (List.mem_append_right _ m)
  refine wpAny_Dict_walk (knd:=intKind G.prog G.w) rfl rfl (by simp) (by simp) ?_
  refine pairTrees_cons_walk ?_
  refine ih.e (F.more s.heap.objs.size) k ck σ _ _ ρ { s with heap:=s.heap.push { cls:=.type "dict",data:=.dict #[] } } A OI hk h1 S0 hA.pred _ E fun kv ac aJ st1 r1=>?_
  refine ih.e (F.more s.heap.objs.size) v cv aa _ _ aJ ac A OI hv h2 st1.st hA.pred _ E fun vv ao aU st2 r2=>?_
  refine pairTrees_nil_walk ?_
  have r1':=st2.vrel r1
  have rk:Rd (gr (F.more s.heap.objs.size) aU ah ao.heap) kv (.int i):=r1'
  simp only [VRel,Rd] at r1'
  obtain ⟨t,rfl⟩:=r1'
  have ha:=st2.kept s.heap.objs.size (.head _) _ (st1.kept s.heap.objs.size (.head _) _ hnew)
  refine (dT [(i,vv)] ?_ (sb _ (#[]) 0 ha (cw rfl rfl rfl) rfl (fun e m=>by simp at m) .nil (by simp)) (fun h' hm hs=>?_))
  ·show Carries (intKind G.prog G.w) [(.int i t,vv)] [(i,vv)]
   exact (cw (intKind_is _ _ _ _) rfl trivial)
  refine bc fun hn=>?_
  refine rJ hm fun o ens ep ho hx hd hkeys hp zz=>?_; clear hm
  obtain ⟨S3,G3⟩:=st2.st.iterTurn O hs.extBut ⟨_,ho⟩
  refine hn ?_
  have G3':=G3
  have hD:fB (dQ G.w) (gr (F.more s.heap.objs.size) aU ah h') ens.toList [(.int i,x)]:=by
   refine jI (prog:=G.prog) (xs:=[(.int i,.int i t,vv)]) hp (fun e m=>hkeys e (Array.mem_toList_iff.mp m)) (ij rfl ?_ (Rd.mono G3.sub r2) (by rw [eE]; simp [okk,PyData.depth]) trivial) (fun e m=>by simp at m; subst m; rfl) (by simp)
   exact Rd.mono G3.sub rk
  have u:UU F (aU++[(s.heap.objs.size,0)]) (ah.alloc (.dict [(.int i,x)])).2=UU (F.more s.heap.objs.size) aU ah:=by
   show live (aU++[(s.heap.objs.size,0)]) (ah.heap++[.dict [(.int i,x)]])++F.fr=live aU ah.heap++(s.heap.objs.size :: F.fr)
   rw [gH _ _ S3.len]; simp [liveOf]
  refine bc fun hn=>?_
  obtain ⟨S4,G4⟩:=S3.adopt (o:=.dict [(.int i,x)]) O rfl (jL o ens ep ho hx hd (by rw [u]; exact hD))
  refine cG st1.same fun il yH e1=>?_
  refine cG st2.same fun sn sW e2=>?_
  refine hn ?_
  have st:Step G F ρ σ s (aU++[(s.heap.objs.size,0)]) (ah.alloc (.dict [(.int i,x)])).2 { ao with heap:=h',toks:=ao.toks + 1 }:=by
   refine ⟨(bV h' (ao.toks + 1) (by rw [e2,e1])),(st1.pre.trans st2.pre).trans (de.snoc _ _),S4,G0.trans (st1.grow.trans (st2.grow.trans (G3.trans G4))),fun b hb o e=>?_⟩
   have hne:b≠s.heap.objs.size:=fun q=>by rw [q,cp (Nat.le_refl _)] at e; exact nS e
   exact hs.extBut b o hne (st2.kept b (.tail _ hb) o (st1.kept b (.tail _ hb) o (k0 b o e)))
  have vr:∀ g,VRel g (aU++[(s.heap.objs.size,0)]) (.ref s.heap.objs.size) (ah.alloc (.dict [(.int i,x)])).1:=fun g=>(m1a2 (s.heap.objs.size,0) (by show (aU++[_])[ah.heap.length]?=_; rw [← S3.len]; simp) rfl)
  rw [he] at st vr
  exact h _ _ _ st (vr _)
end
section
variable {G:Gl} {F:Fm} {ρ:List (Addr×Addr)} {σ σ':AS} {s:Shared} {A:Around} {n:Nat} {p:AV} {pos:Pos}
theorem i9 {l:List (Option AV)} {i j:Nat} {a w:AV} (h:(l.set i (some a))[j]?=some (some w)) (hne:i≠j):l[j]?=some (some w):=by
 rwa [List.getElem?_set_ne hne] at h
theorem wb {ns:List (Str×NameKind)} (nd:(ns.map (·.1)).Nodup) {i j:Nat} {x:Str} {k k':NameKind} (h1:ns[i]?=some (x,k)) (h2:ns[j]?=some (x,k')):i=j:=by
 have e1:(ns.map (·.1))[i]?=some x:=by rw [List.getElem?_map,h1]; rfl
 have e2:(ns.map (·.1))[j]?=some x:=by rw [List.getElem?_map,h2]; rfl
 have hi:=(List.getElem?_eq_some_iff.mp e1).1
 exact (List.getElem?_inj hi nd).mp (e1.trans e2.symm)
theorem iu (O:FmOk G.base F) (S:StG G F ρ σ s.heap) {i:Nat} {x:Str} {k:NameKind} {a:AV} {v:Value} (hi:F.ns[i]?=some (x,k)) (hk:k=.local∨k=.cell) (rv:VRel (gr F ρ σ s.heap) ρ v a)
  {Q:Unit→Shared→Prop} {E:Value→Shared→Prop} (h:∀ s',Step G F ρ σ s ρ (σ.setLoc i a) s'→Q () s'):wpAny (model G.prog G.w) A (storeName F.env x v) Q E s:=by
 have hl:=O.kindOf (fe O.nodup hi)
 have hp:(F.env.scope.kind == .class || (F.env.scope.kind == .module && F.env.locals != F.env.globals))=false:=by rw [O.kind]; rfl
 have hlen:(σ.setLoc i a).loc.length=F.ns.length:=by simp [AS.setLoc,S.fd.loclen]
 rcases hk with rfl | rfl
 ·refine aB S.fd.ns fun m hn hm=>?_
  refine wpAny_storeName_local hl hn (fun h' hn' hs'=>h _ ?_) hp
  have hc:F.env.locals∈UU F ρ σ:=List.mem_append_right _ O.frL
  have G0:=bW.of_turn (U:=UU F ρ σ) hs'.extBut hc
  refine dB (id hn') fun o es ep ho zz=>?_
  have hnl:F.env.locals ∉ live ρ σ.heap:=fun q=>(List.nodup_append.mp S.nd).2.2 _ q _ O.frL rfl
  have hfd:FrD F h' (hideAll h' (UU F ρ σ)) ρ (σ.setLoc i a).loc (σ.setLoc i a).out→Step G F ρ σ s ρ (σ.setLoc i a) { s with heap:=h',toks:=s.toks + 1 }:=fun fd=>by
   obtain ⟨S',g⟩:=S.turn (σ':=σ.setLoc i a) (h':=h') hs'.extBut hc ⟨_,ho⟩ rfl rfl (fun j b p f1 f2=>.inl ⟨fun q=>hnl (cA f1 f2 q),f2⟩) fd
   exact ⟨(bV h' (s.toks + 1) rfl),de.refl _,S',g,fun b hb o e=>hs'.extBut b o (fun q=>O.locN (q▸hb)) e⟩
  refine hfd ⟨hlen,(m1a2 _ hn' (fun j y hy w hw=>?_)),fun j y hy=>?_,fun j y hy hu=>?_⟩
  ·by_cases hj:i=j
   ·induction hj
    rw [hi] at hy; cases hy
    have hlt:i < σ.loc.length:=by rw [S.fd.loclen]; exact (List.getElem?_eq_some_iff.mp hi).1
    have:(σ.setLoc i a).loc[i]?=some (some a):=by simp [AS.setLoc,hlt]
    rw [this] at hw; cases hw
    exact (m1a2 v (if_pos rfl) (VRel.mono G0.sub (de.refl _) rv))
   ·refine aB (hm j y hy w (i9 hw hj)) fun val e1 e2=>?_
    refine (m1a2 val ((if_neg fun q=>hj ?_).trans e1) (VRel.mono G0.sub (de.refl _) e2))
    induction q; exact wb O.nodup hi hy
  ·refine cu (S.fd.cells j y hy) fun c cv e1 hcell hr=>?_
   refine fq (O.cell y (fe O.nodup hy)) fun c' e2 zz hne=>?_
   rw [e1] at e2; induction Option.some.inj e2
   refine (dr c cv e1 (hcell.sameBut hs' hne) (fun w hw=>?_))
   have hj:i≠j:=fun q=>by induction q; rw [hi] at hy; cases hy
   refine aB (hr w (i9 hw hj)) fun val q1 q2=>?_
   exact (m1a2 val q1 (VRel.mono G0.sub (de.refl _) q2))
  ·refine cu (S.fd.outs j y hy hu) fun c cv e1 hcell hr=>?_
   have hg:=O.outG y c hy ⟨j,hu⟩ e1
   refine (dr c cv e1 (hcell.sameBut hs' (fun q=>O.locN (q▸hg))) (fun w hw=>?_))
   refine aB (hr w hw) fun val q1 q2=>?_
   exact (m1a2 val q1 (VRel.mono G0.sub (de.refl _) q2))
 ·refine cu (S.fd.cells i x hi) fun c cv e1 hcell hr=>?_
  have hlk:=fe O.nodup hi
  refine wpAny_storeName_cell O.kind hl e1 hcell fun h' hc' hs'=>h _ ?_
  have hcf:=O.cellIn hlk e1
  have hc:c∈UU F ρ σ:=List.mem_append_right _ hcf
  have G0:=bW.of_turn (U:=UU F ρ σ) hs'.extBut hc
  refine aB (id hc') fun o ho zz=>?_
  have hnl:c ∉ live ρ σ.heap:=fun q=>(List.nodup_append.mp S.nd).2.2 _ q _ hcf rfl
  have hcg:=O.cellN x c hlk e1
  refine fq (O.cell x hlk) fun c'' e3 zz hcL=>?_
  rw [e1] at e3; induction Option.some.inj e3
  have hfd:FrD F h' (hideAll h' (UU F ρ σ)) ρ (σ.setLoc i a).loc (σ.setLoc i a).out→Step G F ρ σ s ρ (σ.setLoc i a) { s with heap:=h',toks:=s.toks }:=fun fd=>by
   obtain ⟨S',g⟩:=S.turn (σ':=σ.setLoc i a) (h':=h') hs'.extBut hc ⟨_,ho⟩ rfl rfl (fun j b p f1 f2=>.inl ⟨fun q=>hnl (cA f1 f2 q),f2⟩) fd
   exact ⟨(bV h' s.toks rfl),de.refl _,S',g,fun b hb o e=>hs'.extBut b o (fun q=>hcg (q▸hb)) e⟩
  refine hfd ⟨hlen,?_,fun j y hy=>?_,fun j y hy hu=>?_⟩
  ·refine aB S.fd.ns fun m hn hm=>?_
   refine (m1a2 m (hn.sameBut hs' hcL.symm) (fun j y hy w hw=>?_))
   have hj:i≠j:=fun q=>by induction q; rw [hi] at hy; cases hy
   refine aB (hm j y hy w (i9 hw hj)) fun val q1 q2=>?_
   exact (m1a2 val q1 (VRel.mono G0.sub (de.refl _) q2))
  ·by_cases hj:i=j
   ·induction hj
    rw [hi] at hy; cases hy
    refine (dr c (some v) e1 hc' (fun w hw=>?_))
    have hlt:i < σ.loc.length:=by rw [S.fd.loclen]; exact (List.getElem?_eq_some_iff.mp hi).1
    have:(σ.setLoc i a).loc[i]?=some (some a):=by simp [AS.setLoc,hlt]
    rw [this] at hw; cases hw
    exact (m1a2 v rfl (VRel.mono G0.sub (de.refl _) rv))
   ·refine cu (S.fd.cells j y hy) fun d dv f1 hd hr'=>?_
    have hne:d≠c:=fun q=>hj (by
     have:=O.apart x y c e1 (q▸f1)
     induction this
     exact wb O.nodup hi hy)
    refine (dr d dv f1 (hd.sameBut hs' hne) (fun w hw=>?_))
    refine aB (hr' w (i9 hw hj)) fun val q1 q2=>?_
    exact (m1a2 val q1 (VRel.mono G0.sub (de.refl _) q2))
  ·refine cu (S.fd.outs j y hy hu) fun d dv f1 hd hr'=>?_
   have hg:=O.outG y d hy ⟨j,hu⟩ f1
   refine (dr d dv f1 (hd.sameBut hs' (fun q=>hcg (q▸hg))) (fun w hw=>?_))
   refine aB (hr' w hw) fun val q1 q2=>?_
   exact (m1a2 val q1 (VRel.mono G0.sub (de.refl _) q2))
theorem o9 {ns:List (Str×NameKind)} {e:Expr} {t:T} {env:Env} {es:List Expr} (h:CT ns e t):assignEach (e :: es) env=(false,assign e env) :: assignEach es env:=by cases h <;> rfl
theorem wt {ns:List (Str×NameKind)} {env:Env} {es:List Expr}:∀ {ts:List T},CTs ns es ts→assignEach es env=es.map fun e=>(false,assign e env):=by
 induction es with
 | nil=>intro _ _; rfl
 | cons e es ih=>intro ts h; cases h with
  | cons h hs=>rw [o9 h,ih hs]; rfl
theorem CTs.len {ns:List (Str×NameKind)} {es:List Expr}:∀ {ts:List T},CTs ns es ts→es.length=ts.length:=by
 induction es with
 | nil=>intro ts h; cases h; rfl
 | cons e es ih=>intro ts h; cases h with
  | cons _ h=>exact congrArg (· + 1) (ih h)
set_option tactic.hygienic true in
theorem rp (O:FmOk G.base F) (hh:A.handled=none):∀ n:Nat,
  (∀ (e:Expr) (t:T) (σ σ':AS) (s:Shared) (a:AV) (v:Value) (Q:Unit→Shared→Prop) (E:Value→Shared→Prop),CT F.ns e t→ds n t a σ=some σ'→StG G F ρ σ s.heap→VRel (gr F ρ σ s.heap) ρ v a→
   (∀ s',Step G F ρ σ s ρ σ' s'→Q () s')→wpAny (model G.prog G.w) A (assign e F.env v) Q E s)∧
  (∀ (es:List Expr) (ts:List T) (σ σ':AS) (s:Shared) (xs:List PyData) (vs:List Value) (Q:Unit→Shared→Prop) (E:Value→Shared→Prop),CTs F.ns es ts→eU n ts xs σ=some σ'→StG G F ρ σ s.heap→RdAll (gr F ρ σ s.heap) vs xs→
   (∀ s',Step G F ρ σ s ρ σ' s'→Q () s')→wpAny (model G.prog G.w) A (assignInOrder (es.map fun e=>assign e F.env) vs) Q E s):=by
 intro n
 induction n with
 | zero=>exact ⟨fun zz zz zz zz zz zz zz zz zz zz h=>(by exact nS h),fun zz zz zz zz zz zz zz zz zz zz h=>(by exact nS h)⟩
 | succ n ih=>
  refine ⟨fun e t σ σ' s a v Q E hc he S rv h=>?_,fun es ts σ σ' s xs vs Q E hc he S rv h=>?_⟩
  ·cases hc with
   | loc hi hk=>
    cases xv he
    exact assign_Name (iu O S hi hk rv h)
   | tup hts=>
    induction a using AV.casesOn with
    | o k=>exact nS he
    | d a=>
    induction ha:sV a using Option.casesOn with
    | none=>cases a <;> first | cases he | exact sN ha
    | some xs=>
    cases mS ha
    clear ha
    have hlen:=kJ (show eU n _ xs σ=some σ' from he)
    have rv':=rv
    simp only [VRel,Rd] at rv'
    refine eV rv' fun b vs nn e_1 e1 ra=>?_; clear rv'; subst e_1
    have hT:s.heap.IsTuple b vs:=(dT _ (S.grH _ _ e1) rfl ⟨_,rfl⟩)
    have hl:=ra.length
    have hE:=wt (env:=F.env) hts
    refine wpAny_assign_Tuple hh hT (by rw [hE]; simp at hl ⊢; rw [hts.len]; lia) (by rw [hE]; simp) fun h' hx=>?_
    rw [hE,List.map_map]
    have k:∀ b o,s.heap.get? b=some o→h'.get? b=some o:=fun b o e=>hx b o (fun q=>by rw [q,cp (Nat.le_refl _)] at e; exact nS e) e
    have st:=Step.keeps (tk:=s.toks) O S k
    exact ih.2 _ _ _ _ { s with heap:=h' } _ _ Q E hts he st.st (st.rdAll ra) fun s' st'=>h s' (st.trans st')
  ·cases hc with
   | nil=>
    induction xs using List.casesOn with
    | nil=>
     induction Option.some.inj he
     simp only [RdAll] at rv; subst rv
     exact wpAny_assignInOrder_none (h _ (Step.refl S))
    | cons _ _=>exact nS he
   | cons h1 h2=>
    rename_i e t es ts
    induction xs using List.casesOn with
    | nil=>exact nS he
    | cons x xs=>
     simp only [RdAll] at rv
     refine cu rv fun v r e_2 r1 r2=>?_; clear rv; subst e_2
     refine u5 he fun aa he1 he=>?_
     refine wpAny_assignInOrder_more (ih.1 e t σ aa s (.d x) v _ E h1 he1 S r1 fun ac st1=>?_)
     exact ih.2 es ts aa σ' ac xs r Q E h2 he st1.st (st1.rdAll r2) fun s' st'=>h s' (st1.trans st')
theorem jm (O:FmOk G.base F) (hh:A.handled=none) {n:Nat} {e:Expr} {t:T} {a:AV} {v:Value} {Q:Unit→Shared→Prop} {E:Value→Shared→Prop} (hc:CT F.ns e t) (he:ds n t a σ=some σ') (S:StG G F ρ σ s.heap) (rv:VRel (gr F ρ σ s.heap) ρ v a)
  (h:∀ s',Step G F ρ σ s ρ σ' s'→Q () s'):wpAny (model G.prog G.w) A (assign e F.env v) Q E s:=(rp O hh n).1 e t σ σ' s a v Q E hc he S rv h
end
section
variable {C:Addr} {hs:PyData→Int} {base:Heap} {F:Fm} {ρ:List (Addr×Addr)} {σ:AS} {h:Heap}
theorem St.hidTurn {h':Heap} {W:List Addr} (O:FmOk base F) (S:St C hs base F ρ σ h) (hW:∀ b∈W,b∈F.gd) (hx:∀ b o,b ∉ W→h.get? b=some o→h'.get? b=some o) (hex:∀ b∈W,∃ o,h'.get? b=some o) (hnc:∀ b∈W,∀ o,h.get? b=some o→∀ v,o.data≠.cell v):
  St C hs base F ρ σ h'∧bW h (UU F ρ σ) h' (UU F ρ σ):=by
 have nd:=List.nodup_append.mp S.nd
 have hfr:∀ b∈W,b∈F.fr:=fun b m=>O.gdFr b (hW b m)
 have hl:∀ b∈W,b ∉ live ρ σ.heap:=fun b m q=>nd.2.2 b q b (hfr b m) rfl
 have G0:bW h (UU F ρ σ) h' (UU F ρ σ):=fun b o e n=>⟨hx b o (fun q=>n (List.mem_append_right _ (hfr b q))) e,n⟩
 refine ⟨⟨S.len,fun b o e=>G0.hide b o (S.bas b o e),S.nd,fun b m=>?_,fun j a o e1 e2=>(S.objs j a o e1 e2).mono (fun b hb x ex=>hx b x (fun q=>hl b q (cA e1 e2 hb)) ex) G0.sub (de.refl _),?_⟩,G0⟩
 ·obtain ⟨z,t_1⟩:=S.ex b m; obtain ⟨o,e⟩:=t_1
  refine ⟨z,?_⟩
  by_cases q:b∈W
  ·exact hex b q
  ·exact ⟨o,hx b o q e⟩
 ·have hL:F.env.locals ∉ W:=fun q=>O.locN (hW _ q)
  refine aB S.fd.ns fun m t_2 k=>?_; refine dB t_2 fun o es ep e r=>?_; clear t_2
  refine ⟨S.fd.loclen,(m1a2 m (fc o es ep (hx _ _ hL e) r) (fun i x hx' v hv=>aB (k i x hx' v hv) fun val a b=>(m1a2 val a (b.mono G0.sub (de.refl _))))),fun i x hi=>?_,fun i x hi hu=>?_⟩
  ·refine cu (S.fd.cells i x hi) fun c cv e t_3 k=>?_; refine aB t_3 fun o ho hd=>?_; clear t_3
   have hc:=O.cellN x c (dX O.nodup (List.mem_of_getElem? hi)) e
   exact (dr c cv e (m1a2 o (hx _ _ (fun q=>hc (hW _ q)) ho) hd) (fun v hv=>aB (k v hv) fun val a b=>(m1a2 val a (b.mono G0.sub (de.refl _)))))
  ·refine cu (S.fd.outs i x hi hu) fun c cv e t_4 k=>?_; refine aB t_4 fun o ho hd=>?_; clear t_4
   exact (dr c cv e (m1a2 o (hx _ _ (fun q=>hnc c q o ho _ hd) ho) hd) (fun v hv=>aB (k v hv) fun val a b=>(m1a2 val a (b.mono G0.sub (de.refl _)))))
end
structure Turned (G:Gl) (W:List Addr) (F:Fm) (ρ:List (Addr×Addr)) (σ:AS) (s s':Shared):Prop where
 same:∃ h' tk,s'={ s with heap:=h',toks:=tk }
 st:StG G F ρ σ s'.heap
 grow:bW s.heap (UU F ρ σ) s'.heap (UU F ρ σ)
 kept:∀ b∈F.gd,b ∉ W→∀ o,s.heap.get? b=some o→s'.heap.get? b=some o
structure Iter (G:Gl) (A:Around) (target:Expr) (I:Addr) (W:List Addr) (Z:List PyData→Heap→Heap→Prop):Prop where
 mem:I∈W
 mono:∀ {xs:List PyData} {g h g' h':Heap},Z xs g h→Sub g g'→(∀ b∈W,∀ o,h.get? b=some o→h'.get? b=some o)→Z xs g' h'
 turn:∀ (F:Fm) (ρ:List (Addr×Addr)) (σ:AS) (s:Shared) (x:PyData) (xs:List PyData) (Q:Value→Shared→Prop) (E:Value→Shared→Prop),FmOk G.base F→(∀ b∈W,b∈F.gd)→StG G F ρ σ s.heap→Z (x :: xs) (gr F ρ σ s.heap) s.heap→
  (∀ v s',Turned G W F ρ σ s s'→Rd (gr F ρ σ s'.heap) v x→Z xs (gr F ρ σ s'.heap) s'.heap→Q v s')→
  wpAny (model G.prog G.w) A (pyNext (.ref I)) (fun r ac=>∃ v,r=some v∧wpAny (model G.prog G.w) A (letOwnedTupleGo target (.ref I) v) (fun zz ao=>Q v ao) E ac) E s
 done:∀ (s:Shared) (g:Heap) (Q:Shared→Prop) (E:Value→Shared→Prop),Z [] g s.heap→(∀ b o,g.get? b=some o→s.heap.get? b=some o)→
  (∀ h' tk,(∀ b o,b ∉ W→s.heap.get? b=some o→h'.get? b=some o)→Q { s with heap:=h',toks:=tk })→wpAny (model G.prog G.w) A (pyNext (.ref I)) (fun r ac=>r=none∧Q ac) E s
 self:∀ {xs:List PyData} {g:Heap} (s:Shared) (Q:Value→Shared→Prop) (E:Value→Shared→Prop),Z xs g s.heap→Q (.ref I) s→wpAny (model G.prog G.w) A (pyIter (.ref I)) Q E s
 ex:∀ {xs:List PyData} {g h:Heap},Z xs g h→∀ b∈W,∃ o,h.get? b=some o
section
variable {G:Gl} {F:Fm} {ρ:List (Addr×Addr)} {σ:AS} {s:Shared} {A:Around}
theorem Turned.one {I:Addr} {h':Heap} {tk:Nat} (O:FmOk G.base F) (S:StG G F ρ σ s.heap) (hI:I∈F.gd) (hx:Heap.ExtBut I s.heap h') (hex:∃ o,h'.get? I=some o) (hnc:∀ o,s.heap.get? I=some o→∀ v,o.data≠.cell v):Turned G [I] F ρ σ s { s with heap:=h',toks:=tk }:=by
 obtain ⟨S',g⟩:=S.hidTurn (W:=[I]) O (fun b m=>by simp at m; exact m▸hI) (fun b o n e=>hx b o (by simpa using n) e) (fun b m=>by simp at m; exact m▸hex) (fun b m=>by simp at m; subst m; exact hnc)
 exact ⟨(bV _ _ rfl),S',g,fun b zz n o e=>hx b o (by simpa using n) e⟩
noncomputable def y5 (I:Addr) (xs:List PyData) (g h:Heap):Prop:=∃ l i vs n ys,h.IsListIter I l i∧g.get? l=some { cls:=.type "list",data:=.seq vs n }∧RdAll g vs.toList ys∧ys.drop i=xs
noncomputable def wZ (I:Addr) (xs:List PyData) (g h:Heap):Prop:=∃ l i vs n ys,h.IsTupleIter I l i∧g.get? l=some { cls:=.type "tuple",data:=.seq vs n }∧RdAll g vs.toList ys∧ys.drop i=xs
noncomputable def sK (I:Addr) (xs:List PyData) (_g h:Heap):Prop:=∃ a n c,IsRangeIter h I a ((n:Nat):Int) c∧xs=iz c n a
noncomputable def y6 (I J:Addr) (xs:List PyData) (g h:Heap):Prop:=∃ l i vs n ys old,IsEnum h I J ((i:Nat):Int) old∧h.IsListIter J l i∧g.get? l=some { cls:=.type "list",data:=.seq vs n }∧RdAll g vs.toList ys∧xs=kE i (ys.drop i)
theorem ll {ys xs:List PyData} {i:Nat} {x:PyData} (h:ys.drop i=x :: xs):ys[i]?=some x∧ys.drop (i + 1)=xs:=by
 constructor
 ·have:=List.getElem?_drop (xs:=ys) (i:=i) (j:=0)
  rw [h] at this; simpa using this.symm
 ·rw [← List.drop_drop,h]; rfl
theorem n8 {ys:List PyData} {i:Nat} (h:ys.drop i=[]):ys[i]?=none:=by
 rw [List.getElem?_eq_none_iff]
 have:=congrArg List.length h
 simp at this; lia
theorem iA {g:Heap} {vs:Array Value} {ys:List PyData} {i:Nat} (c:RdAll g vs.toList ys) (d:ys.drop i=[]):vs[i]?=none:=by
 have hn:=n8 d
 have hlen:=c.length
 rw [List.getElem?_eq_none_iff] at hn
 rw [Array.getElem?_eq_none_iff]
 simp at hlen; exact va ‹_› ‹_›
theorem ii {h:Heap} {I l:Addr} {i:Nat} (x:h.IsListIter I l i):∀ o,h.get? I=some o→∀ v,o.data≠.cell v:=fun o e v q=>by
 refine fq x fun o' e' zz d=>?_; clear x
 rw [e] at e'; cases e'
 rw [d] at q; cases q
theorem kZ {h:Heap} {I l:Addr} {i:Nat} (x:h.IsTupleIter I l i):∀ o,h.get? I=some o→∀ v,o.data≠.cell v:=fun o e v q=>by
 refine fq x fun o' e' zz d=>?_; clear x
 rw [e] at e'; cases e'
 rw [d] at q; cases q
theorem uH (hh:A.handled=none) (target:Expr) (I:Addr):Iter G A target I [I] (y5 I) where
 mem:=.head _
 mono:=fun z k kW=>by
  refine bc fun hn=>?_
  refine nZ z fun l i vs n ys a b c d=>?_; clear z
  refine aB a fun o e1 e2=>?_; clear a
  refine hn ?_
  exact (uA l i vs n ys (m1a2 o (kW I (.head _) o e1) e2) (k _ _ b ⟨.inl rfl,(bV _ _ rfl)⟩) (c.mono k) d)
 turn:=fun F ρ σ s x xs Q E O hW S z hQ=>by
  refine bc fun hn=>?_
  refine nZ z fun l i vs n ys a b c d=>?_; clear z
  obtain ⟨d1,d2⟩:=ll d
  refine aB (c.get d1) fun v hv rv=>?_
  refine hn ?_
  have hl:s.heap.IsList l vs:=(dT _ (S.grH _ _ b) rfl ⟨n,rfl⟩)
  refine wpAny_pyNext_list_item a hl (x:=v) (by simpa using hv) fun h' hit' hs'=>(m1a2 v rfl (letGo_listiter (t:=l) hit' ?_))
  have hex:∃ o,h'.get? I=some o:=by refine aB hit' fun o e zz=>?_; clear hit'; exact ⟨o,e⟩
  have T:=Turned.one (tk:=s.toks) O S (hW I (.head _)) hs'.extBut hex (ii a)
  exact hQ v _ T (rv.mono T.grow.sub) (uA l (i + 1) vs n ys hit' (T.grow.sub _ _ b ⟨.inl rfl,(bV _ _ rfl)⟩) (c.mono T.grow.sub) d2)
 done:=fun s g Q E z kg hQ=>by
  refine nZ z fun l i vs n ys a b c d=>?_; clear z
  have hl:s.heap.IsList l vs:=(dT _ (kg _ _ b) rfl ⟨n,rfl⟩)
  exact wpAny_pyNext_list_end hh a hl (iA c d) fun h' hx=>⟨rfl,hQ h' s.toks fun b o n e=>hx b o (by simpa using n) e⟩
 self:=fun s Q E z hQ=>nZ z fun l i vs n ys a b c d=>wpAny_pyIter_listiter a hQ
 ex:=fun z x m=>by refine nZ z fun l i vs n ys a b c d=>?_; clear z; simp at m; subst m; refine aB a fun o e zz=>?_; exact ⟨o,e⟩
theorem sh (hh:A.handled=none) (target:Expr) (I:Addr):Iter G A target I [I] (wZ I) where
 mem:=.head _
 mono:=fun z k kW=>by
  refine bc fun hn=>?_
  refine nZ z fun l i vs n ys a b c d=>?_; clear z
  refine aB a fun o e1 e2=>?_; clear a
  refine hn ?_
  exact (uA l i vs n ys (m1a2 o (kW I (.head _) o e1) e2) (k _ _ b ⟨.inr rfl,(bV _ _ rfl)⟩) (c.mono k) d)
 turn:=fun F ρ σ s x xs Q E O hW S z hQ=>by
  refine bc fun hn=>?_
  refine nZ z fun l i vs n ys a b c d=>?_; clear z
  obtain ⟨d1,d2⟩:=ll d
  refine aB (c.get d1) fun v hv rv=>?_
  refine hn ?_
  have hl:s.heap.IsTuple l vs:=(dT _ (S.grH _ _ b) rfl ⟨n,rfl⟩)
  refine wpAny_pyNext_tuple_item a hl (x:=v) (by simpa using hv) fun h' hit' hs'=>(m1a2 v rfl (letGo_tupleiter (t:=l) hit' ?_))
  have hex:∃ o,h'.get? I=some o:=by refine aB hit' fun o e zz=>?_; clear hit'; exact ⟨o,e⟩
  have T:=Turned.one (tk:=s.toks) O S (hW I (.head _)) hs'.extBut hex (kZ a)
  exact hQ v _ T (rv.mono T.grow.sub) (uA l (i + 1) vs n ys hit' (T.grow.sub _ _ b ⟨.inr rfl,(bV _ _ rfl)⟩) (c.mono T.grow.sub) d2)
 done:=fun s g Q E z kg hQ=>by
  refine nZ z fun l i vs n ys a b c d=>?_; clear z
  have hl:s.heap.IsTuple l vs:=(dT _ (kg _ _ b) rfl ⟨n,rfl⟩)
  exact wpAny_pyNext_tuple_end hh a hl (iA c d) fun h' hx=>⟨rfl,hQ h' s.toks fun b o n e=>hx b o (by simpa using n) e⟩
 self:=fun s Q E z hQ=>nZ z fun l i vs n ys a b c d=>wpAny_pyIter_tupleiter a hQ
 ex:=fun z x m=>by refine nZ z fun l i vs n ys a b c d=>?_; clear z; simp at m; subst m; refine aB a fun o e zz=>?_; exact ⟨o,e⟩
theorem uD {target:Expr} {I:Addr} {i:Int} {t:Tok} {Q:Unit→Shared→Prop} {E:Value→Shared→Prop} {M:Model} (h:Q () s):wpAny M A (letOwnedTupleGo target (.ref I) (.int i t)) Q E s:=by
 unfold letOwnedTupleGo
 cases target <;> exact wpAny_pure h
theorem nx (hh:A.handled=none) (target:Expr) (I:Addr):Iter G A target I [I] (sK I) where
 mem:=.head _
 mono:=fun z k kW=>dB z fun a n c e1 e2=>(fc a n c (kW I (.head _) _ e1) e2)
 turn:=fun F ρ σ s x xs Q E O hW S z hQ=>by
  refine dB z fun a n c e1 e2=>?_; clear z
  induction n using Nat.casesOn with
  | zero=>simp [iz] at e2
  | succ n=>
   simp only [iz,List.cons.injEq] at e2
   obtain ⟨rfl,rfl⟩:=e2
   refine wpAny_pyNext_range_item e1 (by lia) fun h' hit' hs'=>(m1a2 _ rfl (uD ?_))
   have T:=Turned.one (tk:=s.toks + 1) O S (hW I (.head _)) hs'.extBut ⟨_,hit'⟩ (fun o e v q=>by rw [e1] at e; cases e; cases q)
   refine hQ _ _ T (by simp [Rd]) (fc (a + c) n c ?_ rfl)
   have:((n + 1:Nat):Int) - 1=n:=by lia
   rw [this] at hit'; exact hit'
 done:=fun s g Q E z kg hQ=>by
  refine dB z fun a n c e1 e2=>?_; clear z
  induction n using Nat.casesOn with
  | succ n=>simp [iz] at e2
  | zero=>exact wpAny_pyNext_range_end hh e1 (by decide) fun h' hx=>⟨rfl,hQ h' s.toks fun b o n e=>hx b o (by simpa using n) e⟩
 self:=fun s Q E z hQ=>dB z fun a n c e1 e2=>wpAny_pyIter_rangeiter e1 hQ
 ex:=fun z x m=>by refine dB z fun a n c e1 e2=>?_; clear z; simp at m; subst m; exact ⟨_,e1⟩
theorem uI (hh:A.handled=none) (elts:List Expr) (k:Nat) (pos:Pos) (I J:Addr) (hIJ:I≠J):Iter G A (.Tuple elts k pos) I [I,J] (y6 I J) where
 mem:=.head _
 mono:=fun z k kW=>by
  refine bc fun hn=>?_
  refine ve z fun l i vs n ys old e a b c d=>?_; clear z
  refine aB a fun o e1 e2=>?_; clear a
  refine hn ?_
  exact (zV l i vs n ys old (kW I (.head _) _ e) (m1a2 o (kW J (.tail _ (.head _)) o e1) e2) (k _ _ b ⟨.inl rfl,(bV _ _ rfl)⟩) (c.mono k) d)
 turn:=fun F ρ σ s x xs Q E O hW S z hQ=>by
  refine ve z fun l i vs n ys old e a b c d=>?_; clear z
  have hI:=hW I (.head _)
  have hJ:=hW J (.tail _ (.head _))
  induction hy:ys.drop i using List.casesOn with
  | nil=>rw [hy] at d; simp [kE] at d
  | cons y r=>
   rw [hy] at d
   simp only [kE,List.cons.injEq] at d
   refine bc fun hn=>?_
   obtain ⟨rfl,rfl⟩:=d
   obtain ⟨d1,d2⟩:=ll hy
   refine aB (c.get d1) fun v hv rv=>?_
   refine hn ?_
   have hl:s.heap.IsList l vs:=(dT _ (S.grH _ _ b) rfl ⟨n,rfl⟩)
   have hTU:s.heap.objs.size ∉ UU F ρ σ:=S.fresh (Nat.le_refl _)
   refine wpAny_pyNext_enum_item e a hl (x:=v) (by simpa using hv) hIJ fun h' hE hJ' hT hsz hk=>(m1a2 _ rfl ?_)
   have hex1:∃ o,h'.get? J=some o:=by refine aB hJ' fun o q zz=>?_; clear hJ'; exact ⟨o,q⟩
   refine wpAny_letOwnedTupleGo_enum hE fun h'' hE' hs''=>?_
   have hk':∀ b o,b ∉ [I,J]→s.heap.get? b=some o→h''.get? b=some o:=fun b o n q=>by
    simp at n
    exact hs''.extBut b o n.1 (hk b o n.1 n.2 q)
   obtain ⟨S',g⟩:=S.hidTurn (W:=[I,J]) O (fun b m=>by simp at m; rcases m with rfl | rfl <;> assumption) hk' (fun b m=>by
    simp at m
    rcases m with rfl | rfl
    ·exact ⟨_,hE'⟩
    ·obtain ⟨o,q⟩:=hex1; exact ⟨o,hs''.extBut _ o (Ne.symm hIJ) q⟩) (fun b m=>by
    simp at m
    rcases m with rfl | rfl
    ·intro o q v z; rw [e] at q; cases q; cases z
    ·exact ii a)
   have T:Turned G [I,J] F ρ σ s { s with heap:=h'',toks:=s.toks + 1 }:=⟨(bV _ _ rfl),S',g,fun b zz n o q=>hk' b o n q⟩
   have hTI:s.heap.objs.size≠I:=fun q=>by
    have e':s.heap.get? I=some _:=e
    rw [← q,cp (Nat.le_refl _)] at e'; cases e'
   have hT':(gr F ρ σ h'').get? s.heap.objs.size=some { cls:=.type "tuple",data:=.seq #[.int i s.toks,v] }:=hideAll_get _ (hs''.extBut _ _ hTI hT) hTU
   refine hQ _ _ T ?_ (zV l (i + 1) vs n ys v hE' ?_ (T.grow.sub _ _ b ⟨.inl rfl,(bV _ _ rfl)⟩) (c.mono T.grow.sub) ?_)
   ·simp only [Rd]
    refine (k9 _ _ _ rfl hT' ?_)
    simp only [RdAll]
    exact (dr _ _ rfl ⟨_,rfl⟩ (dr _ _ rfl (rv.mono T.grow.sub) rfl))
   ·refine aB hJ' fun o q1 q2=>?_; clear hJ'
    exact (m1a2 o (hs''.extBut _ o (Ne.symm hIJ) q1) q2)
   ·rw [d2]; simp
 done:=fun s g Q E z kg hQ=>by
  refine ve z fun l i vs n ys old e a b c d=>?_; clear z
  have hd:ys.drop i=[]:=by
   induction hy:ys.drop i using List.casesOn with
   | nil=>rfl
   | cons y r=>rw [hy] at d; simp [kE] at d
  have hl:s.heap.IsList l vs:=(dT _ (kg _ _ b) rfl ⟨n,rfl⟩)
  exact wpAny_pyNext_enum_end hh e a hl (iA c hd) fun h' hx=>⟨rfl,hQ h' s.toks fun b o n e=>hx b o (by simp at n; exact n.2) e⟩
 self:=fun s Q E z hQ=>ve z fun l i vs n ys old e a b c d=>wpAny_pyIter_enum e hQ
 ex:=fun z x m=>by
  refine ve z fun l i vs n ys old e a b c d=>?_; clear z
  simp at m
  rcases m with rfl | rfl
  ·exact ⟨_,e⟩
  ·refine aB a fun o q zz=>?_; clear a; exact ⟨o,q⟩
end
noncomputable def Fm.mores (F:Fm) (W:List Addr):Fm:={ F with fr:=W++F.fr,gd:=W++F.gd }
structure Src (G:Gl) (A:Around) (target:Expr) (F:Fm) (ρ:List (Addr×Addr)) (σ:AS) (s:Shared) (xs:List PyData) (ρ':List (Addr×Addr)) (σ':AS) (s':Shared) (I:Addr) (W:List Addr) (Z:List PyData→Heap→Heap→Prop):Prop where
 same:∃ h' tk,s'={ s with heap:=h',toks:=tk }
 pre:de ρ ρ'
 st:StG G (F.mores W) ρ' σ' s'.heap
 grow:bW s.heap (UU F ρ σ) s'.heap (UU (F.mores W) ρ' σ')
 kept:∀ b∈F.gd,∀ o,s.heap.get? b=some o→s'.heap.get? b=some o
 ok:FmOk G.base (F.mores W)
 it:Iter G A target I W Z
 z:Z xs (gr (F.mores W) ρ' σ' s'.heap) s'.heap
section
variable {G:Gl} {F:Fm} {ρ ρ':List (Addr×Addr)} {σ σ':AS} {s s':Shared} {A:Around} {n:Nat} {xs:List PyData} {target:Expr}
theorem FmOk.mores {base:Heap} (O:FmOk base F) {W:List Addr} (hW:∀ b∈W,b ∉ F.fr):FmOk base (F.mores W) where
 kind:=O.kind
 glob:=O.glob
 blt:=O.blt
 names:=O.names
 defn:=O.defn
 nodup:=O.nodup
 above:=O.above
 frL:=List.mem_append_right _ O.frL
 cell:=fun x hx=>fq (O.cell x hx) fun c a b d=>(dT c a (List.mem_append_right _ b) d)
 apart:=O.apart
 gdFr:=fun b hb=>by
  rcases List.mem_append.mp hb with q | q
  ·exact List.mem_append_left _ q
  ·exact List.mem_append_right _ (O.gdFr b q)
 locN:=fun m=>by
  rcases List.mem_append.mp m with q | q
  ·exact hW _ q O.frL
  ·exact O.locN q
 cellN:=fun x c hx hc m=>by
  rcases List.mem_append.mp m with q | q
  ·exact hW _ q (O.cellIn hx hc)
  ·exact O.cellN x c hx hc q
 outG:=fun x c hx hu hc=>List.mem_append_right _ (O.outG x c hx hu hc)
theorem St.mores {C:Addr} {hs:PyData→Int} {base:Heap} {h h':Heap} {W:List Addr} (O:FmOk base F) (S:St C hs base F ρ σ h) (k:∀ b x,h.get? b=some x→h'.get? b=some x) (hW:∀ b∈W,h.objs.size≤b∧∃ o,h'.get? b=some o) (hn:W.Nodup):
  St C hs base (F.mores W) ρ σ h'∧bW h (UU F ρ σ) h' (UU (F.mores W) ρ σ):=by
 have hm:∀ b,b∈UU (F.mores W) ρ σ ↔ b∈W∨b∈UU F ρ σ:=fun b=>by
  show b∈live ρ σ.heap++(W++F.fr) ↔ b∈W∨b∈live ρ σ.heap++F.fr
  simp only [List.mem_append]
  constructor
  ·rintro (m | m | m) <;> simp [m]
  ·rintro (m | m | m) <;> simp [m]
 have hWU:∀ b∈W,b ∉ UU F ρ σ:=fun b m=>S.fresh (hW b m).1
 have G:bW h (UU F ρ σ) h' (UU (F.mores W) ρ σ):=fun b o e n=>⟨k b o e,fun m=>by
  rcases (hm b).mp m with q | m
  ·rw [cp (hW b q).1] at e; exact nS e
  ·exact n m⟩
 refine ⟨⟨S.len,fun b o e=>G.hide b o (S.bas b o e),?_,fun b m=>?_,fun j a o f1 f2=>(S.objs j a o f1 f2).mono (fun zz zz zz e=>k _ _ e) G.sub (de.refl _),?_⟩,G⟩
 ·have nd:=List.nodup_append.mp S.nd
  refine List.nodup_append.mpr (cw nd.1 (List.nodup_append.mpr (cw hn nd.2.1 (fun x m y n e=>hWU x m (List.mem_append_right _ (e▸n))))) (fun x m y n e=>?_))
  rcases List.mem_append.mp n with n | n
  ·exact hWU y n (List.mem_append_left _ (e▸m))
  ·exact nd.2.2 x m y n e
 ·rcases (hm b).mp m with q | m
  ·exact ⟨Nat.le_trans (S.size O) (hW b q).1,(hW b q).2⟩
  ·obtain ⟨z,t_1⟩:=S.ex b m; obtain ⟨o,e⟩:=t_1; exact ⟨z,⟨o,k _ _ e⟩⟩
 ·have f:=S.fd.keep (h':=h') (g':=hideAll h' (UU (F.mores W) ρ σ)) (fun zz e=>k _ _ e) (fun zz zz zz zz zz e=>k _ _ e) O G.hide (de.refl _) (fun zz zz zz e=>k _ _ e)
  exact ⟨f.loclen,f.ns,f.cells,f.outs⟩
theorem Src.one (O:FmOk G.base F) (st:Step G F ρ σ s ρ' σ' s') {o:Obj} (hof:o.isFreed=false) {Z:List PyData→Heap→Heap→Prop} {tk:Nat} (it:Iter G A target s'.heap.objs.size [s'.heap.objs.size] Z)
  (hz:∀ g,Sub (gr F ρ' σ' s'.heap) g→Z xs g (s'.heap.push o)):Src G A target F ρ σ s xs ρ' σ' { s' with heap:=s'.heap.push o,toks:=tk } s'.heap.objs.size [s'.heap.objs.size] Z:=by
 have k:∀ b x,s'.heap.get? b=some x→(s'.heap.push o).get? b=some x:=fun zz zz e=>Heap.get?_push_of_some _ e
 have hn:(s'.heap.push o).get? s'.heap.objs.size=some o:=Heap.get?_push_size _ hof
 obtain ⟨S2,G2⟩:=st.st.more O k (Nat.le_refl _) ⟨_,hn⟩
 refine cG st.same fun h1 t1 e1=>?_
 refine ⟨(bV _ _ (by rw [e1])),st.pre,S2,st.grow.trans G2,fun b hb o e=>k _ _ (st.kept b hb o e),O.more fun m=>st.st.fresh (Nat.le_refl _) (List.mem_append_right _ m),it,hz _ G2.sub⟩
theorem qg {a b c:Int} (ha:-(10 ^ 12)≤a) (ha':a≤10 ^ 12) (hb:-(10 ^ 12)≤b) (hb':b≤10 ^ 12) (hc:0 < c) (hc':c≤10 ^ 12):Builtin.Range.small a b c=true:=by
 have hs:0≤Builtin.Range.rangeSize a b c∧Builtin.Range.rangeSize a b c≤10 ^ 13:=by
  unfold Builtin.Range.rangeSize
  rw [if_pos hc]
  split
  ·have h1:=Int.ediv_le_self c (show (0:Int)≤b - a - 1 by lia)
   have h2:=Int.ediv_nonneg (a:=b - a - 1) (b:=c) (by lia) (by exact DN ‹_›)
   lia
  ·decide
 unfold Builtin.Range.small Builtin.Range.rangeFitsLong
 simp only [Bool.and_eq_true,decide_eq_true_eq,Bool.or_eq_true]
 refine ⟨⟨⟨⟨?_,?_⟩,?_⟩,?_⟩,.inr ?_⟩
 ·lia
 ·lia
 ·lia
 ·lia
 ·rw [if_pos hc]
  simp only [Bool.and_eq_true,decide_eq_true_eq]
  lia
set_option tactic.hygienic true in
theorem zx (ih:IH G n) (O:FmOk G.base F) {it:Expr} {ci:I} (hc:CI F.ns F.up it ci) (htu:ci.1=2→dC target=true) (he:iL G.P G.W (n + 1) ci σ=some (xs,σ')) (S:StG G F ρ σ s.heap) (hA:AOk A (n + 1)) {Q:Value→Shared→Prop} {E:Value→Shared→Prop}
  (h:∀ I W Z s' ρ',Src G A target F ρ σ s xs ρ' σ' s' I W Z→Q (.ref I) s'):wpAny (model G.prog G.w) A (eval it F.env) (fun x ac=>wpAny (model G.prog G.w) A (pyIter x) Q E ac) E s:=by
 have hh:=hA.handled
 cases hc with
 | plain hce=>
  rename_i c
  refine mC he fun v aa h1 he=>?_
  refine ih.e F it c σ _ _ ρ s A O hce h1 S hA.pred _ E fun u ac aJ st r=>?_
  refine Gz he (fun ys ah h2 he=>?_) fun ys ah h2 he=>?_
  ·obtain ⟨rfl,rfl⟩:=ik he
   obtain ⟨st2,r2⟩:=eH O st.st h2 r
   refine eV r2 fun l vs nn e_2 e1 ra=>?_; clear r2; subst e_2
   have hl:ac.heap.IsList l vs:=(dT _ (st2.st.grH _ _ e1) rfl ⟨nn,rfl⟩)
   refine wpAny_pyIter_list hl (h _ [ac.heap.objs.size] (y5 ac.heap.objs.size) _ aJ ?_)
   exact Src.one (tk:=ac.toks) O (st.trans st2) rfl (uH hh _ _) fun g k=>(uA l 0 vs nn ys (dT _ (Heap.get?_push_size _ rfl) rfl rfl) (k _ _ e1 ⟨.inl rfl,(bV _ _ rfl)⟩) (ra.mono k) rfl)
  ·obtain ⟨rfl,rfl⟩:=ik he
   obtain ⟨st2,r2⟩:=eH O st.st h2 r
   refine eV r2 fun l vs nn e_3 e1 ra=>?_; clear r2; subst e_3
   have hl:ac.heap.IsTuple l vs:=(dT _ (st2.st.grH _ _ e1) rfl ⟨nn,rfl⟩)
   refine wpAny_pyIter_tuple hl (h _ [ac.heap.objs.size] (wZ ac.heap.objs.size) _ aJ ?_)
   exact Src.one (tk:=ac.toks) O (st.trans st2) rfl (sh hh _ _) fun g k=>(uA l 0 vs nn ys (dT _ (Heap.get?_push_size _ rfl) rfl rfl) (k _ _ e1 ⟨.inr rfl,(bV _ _ rfl)⟩) (ra.mono k) rfl)
 | range hl hcs=>
  rename_i as cs p pos
  refine xV he fun vs aa h1 he=>?_
  refine u6 he fun ys ah h2 he=>?_
  refine Ds he fun zs hz he=>?_
  obtain ⟨rfl,rfl⟩:=ik he
  refine wN ih.es O ih.K hcs h1 S hA.pred hl (by simp) (by decide +kernel:bootBuiltins "range"=some (.type "range")) (.inr ⟨_,rfl⟩) (by decide) (by decide) fun us ac aJ st r=>?_
  obtain ⟨st2,r2⟩:=fD O st.st h2 r
  have stt:=st.trans st2
  refine ut hz (fun b ey hb e=>?_) fun a b c ey hb e=>?_
  ·clear hz; subst ey; subst e
   refine cu r2 fun v1 r' e_4 q1 e_5=>?_; clear r2; subst e_4; subst e_5
   obtain ⟨t1,rfl⟩:=q1
   unfold cB at hb
   refine call_range_1 ?_
   have st3:=stt.trans (Step.push O stt.st { cls:=.type "range",data:=.fields #[.int 0 ac.toks,.int b t1,.int 1 (ac.toks + 1)] } (ac.toks + 1 + 1))
   refine wpAny_pyIter_range (a:=0) (b:=b) (c:=1) (Heap.get?_push_size _ rfl) (qg (by decide) (by decide) (by lia) (by lia) (by decide) (by decide)) (h _ [(ac.heap.push { cls:=.type "range",data:=.fields #[.int 0 ac.toks,.int b t1,.int 1 (ac.toks + 1)] }).objs.size] (sK (ac.heap.push { cls:=.type "range",data:=.fields #[.int 0 ac.toks,.int b t1,.int 1 (ac.toks + 1)] }).objs.size) _ aJ ?_)
   refine Src.one (tk:=ac.toks + 1 + 1) O st3 rfl (nx hh _ _) fun g k=>(fc 0 b.toNat 1 ?_ rfl)
   have hsz:Builtin.Range.rangeSize 0 b 1=((b.toNat:Nat):Int):=by
    unfold Builtin.Range.rangeSize
    rw [if_pos (by decide)]
    split <;> lia
   rw [hsz]
   exact Heap.get?_push_size _ rfl
  ·clear hz; subst ey; subst e
   refine cu r2 fun v1 u1 e_6 q1 t_7=>?_; clear r2; subst e_6; refine cu t_7 fun v2 u2 e_8 q2 t_9=>?_; subst e_8; refine cu t_9 fun v3 u3 e_10 q3 e_11=>?_; subst e_10; subst e_11
   obtain ⟨t1,rfl⟩:=q1
   obtain ⟨t2,rfl⟩:=q2
   obtain ⟨t3,rfl⟩:=q3
   unfold cB at hb
   refine call_range_3 (by lia) ?_ (.inl (PyProof.noPylong_small (by lia)))
   have st3:=stt.trans (Step.push O stt.st { cls:=.type "range",data:=.fields #[.int a t1,.int b t2,.int c t3] } ac.toks)
   refine wpAny_pyIter_range (a:=a) (b:=b) (c:=c) (Heap.get?_push_size _ rfl) (qg (by lia) (by lia) (by lia) (by lia) (by lia) (by lia)) (h _ [(ac.heap.push { cls:=.type "range",data:=.fields #[.int a t1,.int b t2,.int c t3] }).objs.size] (sK (ac.heap.push { cls:=.type "range",data:=.fields #[.int a t1,.int b t2,.int c t3] }).objs.size) _ aJ ?_)
   refine Src.one (tk:=ac.toks) O st3 rfl (nx hh _ _) fun g k=>(fc a (if a < b then ((b - a - 1) / c + 1).toNat else 0) c ?_ rfl)
   have hsz:Builtin.Range.rangeSize a b c=(((if a < b then ((b - a - 1) / c + 1).toNat else 0):Nat):Int):=by
    unfold Builtin.Range.rangeSize
    rw [if_pos hb.1]
    split
    ·have h2:=Int.ediv_nonneg (a:=b - a - 1) (b:=c) (by lia) (by lia)
     lia
    ·rfl
   rw [hsz]
   exact Heap.get?_push_size _ rfl
 | enum hl hce=>
  rename_i e c p pos
  refine EW he fun ys aa h1 he=>?_
  refine dM he fun hb he=>?_
  obtain ⟨rfl,rfl⟩:=ik he
  refine wO ih O hl (by simp) (by decide +kernel:bootBuiltins "enumerate"=some (.type "enumerate")) (.inr ⟨_,rfl⟩) (by decide) (by decide) hce h1 S hA fun v ac aJ st r=>?_
  refine eV r fun l vs nn e_12 e1 ra=>?_; clear r; subst e_12
  have hl:ac.heap.IsList l vs:=(dT _ (st.st.grH _ _ e1) rfl ⟨nn,rfl⟩)
  refine call_enumerate_list hl fun h' hE hJ hsz hk=>?_
  refine wpAny_pyIter_enum hE (h _ [ac.heap.objs.size + 1,ac.heap.objs.size] (y6 (ac.heap.objs.size + 1) ac.heap.objs.size) _ aJ ?_)
  cases target with
  | Tuple elts k pos=>
   have hIJ:ac.heap.objs.size + 1≠ac.heap.objs.size:=Nat.succ_ne_self _
   refine aB (id hJ) fun o q1 q2=>?_
   obtain ⟨S2,G2⟩:=st.st.mores (W:=[ac.heap.objs.size + 1,ac.heap.objs.size]) O hk (fun b m=>by
    simp at m
    rcases m with rfl | rfl
    ·exact ⟨Nat.le_succ _,⟨_,hE⟩⟩
    ·exact ⟨Nat.le_refl _,⟨_,q1⟩⟩) (by simp)
   refine cG st.same fun h1 t1 e2=>?_
   refine ⟨(bV _ _ (by rw [e2])),st.pre,S2,st.grow.trans G2,fun b hb o e=>hk _ _ (st.kept b hb o e),O.mores ?_,uI hh _ _ _ _ _ hIJ,(zV l 0 vs nn ys _ hE hJ (G2.sub _ _ e1 ⟨.inl rfl,(bV _ _ rfl)⟩) (ra.mono G2.sub) (by simp))⟩
   intro b m
   simp at m
   rcases m with rfl | rfl
   ·exact fun q=>st.st.fresh (Nat.le_succ _) (List.mem_append_right _ q)
   ·exact fun q=>st.st.fresh (Nat.le_refl _) (List.mem_append_right _ q)
  | _=>have:=htu rfl; exact fT this
end
noncomputable def pS (G:Gl) (n:Nat):Prop:=∀ (F:Fm) (it:Expr) (ci:I) (target:Expr) (σ:AS) (xs:List PyData) (σ':AS) (ρ:List (Addr×Addr)) (s:Shared) (A:Around),FmOk G.base F→CI F.ns F.up it ci→(ci.1=2→dC target=true)→iL G.P G.W n ci σ=some (xs,σ')→StG G F ρ σ s.heap→AOk A n→
 ∀ (Q:Value→Shared→Prop) (E:Value→Shared→Prop),(∀ I W Z s' ρ',Src G A target F ρ σ s xs ρ' σ' s' I W Z→Q (.ref I) s')→wpAny (model G.prog G.w) A (eval it F.env) (fun x ac=>wpAny (model G.prog G.w) A (pyIter x) Q E ac) E s
noncomputable def AZ (G:Gl) (n:Nat):Prop:=∀ (F:Fm) (st:Stmt) (c:S) (σ:AS) (fl:Fl) (σ':AS) (ρ:List (Addr×Addr)) (s:Shared) (A:Around),FmOk G.base F→F.up=[]→CS F.ns st c→Dg.exec G.P G.W n c σ=some (fl,σ')→StG G F ρ σ s.heap→AOk A n→
 ∀ (Q:Flow→Shared→Prop) (E:Value→Shared→Prop),(∀ f s' ρ',Step G F ρ σ s ρ' σ' s'→FlRel (gr F ρ' σ' s'.heap) ρ' f fl→Q f s')→wpAny (model G.prog G.w) A (PySem.exec st F.env) Q E s
section
variable {C:Addr} {hs:PyData→Int} {base:Heap} {F:Fm} {ρ:List (Addr×Addr)} {σ:AS} {h:Heap}
theorem St.drop {h':Heap} {W:List Addr} (O:FmOk base F) (S:St C hs base (F.mores W) ρ σ h) (hx:∀ b o,b ∉ W→h.get? b=some o→h'.get? b=some o):
  St C hs base F ρ σ h'∧bW h (UU (F.mores W) ρ σ) h' (UU F ρ σ):=by
 have nd:=List.nodup_append.mp S.nd
 have n2:(W++F.fr).Nodup:=nd.2.1
 have n3:=List.nodup_append.mp n2
 have hWf:∀ b∈W,b ∉ F.fr:=fun b m q=>n3.2.2 b m b q rfl
 have hWl:∀ b∈W,b ∉ live ρ σ.heap:=fun b m q=>nd.2.2 b q b (List.mem_append_left _ m) rfl
 have hU:∀ b,b∈UU F ρ σ→b∈UU (F.mores W) ρ σ:=fun b m=>by
  rcases List.mem_append.mp m with m | m
  ·exact List.mem_append_left _ m
  ·exact List.mem_append_right _ (List.mem_append_right _ m)
 have G0:bW h (UU (F.mores W) ρ σ) h' (UU F ρ σ):=fun b o e n=>⟨hx b o (fun q=>n (List.mem_append_right _ (List.mem_append_left _ q))) e,fun m=>n (hU b m)⟩
 have kf:∀ b∈F.fr,∀ o,h.get? b=some o→h'.get? b=some o:=fun b m o e=>hx b o (fun q=>hWf b q m) e
 refine ⟨⟨S.len,fun b o e=>G0.hide b o (S.bas b o e),List.nodup_append.mpr (cw nd.1 n3.2.1 (fun x m y n e=>nd.2.2 x m y (List.mem_append_right _ n) e)),fun b m=>?_,fun j a o e1 e2=>(S.objs j a o e1 e2).mono (fun b hb x ex=>hx b x (fun q=>hWl b q (cA e1 e2 hb)) ex) G0.sub (de.refl _),?_⟩,G0⟩
 ·obtain ⟨z,t_1⟩:=S.ex b (hU b m); obtain ⟨o,e⟩:=t_1
  refine ⟨z,⟨o,hx b o (fun q=>?_) e⟩⟩
  rcases List.mem_append.mp m with m | m
  ·exact hWl b q m
  ·exact hWf b q m
 ·have f0:FrD F h (hideAll h (UU (F.mores W) ρ σ)) ρ σ.loc σ.out:=⟨S.fd.loclen,S.fd.ns,S.fd.cells,S.fd.outs⟩
  exact f0.keep (kf _ O.frL) (fun x c h1 h2=>kf _ (O.cellIn h1 h2)) O G0.hide (de.refl _) (fun b hb=>kf b (O.gdFr b hb))
end
section
variable {G:Gl} {F:Fm} {ρ ρ':List (Addr×Addr)} {σ σ':AS} {s s':Shared} {A:Around} {n:Nat} {xs:List PyData} {target:Expr} {I:Addr} {W:List Addr} {Z:List PyData→Heap→Heap→Prop}
theorem Src.gd (x:Src G A target F ρ σ s xs ρ' σ' s' I W Z):∀ b∈W,b∈(F.mores W).gd:=fun zz m=>List.mem_append_left _ m
theorem Src.over {h':Heap} {tk:Nat} (O:FmOk G.base F) (x:Src G A target F ρ σ s xs ρ' σ' s' I W Z) (hx:∀ b o,b ∉ W→s'.heap.get? b=some o→h'.get? b=some o):Step G F ρ σ s ρ' σ' { s' with heap:=h',toks:=tk }:=by
 obtain ⟨S2,G2⟩:=x.st.drop O hx
 refine cG x.same fun h1 t1 e1=>?_
 have nd:=List.nodup_append.mp x.st.nd
 have n2:(W++F.fr).Nodup:=nd.2.1
 exact ⟨(bV h' tk (by rw [e1])),x.pre,S2,x.grow.trans G2,fun b hb o e=>hx b o (fun q=>(List.nodup_append.mp n2).2.2 b q b (O.gdFr b hb) rfl) (x.kept b hb o e)⟩
theorem Src.left {ρ'':List (Addr×Addr)} {σ'':AS} {s'':Shared} (O:FmOk G.base F) (x:Src G A target F ρ σ s xs ρ' σ' s' I W Z) (st:Step G (F.mores W) ρ' σ' s' ρ'' σ'' s''):Step G F ρ σ s ρ'' σ'' s''∧Sub (gr (F.mores W) ρ'' σ'' s''.heap) (gr F ρ'' σ'' s''.heap):=by
 obtain ⟨S2,G2⟩:=st.st.drop (W:=W) O (fun zz zz zz e=>e)
 refine cG x.same fun h1 t1 e1=>?_
 refine cG st.same fun h2 t2 e2=>?_
 exact ⟨⟨(bV h2 t2 (by rw [e2,e1])),x.pre.trans st.pre,S2,x.grow.trans (st.grow.trans G2),fun b hb o e=>st.kept b (List.mem_append_right _ hb) o (x.kept b hb o e)⟩,G2.sub⟩
theorem Src.next {ys:List PyData} {ac ao:Shared} {aU:List (Addr×Addr)} {ah:AS} (x:Src G A target F ρ σ s xs ρ' σ' s' I W Z) (tn:Turned G W (F.mores W) ρ' σ' s' ac) (hz:Z ys (gr (F.mores W) ρ' σ' ac.heap) ac.heap) (st:Step G (F.mores W) ρ' σ' ac aU ah ao) (O:FmOk G.base F):
  Src G A target F ρ σ s ys aU ah ao I W Z:=by
 refine cG x.same fun h1 t1 e1=>?_
 refine cG tn.same fun h2 t2 e2=>?_
 refine cG st.same fun h3 t3 e3=>?_
 have nd:=List.nodup_append.mp x.st.nd
 have n2:(W++F.fr).Nodup:=nd.2.1
 exact ⟨(bV h3 t3 (by rw [e3,e2,e1])),x.pre.trans st.pre,st.st,x.grow.trans (tn.grow.trans st.grow),fun b hb o e=>st.kept b (List.mem_append_right _ hb) o (tn.kept b (List.mem_append_right _ hb) (fun q=>(List.nodup_append.mp n2).2.2 b q b (O.gdFr b hb) rfl) o (x.kept b hb o e)),x.ok,x.it,x.it.mono hz st.grow.sub fun b m o e=>st.kept b (List.mem_append_left _ m) o e⟩
theorem Src.turn {a:PyData} {ys:List PyData} {X:Shared→Prop} {Y:Value→Shared→Prop} {E:Value→Shared→Prop} (x:Src G A target F ρ σ s (a :: ys) ρ' σ' s' I W Z)
  (h:∀ v bY,Turned G W (F.mores W) ρ' σ' s' bY→Rd (gr (F.mores W) ρ' σ' bY.heap) v a→Z ys (gr (F.mores W) ρ' σ' bY.heap) bY.heap→Y v bY):
  wpAny (model G.prog G.w) A (pyNext (.ref I)) (fun r ac=>match r with | none=>X ac | some v=>wpAny (model G.prog G.w) A (letOwnedTupleGo target (.ref I) v) (fun zz ao=>Y v ao) E ac) E s':=
 wpAny_mono (x.it.turn (F.mores W) ρ' σ' s' a ys Y E x.ok x.gd x.st x.z h) (fun r bY ⟨v,e,w⟩=>by subst e; exact w) fun zz zz x=>x
theorem Src.fin {X:Shared→Prop} {E:Value→Shared→Prop} {M:Value→Shared→Prop} (x:Src G A target F ρ σ s [] ρ' σ' s' I W Z)
  (h:∀ h' tk,(∀ b o,b ∉ W→s'.heap.get? b=some o→h'.get? b=some o)→X { s' with heap:=h',toks:=tk }):
  wpAny (model G.prog G.w) A (pyNext (.ref I)) (fun r ac=>match r with | none=>X ac | some v=>M v ac) E s':=
 wpAny_mono (x.it.done s' _ X E x.z x.st.grH h) (fun r bY ⟨e,w⟩=>by subst e; exact w) fun zz zz x=>x
theorem FlRel.mono {g g':Heap} {ρ:List (Addr×Addr)} {f:Flow} {fl:Fl} (k:Sub g g') (r:FlRel g ρ f fl):FlRel g' ρ f fl:=by
 induction f <;> induction fl <;> first | exact r.elim | trivial | exact VRel.mono k (de.refl _) r
theorem BL (ihI:pS G n) (ihS:tV G n) (O:FmOk G.base F) (hup:F.up=[]) {t it:Expr} {b:List Stmt} {ct:T} {ci:Dg.I} {cb:List S} {pos:Pos} {fl:Fl} (ht:CT F.ns t ct) (hi:CI F.ns [] it ci) (h2:ci.1=2→dC t=true) (hb:CSs F.ns b cb)
  (he:Dg.exec G.P G.W (n + 1) (.for ct ci cb) σ=some (fl,σ')) (S:StG G F ρ σ s.heap) (hA:AOk A (n + 1)) (hns:∀ x,foldedSetIterable it F.env x=pure x) (Q:Flow→Shared→Prop) (E:Value→Shared→Prop)
  (h:∀ f s' ρ',Step G F ρ σ s ρ' σ' s'→FlRel (gr F ρ' σ' s'.heap) ρ' f fl→Q f s'):wpAny (model G.prog G.w) A (PySem.exec (.For t it b [] pos) F.env) Q E s:=by
 refine u6 he fun xs aa h1 he=>?_
 refine wpAny_For (ihI F it ci t σ xs aa ρ s A O (by rw [hup]; exact hi) h2 h1 S hA.pred _ E fun I W Z ac aJ src=>?_) hns
 refine codeAny_forLoop_any (fun m ao=>∃ ys aU ah,ys.length=m∧forItems (fun x σ=>match ds n ct (.d x) σ with | some ah=>Dg.execs G.P G.W n cb ah | none=>none) ys ah=some (fl,σ')∧Src G A t F ρ σ s ys aU ah ao I W Z) ?_ xs.length (k9 xs aJ aa rfl he src)
 rintro m ao ⟨ys,aU,ah,rfl,hf,src⟩
 induction ys using List.casesOn with
 | nil=>
  obtain ⟨rfl,rfl⟩:=ik hf
  exact src.fin fun h' tk hx=>wpAny_execs_nil (h _ _ _ (src.over O hx) trivial)
 | cons x ys=>
  refine src.turn fun v bY tn rv hz=>?_
  refine EZ hf fun fl' dt h3 hf=>?_
  refine u5 h3 fun bi h3 h4=>?_
  ·refine jm src.ok hA.handled (n:=n) (a:=.d x) ht h3 tn.st rv fun mU st4=>?_
   ·refine ihS (F.mores W) b cb bi fl' dt aU mU A src.ok hup hb h4 st4.st hA.pred _ _ fun f mA fW st5 rf=>?_
    induction fl' using Fl.casesOn with
    | next=>
     cases f with
     | next=>exact (m1a2 ys.length (Nat.lt_succ_self _) (k9 ys fW dt rfl hf (src.next tn hz (st4.trans st5) O)))
     | _=>exact rf.elim
    | ret a=>
     obtain ⟨rfl,rfl⟩:=ik hf
     cases f with
     | ret u=>
      obtain ⟨stf,k⟩:=(src.next tn hz (Step.refl tn.st) O).left O (st4.trans st5)
      exact h _ _ _ stf (FlRel.mono k rf)
     | _=>exact rf.elim
end
structure IHS (G:Gl) (n:Nat):Prop where
 h:IH G n
 i:pS G n
 s:AZ G n
 ss:tV G n
noncomputable abbrev iW (G:Gl) (F:Fm) (st:Stmt) (fl:Fl) (σ σ':AS) (ρ:List (Addr×Addr)) (s:Shared) (A:Around):Prop:=
 ∀ (Q:Flow→Shared→Prop) (E:Value→Shared→Prop),(∀ f s' ρ',Step G F ρ σ s ρ' σ' s'→FlRel (gr F ρ' σ' s'.heap) ρ' f fl→Q f s')→wpAny (model G.prog G.w) A (PySem.exec st F.env) Q E s
section
variable {G:Gl} {F:Fm} {ρ ρ':List (Addr×Addr)} {σ σ':AS} {s s':Shared} {A:Around} {n:Nat} {pos:Pos} {fl:Fl}
theorem FmOk.defNames {base:Heap} (O:FmOk base F) (hup:F.up=[]):F.env.scope.names=F.ns:=by rw [O.names,pF (O.defn hup)]
theorem vU (ih:IHS G n) (O:FmOk G.base F) (hup:F.up=[]) {t e:Expr} {ct:T} {ce:E} (ht:CT F.ns t ct) (hc:CE F.ns [] e ce) (hs:swapsWithSole [t] e pos.line F.env=pure false) (hw:swappedStores [t] e F.env=pure none)
  (he:Dg.exec G.P G.W (n + 1) (.assign ct ce) σ=some (fl,σ')) (S:StG G F ρ σ s.heap) (hA:AOk A (n + 1)):iW G F (.Assign [t] e pos) fl σ σ' ρ s A:=by
 refine bc fun hn=>?_
 refine mC he fun v aa h1 he=>?_
 refine u5 he fun ah h2 he=>?_
 refine hn ?_
 refine jn he ?_
 intro Q E h
 refine wpAny_Assign_stores (ih.h.e F e ce σ _ _ ρ s A O (by rw [hup]; exact hc) h1 S hA.pred _ E fun u ac aJ st r=>?_) hs hw
 rw [o9 ht]
 show wpAny _ _ (assign t F.env u) _ _ _
 exact jm O hA.handled ht h2 st.st r fun ao st2=>h _ _ _ (st.trans st2) trivial
theorem set_comm {l:List (Option AV)} {i j:Nat} {a b:AV} (h:i≠j):(l.set i (some a)).set j (some b)=(l.set j (some b)).set i (some a):=List.set_comm _ _ h
theorem rq {i j:Nat} {x1 x2:PyData}:∀ {n:Nat} {σ σ':AS},ds n (.tup [.loc i,.loc j]) (.d (.tuple [x1,x2])) σ=some σ'→σ'=(σ.setLoc i (.d x1)).setLoc j (.d x2)
 | 0,_,_,h=>nomatch h
 | 1,_,_,h=>nomatch h
 | n + 2,σ,σ',h=>by
  refine u5 h fun aa h1 h=>?_
  induction n using Nat.casesOn with
  | zero=>exact nS h
  | succ n=>
   refine u5 h fun ah h2 h=>?_
   induction n using Nat.casesOn with
   | zero=>exact nS h
   | succ n=>
    induction Option.some.inj h
    cases xv h1
    cases xv h2
    rfl
theorem un (ih:IHS G n) (O:FmOk G.base F) (hup:F.up=[]) {x y:Str} {p1 p2 p3 q:Pos} {k k':Nat} {a b:Expr} {i j:Nat} {ca cb:E} (hx:F.ns[i]?=some (x,.local)) (hy:F.ns[j]?=some (y,.local)) (hij:i≠j) (hcab:CE F.ns [] (.Tuple [a,b] k' pos) (.tup [ca,cb]))
  (hw:swappedStores [.Tuple [.Name x p1,.Name y p2] k p3] (.Tuple [a,b] k' pos) F.env=pure (some [x,y]))
  (he:Dg.exec G.P G.W (n + 1) (.assign (.tup [.loc i,.loc j]) (.tup [ca,cb])) σ=some (fl,σ')) (S:StG G F ρ σ s.heap) (hA:AOk A (n + 1)):iW G F (.Assign [.Tuple [.Name x p1,.Name y p2] k p3] (.Tuple [a,b] k' pos) q) fl σ σ' ρ s A:=by
 refine bc fun hn=>?_
 refine mC he fun v aa h1 he=>?_
 refine u5 he fun ah h2 he=>?_
 refine hn ?_
 refine jn he ?_
 intro Q E h
 have hc:CE F.ns F.up (.Tuple [a,b] k' pos) (.tup [ca,cb]):=by rw [hup]; exact hcab
 refine Assign_Tuple_swapped (names:=[x,y]) (ih.h.e F _ _ σ _ _ ρ s A O hc h1 S hA.pred _ E fun u ac aJ st r=>?_) rfl hw
 have hv:∃ x1 x2,v=.d (.tuple [x1,x2]):=by
  induction n using Nat.casesOn with
  | zero=>exact nS h1
  | succ n=>
   refine bc fun hn=>?_
   refine xV h1 fun vs Dw h3 h1=>?_
   refine u6 h1 fun xs bi h4 h1=>?_
   refine hn ?_
   simp only [Option.some.injEq,Prod.mk.injEq] at h1
   have e1:=hZ h3
   have e2:=ju h4
   rw [e1] at e2
   match xs,e2 with
   | [x1,x2],_=>exact (bV x1 x2 h1.1.symm)
 refine bc fun hn=>?_
 refine cG hv fun x1 x2 e_1=>?_; clear hv; subst e_1
 have hf:=rq h2
 have r':=r
 refine eV r' fun l vs nn e_2 e1 ra=>?_; clear r'; subst e_2
 have hT:ac.heap.IsTuple l vs:=(dT _ (st.st.grH _ _ e1) rfl ⟨_,rfl⟩)
 refine cu ra fun v1 r1 e2 q1 t_3=>?_; clear ra; refine cu t_3 fun v2 r2 e_4 q2 e_5=>?_; subst e_4; subst e_5
 refine hn ?_
 have hsz:vs.size=2:=by have:=congrArg List.length e2; simpa using this
 have key:∀ h',Heap.ExtBut ac.heap.objs.size ac.heap h'→wpAny (model G.prog G.w) A (assignInOrder (([x,y]:List Str).reverse.map fun n=>bindName F.env n) vs.toList.reverse) (fun zz=>Q .next) E { ac with heap:=h' }:=by
  intro h' hx'
  rw [e2]
  have kk:∀ b o,ac.heap.get? b=some o→h'.get? b=some o:=fun b o e=>hx' b o (fun q=>by rw [q,cp (Nat.le_refl _)] at e; exact nS e) e
  have st2:=Step.keeps (tk:=ac.toks) O st.st kk
  show wpAny _ _ (assignInOrder [bindName F.env y,bindName F.env x] [v2,v1]) _ _ _
  refine wpAny_assignInOrder_more (bindName_ (iu O st2.st hy (.inl rfl) (a:=.d x2) (st2.rd q2) fun bY st3=>?_))
  refine wpAny_assignInOrder_more (bindName_ (iu O st3.st hx (.inl rfl) (a:=.d x1) (st3.rd (st2.rd q1)) fun mU st4=>?_))
  refine wpAny_assignInOrder_none ?_
  have e3:(aa.setLoc j (.d x2)).setLoc i (.d x1)=ah:=by
   rw [hf]; simp only [AS.setLoc]; rw [set_comm hij]
  rw [e3] at st4
  exact h _ _ _ (st.trans (st2.trans (st3.trans st4))) trivial
 have hU:=wpAny_unpackItems_tuple (prog:=G.prog) (w:=G.w) (A:=A) (E:=E) (Q:=fun items ao=>wpAny (model G.prog G.w) A (assignInOrder (([x,y]:List Str).reverse.map fun n=>bindName F.env n) items.reverse) (fun zz=>Q .next) E ao) hA.handled hT key
 rw [hsz] at hU
 exact hU
theorem vR (ih:IHS G n) (O:FmOk G.base F) (hup:F.up=[]) {a i e:Expr} {ca ci ce:E} {p:Pos} (hsl:eQ i=false) (ha:CE F.ns [] a ca) (hi:CE F.ns [] i ci) (hc:CE F.ns [] e ce) (he:Dg.exec G.P G.W (n + 1) (.setSub ca ci ce) σ=some (fl,σ')) (S:StG G F ρ σ s.heap) (hA:AOk A (n + 1)):
  iW G F (.Assign [.Subscript a i p] e pos) fl σ σ' ρ s A:=by
 refine bc fun hn=>?_
 refine mC he fun v aa h1 he=>?_
 refine mC he fun x ah h2 he=>?_
 refine xS he fun j bi h3 he=>?_
 refine hn ?_
 ·refine bc fun hn=>?_
  refine Bd he fun y dt h4 he=>?_
  refine u5 he fun eN h5 he=>?_
  refine hn ?_
  refine jn he ?_
  intro Q E h
  refine wpAny_Assign_Subscript (ih.h.e F e ce σ _ _ ρ s A O (by rw [hup]; exact hc) h1 S hA.pred _ E fun u ac aJ st1 r1=>?_) zr
  refine ih.h.e F a ca aa _ _ aJ ac A O (by rw [hup]; exact ha) h2 st1.st hA.pred _ E fun ov ao aU st2 r2=>?_
  refine ih.h.e F i ci ah _ _ aU ao A O (by rw [hup]; exact hi) h3 st2.st hA.pred _ E fun iv bY fI st3 r3=>?_
  obtain ⟨st4,r4⟩:=eH O st3.st h4 (st3.vrel (st2.vrel r1))
  refine oy O st4.st hA.pred h5 (st4.vrel (st3.vrel r2)) (st4.rd r3) r4 fun mA st5=>h _ _ _ (st1.trans (st2.trans (st3.trans (st4.trans st5)))) trivial
theorem vT (ih:IHS G n) (O:FmOk G.base F) (hup:F.up=[]) {x:Str} {i:Nat} {op:Operator} {bo:BO} {e:Expr} {ce:E} {p:Pos} (hx:F.ns[i]?=some (x,.local)) (hop:kH op bo) (hbo:bo=.add∨bo=.sub) (hc:CE F.ns [] e ce) (he:Dg.exec G.P G.W (n + 1) (.augLoc i bo ce) σ=some (fl,σ')) (S:StG G F ρ σ s.heap) (hA:AOk A (n + 1)):
  iW G F (.AugAssign (.Name x p) op e pos) fl σ σ' ρ s A:=by
 refine Gx he fun d hd he=>?_
 ·refine xS he fun y aa h1 he=>?_
  ·refine Gy he fun a b e1 e2 he2=>?_
   ·clear he; subst e1; subst e2
    refine Bc he2 fun z hz he=>?_
    ·refine jn he ?_
     intro Q E h
     refine wpAny_AugAssign_Name (qF O S hx (.inl rfl) hd fun val rv=>?_)
     refine ih.h.e F e ce σ _ _ ρ s A O (by rw [hup]; exact hc) h1 S hA.pred _ E fun u ac aJ st1 r1=>?_
     refine bc fun hn=>?_
     obtain ⟨t1,rfl⟩:=rv
     obtain ⟨t2,rfl⟩:=r1
     refine hn ?_
     refine lQ st1.st hop hbo hz fun w ao st2 r2=>?_
     exact iu O st2.st hx (.inl rfl) (a:=.d z) r2 fun bY st3=>h _ _ _ (st1.trans (st2.trans st3)) trivial
theorem vS (ih:IHS G n) (O:FmOk G.base F) (hup:F.up=[]) {a i e:Expr} {ca ci ce:E} {op:Operator} {bo:BO} {p:Pos} (hsl:eQ i=false) (hop:kH op bo) (hbo:bo=.add∨bo=.sub) (ha:CE F.ns [] a ca) (hi:CE F.ns [] i ci) (hc:CE F.ns [] e ce)
  (he:Dg.exec G.P G.W (n + 1) (.augSub ca ci bo ce) σ=some (fl,σ')) (S:StG G F ρ σ s.heap) (hA:AOk A (n + 1)):iW G F (.AugAssign (.Subscript a i p) op e pos) fl σ σ' ρ s A:=by
 refine bc fun hn=>?_
 refine w9 he fun k aa h1 he=>?_
 refine xS he fun j ah h2 he=>?_
 refine hn ?_
 ·refine GF he fun x hx he=>?_
  ·refine yO he fun y bi h3 he=>?_
   ·refine bc fun hn=>?_
    refine Bc he fun z hz he=>?_
    refine u5 he fun dt h4 he=>?_
    refine hn ?_
    refine jn he ?_
    intro Q E h
    refine wpAny_AugAssign_SubscriptAny (ih.h.e F a ca σ _ _ ρ s A O (by rw [hup]; exact ha) h1 S hA.pred _ E fun ov ac aJ st1 r1=>?_) (C4 hsl)
    refine ih.h.e F i ci aa _ _ aJ ac A O (by rw [hup]; exact hi) h2 st1.st hA.pred _ E fun iv ao aU st2 r2=>?_
    refine (vI (E:=E) st2.st hA.pred hx (st2.vrel r1) r2 fun old bY st3 r3=>?_).2
    refine ih.h.e F e ce ah _ _ aU bY A O (by rw [hup]; exact hc) h3 st3.st hA.pred _ E fun v mU u8 st4 r4=>?_
    refine bc fun hn=>?_
    obtain ⟨t1,rfl⟩:=r3
    obtain ⟨t2,rfl⟩:=r4
    refine hn ?_
    refine lQ st4.st hop hbo hz fun w mA st5 r5=>?_
    exact oy O st5.st hA.pred h4 (st5.vrel (st4.vrel (st3.vrel (st2.vrel r1)))) (st5.rd (st4.rd (st3.rd r2))) r5 fun pn st6=>h _ _ _ (st1.trans (st2.trans (st3.trans (st4.trans (st5.trans st6))))) trivial
theorem zA (ih:IHS G n) (O:FmOk G.base F) (hup:F.up=[]) {e:Expr} {ce:E} (hcomp:jO e=false) (hc:CE F.ns [] e ce) (he:Dg.exec G.P G.W (n + 1) (.expr ce) σ=some (fl,σ')) (S:StG G F ρ σ s.heap) (hA:AOk A (n + 1)):iW G F (.Expr e pos) fl σ σ' ρ s A:=by
 refine mC he fun v aa h1 he=>?_
 refine jn he ?_
 intro Q E h
 refine wpAny_Expr_any (ih.h.e F e ce σ _ _ ρ s A O (by rw [hup]; exact hc) h1 S hA.pred _ E fun u ac aJ st r=>h _ _ _ st trivial) (by unfold interactive; rw [O.kind]; rfl) (zt hc.ok hcomp)
theorem BK (ih:IHS G n) (O:FmOk G.base F) (hup:F.up=[]) {t:Expr} {a b:List Stmt} {ct:E} {ca cb:List S} (hc:CE F.ns [] t ct) (ha:CSs F.ns a ca) (hb:CSs F.ns b cb) (he:Dg.exec G.P G.W (n + 1) (.ite ct ca cb) σ=some (fl,σ')) (S:StG G F ρ σ s.heap) (hA:AOk A (n + 1)):
  iW G F (.If t a b pos) fl σ σ' ρ s A:=by
 intro Q E h
 refine xU he (fun aa h1 he=>?_) fun aa h1 he=>?_
 ·refine wpAny_If (ih.h.t F t ct σ _ _ ρ s A O (by rw [hup]; exact hc) h1 S hA.pred _ E fun ac aJ st=>?_)
  rw [if_pos rfl]
  exact ih.ss F a ca aa fl σ' aJ ac A O hup ha he st.st hA.pred Q E fun f ao aU st2 r=>h _ _ _ (st.trans st2) r
 ·refine wpAny_If (ih.h.t F t ct σ _ _ ρ s A O (by rw [hup]; exact hc) h1 S hA.pred _ E fun ac aJ st=>?_)
  rw [if_neg Bool.false_ne_true]
  exact ih.ss F b cb aa fl σ' aJ ac A O hup hb he st.st hA.pred Q E fun f ao aU st2 r=>h _ _ _ (st.trans st2) r
theorem BJ (ih:IHS G n) (O:FmOk G.base F) (hup:F.up=[]) {e:Expr} {ce:E} (hc:CE F.ns [] e ce) (he:Dg.exec G.P G.W (n + 1) (.ret ce) σ=some (fl,σ')) (S:StG G F ρ σ s.heap) (hA:AOk A (n + 1)):iW G F (.Return (some e) pos) fl σ σ' ρ s A:=by
 refine GK he (fun x aa h1 he=>?_) fun k aa h1 he=>?_
 ·refine jn he ?_
  intro Q E h
  exact wpAny_Return_some (ih.h.e F e ce σ _ _ ρ s A O (by rw [hup]; exact hc) h1 S hA.pred _ E fun u ac aJ st r=>h _ _ _ st r)
 ·refine Bd he fun x ah h2 he=>?_
  refine jn he ?_
  intro Q E h
  refine wpAny_Return_some (ih.h.e F e ce σ _ _ ρ s A O (by rw [hup]; exact hc) h1 S hA.pred _ E fun u ac aJ st r=>?_)
  obtain ⟨st2,r2⟩:=eH O st.st h2 r
  exact h _ _ _ (st.trans st2) r2
theorem xw (ih:IHS G n) (O:FmOk G.base F) (hup:F.up=[]) {t:Expr} {b:List Stmt} {ct:E} {cb:List S} (hc:CE F.ns [] t ct) (hb:CSs F.ns b cb) (he:Dg.exec G.P G.W (n + 1) (.while ct cb) σ=some (fl,σ')) (S:StG G F ρ σ s.heap) (hA:AOk A (n + 1)):
  iW G F (.While t b [] pos) fl σ σ' ρ s A:=by
 intro Q E h
 refine wpAny_While (codeAny_whileLoop (fun m ao=>∃ aU ah,whileIt (fun σ=>dg G.P G.W n ct σ) (fun σ=>Dg.execs G.P G.W n cb σ) m ah=some (fl,σ')∧Step G F ρ σ s aU ah ao) ?_ G.W (g8 ρ σ he (Step.refl S)))
 rintro m ao ⟨aU,ah,hw,st⟩
 refine t5 hw fun m t' bi em h1 hw=>?_
 subst em
 ··refine ih.h.t F t ct ah t' bi aU ao A O (by rw [hup]; exact hc) h1 st.st hA.pred _ _ fun bY fI st3=>?_
   induction t' using Bool.casesOn with
   | false=>
    rw [if_neg Bool.false_ne_true]
    obtain ⟨rfl,rfl⟩:=ik hw
    exact wpAny_execs_nil (h _ _ _ (st.trans st3) trivial)
   | true=>
    rw [if_pos rfl]
    refine EZ hw fun fl' dt h2 hw=>?_
    ·refine ih.ss F b cb bi fl' dt fI bY A O hup hb h2 st3.st hA.pred _ _ fun f mU u8 st4 rf=>?_
     induction fl' using Fl.casesOn with
     | next=>
      cases f with
      | next=>exact (m1a2 m (Nat.lt_succ_self _) (g8 u8 dt hw (st.trans (st3.trans st4))))
      | _=>exact rf.elim
     | ret a=>
      obtain ⟨rfl,rfl⟩:=ik hw
      cases f with
      | ret u=>exact h _ _ _ (st.trans (st3.trans st4)) rf
      | _=>exact rf.elim
set_option tactic.hygienic true in
theorem zw (ih:IHS G n) (O:FmOk G.base F) (hup:F.up=[]) {ss:List Stmt} {cs:List S} (hc:CSs F.ns ss cs) (he:Dg.execs G.P G.W (n + 1) cs σ=some (fl,σ')) (S:StG G F ρ σ s.heap) (hA:AOk A (n + 1)) (Q:Flow→Shared→Prop) (E:Value→Shared→Prop)
  (h:∀ f s' ρ',Step G F ρ σ s ρ' σ' s'→FlRel (gr F ρ' σ' s'.heap) ρ' f fl→Q f s'):wpAny (model G.prog G.w) A (PySem.execs ss F.env) Q E s:=by
 cases hc with
 | nil=>
  obtain ⟨rfl,rfl⟩:=ik he
  exact wpAny_execs_nil (h _ _ _ (Step.refl S) trivial)
 | cons h1 h2=>
  rename_i st c ss cs
  refine EZ he fun fl' aa h3 he=>?_
  ·refine wpAny_execs_cons (ih.s F st c σ fl' aa ρ s A O hup h1 h3 S hA.pred _ E fun f ac aJ st1 rf=>?_)
   induction fl' using Fl.casesOn with
   | next=>
    cases f with
    | next=>exact ih.ss F ss cs aa fl σ' aJ ac A O hup h2 he st1.st hA.pred Q E fun f ao aU st2 r=>h _ _ _ (st1.trans st2) r
    | _=>exact rf.elim
   | ret a=>
    obtain ⟨rfl,rfl⟩:=ik he
    cases f with
    | ret u=>exact h _ _ _ st1 rf
    | _=>exact rf.elim
end
theorem jy {elt t iter:Expr} {ifs:List Expr} {gens:List Comprehension} {sc:Scope} {pos:Pos} {d:Nat} {it acc:Value} {env:Env} (h:gens[d]?=some ⟨t,iter,ifs,0⟩) (h':gens[d + 1]?=none):
  PySem.compTurn (.ListComp elt gens sc pos) d it acc env=(do
   standAt iter.pos
   match ← pyNext it with
   | none=>pure (.done .next)
   | some v=>
    letOwnedTupleGo t it v
    assign t env v
    let mut ok:=true
    for c in ifs do
     if ok then ok ← isTrue c env (eval c env)
    if ok then
     (do let _ ← call (.builtin "list.append") [acc,← eval elt env])
    again (.compLoop (.ListComp elt gens sc pos) d it acc env)):=by
 unfold PySem.compTurn
 simp only [h,h']
 rfl
theorem jx {elt t iter t' iter':Expr} {ifs ifs':List Expr} {gens:List Comprehension} {sc:Scope} {pos:Pos} {d:Nat} {it acc:Value} {env:Env} (h:gens[d]?=some ⟨t,iter,ifs,0⟩) (h':gens[d + 1]?=some ⟨t',iter',ifs',0⟩):
  PySem.compTurn (.ListComp elt gens sc pos) d it acc env=(do
   standAt iter.pos
   match ← pyNext it with
   | none=>pure (.done .next)
   | some v=>
    letOwnedTupleGo t it v
    assign t env v
    let mut ok:=true
    for c in ifs do
     if ok then ok ← isTrue c env (eval c env)
    if ok then do
     let x ← eval iter' env
     standAt iter'.pos
     let x ← foldedSetIterable iter' env x
     let _ ← runOwn (.compStart (.ListComp elt gens sc pos) (d + 1) (← holding [x] (pyIter x)) acc env) env
     again (.compLoop (.ListComp elt gens sc pos) d it acc env)
    else again (.compLoop (.ListComp elt gens sc pos) d it acc env)):=by
 unfold PySem.compTurn
 simp only [h,h']
 rfl
noncomputable def testsOf (env:Env) (ifs:List Expr):Sem Bool:=forIn ifs true fun c r=>if r=true then do let ok ← PySem.isTrue c env (eval c env); pure (ForInStep.yield ok) else pure (ForInStep.yield r)
theorem lD {M:Model} {A:Around} {E:Value→Shared→Prop} {env:Env} {Q:Bool→Shared→Prop}:∀ {ifs:List Expr} {s:Shared},Q false s→wpAny M A (forIn ifs false fun c r=>if r=true then do let ok ← PySem.isTrue c env (eval c env); pure (ForInStep.yield ok) else pure (ForInStep.yield r)) Q E s
 | [],s,h=>by rw [List.forIn_nil]; exact wpAny_pure h
 | c :: ifs,s,h=>by
  rw [List.forIn_cons]
  refine wpAny_bind ?_
  exact wpAny_pure (lD h)
noncomputable def lz (G:Gl) (n:Nat):Prop:=∀ (F:Fm) (es:List Expr) (cs:List E) (σ:AS) (b:Bool) (σ':AS) (ρ:List (Addr×Addr)) (s:Shared) (A:Around),FmOk G.base F→lB F.ns F.up es cs→hY G.P G.W n cs σ=some (b,σ')→StG G F ρ σ s.heap→AOk A n→
 ∀ (Q:Bool→Shared→Prop) (E:Value→Shared→Prop),(∀ s' ρ',Step G F ρ σ s ρ' σ' s'→Q b s')→wpAny (model G.prog G.w) A (testsOf F.env es) Q E s
structure CAt (G:Gl) (A:Around) (target:Expr) (F:Fm) (df:List (Addr×Addr)) (fk:List Addr) (aw:Shared) (xs acc:List PyData) (ρ:List (Addr×Addr)) (σ:AS) (s:Shared) (I:Addr) (W:List Addr) (Z:List PyData→Heap→Heap→Prop) (D:Addr):Prop where
 same:∃ h' tk,s={ aw with heap:=h',toks:=tk }
 pre:de df ρ
 st:StG G (F.mores W) ρ σ s.heap
 grow:bW aw.heap (fk) s.heap (UU (F.mores W) ρ σ)
 kept:∀ b∈F.gd,b≠D→∀ o,aw.heap.get? b=some o→s.heap.get? b=some o
 ok:FmOk G.base (F.mores W)
 it:Iter G A target I W Z
 z:Z xs (gr (F.mores W) ρ σ s.heap) s.heap
 dD:D∈F.gd
 nW:D ∉ W
 acc:∃ vs n,s.heap.get? D=some { cls:=.type "list",data:=.seq vs n }∧RdAll (gr (F.mores W) ρ σ s.heap) vs.toList acc
structure CEnd (G:Gl) (F:Fm) (df:List (Addr×Addr)) (fk:List Addr) (aw:Shared) (ρ:List (Addr×Addr)) (σ:AS) (s:Shared) (D:Addr) (acc:List PyData):Prop where
 same:∃ h' tk,s={ aw with heap:=h',toks:=tk }
 pre:de df ρ
 st:StG G F ρ σ s.heap
 grow:bW aw.heap (fk) s.heap (UU F ρ σ)
 kept:∀ b∈F.gd,b≠D→∀ o,aw.heap.get? b=some o→s.heap.get? b=some o
 acc:∃ vs n,s.heap.get? D=some { cls:=.type "list",data:=.seq vs n }∧RdAll (gr F ρ σ s.heap) vs.toList acc
noncomputable def mh (G:Gl) (n:Nat):Prop:=∀ (F:Fm) (t iter elt:Expr) (ifs:List Expr) (more gens:List Comprehension) (sc:Scope) (pos:Pos) (d:Nat) (ct:T) (cifs:List E) (cmore:List (T×(Nat×List E)×List E)) (celt:E)
  (xs acc acc':List PyData) (σ σ':AS) (df:List (Addr×Addr)) (fk:List Addr) (aw:Shared) (ρ:List (Addr×Addr)) (s:Shared) (A:Around) (I:Addr) (W:List Addr) (Z:List PyData→Heap→Heap→Prop) (D:Addr),
  FmOk G.base F→gens.drop d=⟨t,iter,ifs,0⟩ :: more→CT F.ns t ct→lB F.ns F.up ifs cifs→A7 F.ns F.up more cmore→CE F.ns F.up elt celt→
  compItems (Dg.compTurn G.P G.W n celt ct cifs cmore) xs acc σ=some (acc',σ')→CAt G A t F df fk aw xs acc ρ σ s I W Z D→AOk A n→
  ∀ R:Result→Shared→Prop,(∀ s' ρ',CEnd G F df fk aw ρ' σ' s' D acc'→R (.ok .next) s')→codeAny (model G.prog G.w) A (.compLoop (.ListComp elt gens sc pos) d (.ref I) (.ref D) F.env) R s
structure IHC (G:Gl) (n:Nat):Prop where
 h:IH G n
 i:pS G n
 f:lz G n
 l:mh G n
section
variable {G:Gl} {F:Fm} {df ρ ρ':List (Addr×Addr)} {σ σ':AS} {fk:List Addr} {aw s s':Shared} {A:Around} {n:Nat} {pos:Pos} {target:Expr} {I:Addr} {W:List Addr} {Z:List PyData→Heap→Heap→Prop} {D:Addr}
set_option tactic.hygienic true in
theorem xW (ih:IH G n) (ihf:lz G n):lz G (n + 1):=by
 intro F es cs σ b σ' ρ s A O hc he S hA Q E h
 cases hc with
 | nil=>
  obtain ⟨rfl,rfl⟩:=ik he
  exact wpAny_pure (h _ _ (Step.refl S))
 | cons h1 h2=>
  rename_i e c es cs
  refine FU he fun b' aa h3 he=>?_
  ·unfold testsOf
   rw [List.forIn_cons]
   refine wpAny_bind ?_
   refine wpAny_bind (ih.t F e c σ b' aa ρ s A O h1 h3 S hA.pred _ E fun ac aJ st=>?_)
   refine wpAny_pure ?_
   induction b' using Bool.casesOn with
   | true=>exact ihf F es cs aa b σ' aJ ac A O h2 he st.st hA.pred Q E fun ao aU st2=>h _ _ (st.trans st2)
   | false=>
    obtain ⟨rfl,rfl⟩:=ik he
    exact lD (h _ _ st)
theorem CAt.gd {xs acc:List PyData} (x:CAt G A target F df fk aw xs acc ρ σ s I W Z D):∀ b∈W,b∈(F.mores W).gd:=fun zz m=>List.mem_append_left _ m
theorem CAt.apart {xs acc:List PyData} (O:FmOk G.base F) (x:CAt G A target F df fk aw xs acc ρ σ s I W Z D):∀ b∈F.gd,b ∉ W:=fun b hb q=>by
 have nd:=List.nodup_append.mp x.st.nd
 have n2:(W++F.fr).Nodup:=nd.2.1
 exact (List.nodup_append.mp n2).2.2 b q b (O.gdFr b hb) rfl
theorem CAt.turn {a:PyData} {ys acc:List PyData} {X:Shared→Prop} {Y:Value→Shared→Prop} {E:Value→Shared→Prop} (x:CAt G A target F df fk aw (a :: ys) acc ρ σ s I W Z D)
  (h:∀ v bY,Turned G W (F.mores W) ρ σ s bY→Rd (gr (F.mores W) ρ σ bY.heap) v a→Z ys (gr (F.mores W) ρ σ bY.heap) bY.heap→Y v bY):
  wpAny (model G.prog G.w) A (pyNext (.ref I)) (fun r ac=>match r with | none=>X ac | some v=>wpAny (model G.prog G.w) A (letOwnedTupleGo target (.ref I) v) (fun zz ao=>Y v ao) E ac) E s:=
 wpAny_mono (x.it.turn (F.mores W) ρ σ s a ys Y E x.ok x.gd x.st x.z h) (fun r bY ⟨v,e,w⟩=>by subst e; exact w) fun zz zz x=>x
theorem CAt.fin {acc:List PyData} {X:Shared→Prop} {E:Value→Shared→Prop} {M:Value→Shared→Prop} (x:CAt G A target F df fk aw [] acc ρ σ s I W Z D)
  (h:∀ h' tk,(∀ b o,b ∉ W→s.heap.get? b=some o→h'.get? b=some o)→X { s with heap:=h',toks:=tk }):
  wpAny (model G.prog G.w) A (pyNext (.ref I)) (fun r ac=>match r with | none=>X ac | some v=>M v ac) E s:=
 wpAny_mono (x.it.done s _ X E x.z x.st.grH h) (fun r bY ⟨e,w⟩=>by subst e; exact w) fun zz zz x=>x
theorem CAt.over {acc:List PyData} {h':Heap} {tk:Nat} {xs:List PyData} (O:FmOk G.base F) (x:CAt G A target F df fk aw xs acc ρ σ s I W Z D) (hx:∀ b o,b ∉ W→s.heap.get? b=some o→h'.get? b=some o):CEnd G F df fk aw ρ σ { s with heap:=h',toks:=tk } D acc:=by
 refine bc fun hn=>?_
 obtain ⟨S2,G2⟩:=x.st.drop O hx
 refine cG x.same fun h1 t1 e1=>?_
 refine eW x.acc fun vs m e2 ra=>?_
 refine hn ?_
 exact ⟨(bV h' tk (by rw [e1])),x.pre,S2,x.grow.trans G2,fun b hb hn o e=>hx b o (x.apart O b hb) (x.kept b hb hn o e),(g8 vs m (hx _ _ x.nW e2) (ra.mono G2.sub))⟩
theorem CAt.next {a:PyData} {ys acc:List PyData} {ac ao:Shared} {aU:List (Addr×Addr)} {ah:AS} (x:CAt G A target F df fk aw (a :: ys) acc ρ σ s I W Z D) (tn:Turned G W (F.mores W) ρ σ s ac) (hz:Z ys (gr (F.mores W) ρ σ ac.heap) ac.heap) (st:Step G (F.mores W) ρ σ ac aU ah ao) (O:FmOk G.base F):
  CAt G A target F df fk aw ys acc aU ah ao I W Z D:=by
 refine bc fun hn=>?_
 refine cG x.same fun h1 t1 e1=>?_
 refine cG tn.same fun h2 t2 e2=>?_
 refine cG st.same fun h3 t3 e3=>?_
 refine eW x.acc fun vs m e4 ra=>?_
 refine hn ?_
 exact ⟨(bV h3 t3 (by rw [e3,e2,e1])),x.pre.trans st.pre,st.st,x.grow.trans (tn.grow.trans st.grow),
  fun b hb hn o e=>st.kept b (List.mem_append_right _ hb) o (tn.kept b (List.mem_append_right _ hb) (x.apart O b hb) o (x.kept b hb hn o e)),x.ok,x.it,
  x.it.mono hz st.grow.sub fun b m o e=>st.kept b (List.mem_append_left _ m) o e,x.dD,x.nW,
  (g8 vs m (st.kept D (List.mem_append_right _ x.dD) _ (tn.kept D (List.mem_append_right _ x.dD) x.nW _ e4)) (st.rdAll (ra.mono tn.grow.sub)))⟩
theorem CAt.push {ys acc:List PyData} {h':Heap} {tk:Nat} {vs:Array Value} {u:Value} {y:PyData} (x:CAt G A target F df fk aw ys acc ρ σ s I W Z D) (hv:s.heap.PlainList D vs) (rv:RdAll (gr (F.mores W) ρ σ s.heap) vs.toList acc) (ru:Rd (gr (F.mores W) ρ σ s.heap) u y)
  (hp:h'.PlainList D (vs.push u)) (hs:Heap.SameBut D s.heap h'):CAt G A target F df fk aw ys (acc++[y]) ρ σ { s with heap:=h',toks:=tk } I W Z D:=by
 refine bc fun hn=>?_
 obtain ⟨n0,e0⟩:=hv
 obtain ⟨n1,e1⟩:=hp
 have hDg:D∈(F.mores W).gd:=List.mem_append_right _ x.dD
 obtain ⟨S',g⟩:=x.st.hidTurn (W:=[D]) x.ok (fun b m=>by simp at m; exact m▸hDg) (fun b o n e=>hs.extBut b o (by simpa using n) e) (fun b m=>by simp at m; exact m▸⟨_,e1⟩) (fun b m o e v q=>by simp at m; subst m; rw [e0] at e; cases e; cases q)
 refine cG x.same fun h1 t1 e2=>?_
 refine hn ?_
 refine ⟨(bV h' tk (by rw [e2])),x.pre,S',x.grow.trans g,fun b hb hn o e=>hs.extBut b o hn (x.kept b hb hn o e),x.ok,x.it,x.it.mono x.z g.sub fun b m o e=>hs.extBut b o (fun q=>x.nW (q▸m)) e,x.dD,x.nW,(g8 _ n1 e1 ?_)⟩
 have:=(rv.append (RdAll.one ru)).mono g.sub
 simpa using this
theorem yq (ih:IH G n) (ihf:lz G n) (O:FmOk G.base F) {t iter elt:Expr} {ifs:List Expr} {gens:List Comprehension} {sc:Scope} {d:Nat} {ct:T} {cifs:List E} {celt:E} {xs acc acc':List PyData}
  (hg:gens[d]?=some ⟨t,iter,ifs,0⟩) (hg':gens[d + 1]?=none) (ht:CT F.ns t ct) (hifs:lB F.ns F.up ifs cifs) (helt:CE F.ns F.up elt celt)
  (he:compItems (Dg.compTurn G.P G.W (n + 1) celt ct cifs []) xs acc σ=some (acc',σ')) (x:CAt G A t F df fk aw xs acc ρ σ s I W Z D) (hA:AOk A (n + 1)) (R:Result→Shared→Prop)
  (h:∀ s' ρ',CEnd G F df fk aw ρ' σ' s' D acc'→R (.ok .next) s'):codeAny (model G.prog G.w) A (.compLoop (.ListComp elt gens sc pos) d (.ref I) (.ref D) F.env) R s:=by
 refine codeAny_loop rfl (fun m ao=>∃ ys fj aU ah,ys.length=m∧compItems (Dg.compTurn G.P G.W (n + 1) celt ct cifs []) ys fj ah=some (acc',σ')∧CAt G A t F df fk aw ys fj aU ah ao I W Z D) (fun m ao hI=>?_) xs.length (uB xs acc ρ σ rfl he x)
 refine Bx hI fun ys fj aU ah e_1 hf x=>?_; clear hI; subst e_1
 show wpAny _ A ((PySem.compTurn (.ListComp elt gens sc pos) d (.ref I) (.ref D) F.env).onRaise (fun x=>do noteFrame x F.env; theTreesLotGoes x)) _ _ ao
 refine wpAny_noted ?_
 rw [jy hg hg']
 refine wpAny_bind (wpAny_standAt (wpAny_bind ?_))
 induction ys using List.casesOn with
 | nil=>
  obtain ⟨rfl,rfl⟩:=ik hf
  refine wpAny_mono (x.fin (X:=fun ac=>R (.ok .next) ac) (M:=fun zz zz=>False) fun h' tk hx=>h _ _ (x.over O hx)) (fun r ac hr=>?_) fun zz zz q=>q
  induction r using Option.casesOn with
  | none=>exact wpAny_pure hr
  | some v=>exact hr.elim
 | cons a ys=>
  refine wpAny_mono (x.turn (X:=fun zz=>False) (Y:=fun v bY=>Turned G W (F.mores W) aU ah ao bY∧Rd (gr (F.mores W) aU ah bY.heap) v a∧Z ys (gr (F.mores W) aU ah bY.heap) bY.heap) fun v bY a b c=>(cw a b c)) (fun r ac hr=>?_) fun zz zz q=>q
  induction r using Option.casesOn with
  | none=>exact hr.elim
  | some v=>
   refine wpAny_bind (wpAny_mono hr (fun _ bY ⟨tn,rv,hz⟩=>?_) fun zz zz q=>q)
   refine u6 hf fun pR bi h3 hf=>?_
   ·
    refine u5 h3 fun dt h4 h3=>?_
    refine wpAny_bind (jm x.ok hA.handled (n:=n) (a:=.d a) ht h4 tn.st rv fun mU st4=>?_)
    refine xU h3 (fun eN h5 h3=>?_) fun eN h5 h3=>?_
    ·refine wpAny_bind ?_
     refine ihf (F.mores W) ifs cifs dt true eN aU mU A x.ok hifs h5 st4.st hA.pred _ _ fun mA fW st5=>?_
     refine bc fun hn=>?_
     refine mC h3 fun Gm sR h6 h3=>?_
     refine Bd h3 fun y Bh h7 h3=>?_
     refine dM h3 fun hlim h3=>?_
     obtain ⟨rfl,rfl⟩:=ik h3
     refine hn ?_
     refine wpAny_bind (wpAny_bind (ih.e (F.mores W) elt celt eN _ _ fW mA A x.ok helt h6 st5.st hA.pred _ _ fun u pn mN st6 r6=>?_))
     refine bc fun hn=>?_
     obtain ⟨st7,r7⟩:=eH x.ok st6.st h7 r6
     have x7:=x.next tn hz (st4.trans (st5.trans (st6.trans st7))) O
     refine eW x7.acc fun vs m e8 ra=>?_
     refine hn ?_
     have hl:vs.size=fj.length:=by simpa using ra.length
     refine wpAny_bind (wpAny_list_append_plain (hsz:=dY (by lia)) ⟨m,e8⟩ fun h' hp hs=>wpAny_pure ?_)
     exact wpAny_pure ⟨rfl,(m1a2 ys.length (Nat.lt_succ_self _) (uB ys (fj++[y]) mN Bh rfl hf (x7.push (tk:=pn.toks) ⟨m,e8⟩ ra r7 hp hs)))⟩
    ·obtain ⟨rfl,rfl⟩:=ik h3
     refine wpAny_bind ?_
     refine ihf (F.mores W) ifs cifs dt false eN aU mU A x.ok hifs h5 st4.st hA.pred _ _ fun mA fW st5=>?_
     exact wpAny_pure ⟨rfl,(m1a2 ys.length (Nat.lt_succ_self _) (uB ys fj fW eN rfl hf (x.next tn hz (st4.trans st5) O)))⟩
theorem qd {gens:List Comprehension} {elt t iter:Expr} {ifs:List Expr} {sc:Scope} {d:Nat} {it acc:Value} {env:Env} {R:Result→Shared→Prop} {prog:Program} {w:World} (hg:gens[d]?=some ⟨t,iter,ifs,0⟩)
  (h0:codeAny (model prog w) A (.compLoop (.ListComp elt gens sc pos) d it acc env) R s)
  (h:∀ (E:Value→Shared→Prop),wpAny (model prog w) A (pyIter it) (fun it' s'=>codeAny (model prog w) A (.compLoop (.ListComp elt gens sc pos) d it' acc env) R s') E s):codeAny (model prog w) A (.compStart (.ListComp elt gens sc pos) d it acc env) R s:=by
 refine codeAny_of_tree ?_
 show wpAny _ _ ((compStart (.ListComp elt gens sc pos) d it acc env).onRaise (fun x=>do noteFrame x env; standAt theWindowsPlace)) _ _ s
 refine wpAny_notedAt ?_
 unfold compStart
 have hc:clausesOf (.ListComp elt gens sc pos)=gens:=rfl
 rw [hc,hg]
 show wpAny _ _ (ask >>= _) _ _ s
 refine wpAny_bind (wpAny_askSetting (wpAny_ite ?_))
 split
 ·first
   | exact wpAny_bind (wpAny_pure (wpAny_pure (And.intro rfl h0)))
   | exact wpAny_pure (And.intro rfl h0)
 ·exact wpAny_bind (wpAny_rule (wpAny_bind (wpAny_standAt (wpAny_bind (wpAny_mono (h _) (fun it' s' h'=>wpAny_pure (And.intro rfl h')) fun zz zz x=>x)))))
theorem CAt.ofSrc {F':Fm} {xs acc:List PyData} (O':FmOk G.base F') {vs:Array Value} {m:Nat} (x:Src G A target F' ρ σ s xs ρ' σ' s' I W Z) (hD:D∈F'.gd) (e:s.heap.get? D=some { cls:=.type "list",data:=.seq vs m }) (r:RdAll (gr F' ρ σ s.heap) vs.toList acc):
  CAt G A target F' ρ (UU F' ρ σ) s xs acc ρ' σ' s' I W Z D:=by
 have nd:=List.nodup_append.mp x.st.nd
 have n2:(W++F'.fr).Nodup:=nd.2.1
 exact ⟨x.same,x.pre,x.st,x.grow,fun b hb zz o e=>x.kept b hb o e,x.ok,x.it,x.z,hD,fun q=>(List.nodup_append.mp n2).2.2 D q D (O'.gdFr D hD) rfl,(g8 vs m (x.kept D hD _ e) (r.mono x.grow.sub))⟩
theorem CAt.inner {a:PyData} {ys acc acc':List PyData} {ac ao bY:Shared} {aU fI:List (Addr×Addr)} {ah bi:AS} (x:CAt G A target F df fk aw (a :: ys) acc ρ σ s I W Z D) (tn:Turned G W (F.mores W) ρ σ s ac) (hz:Z ys (gr (F.mores W) ρ σ ac.heap) ac.heap) (st:Step G (F.mores W) ρ σ ac aU ah ao)
  (e:CEnd G (F.mores W) aU (UU (F.mores W) aU ah) ao fI bi bY D acc') (O:FmOk G.base F):CAt G A target F df fk aw ys acc' fI bi bY I W Z D:=by
 have x2:=x.next tn hz st O
 refine bc fun hn=>?_
 refine cG x2.same fun h1 t1 e1=>?_
 refine cG e.same fun h2 t2 e2=>?_
 refine hn ?_
 refine ⟨(bV h2 t2 (by rw [e2,e1])),x2.pre.trans e.pre,e.st,x2.grow.trans e.grow,fun b hb hn o q=>e.kept b (List.mem_append_right _ hb) hn o (x2.kept b hb hn o q),x2.ok,x2.it,x2.it.mono x2.z e.grow.sub fun b m o q=>e.kept b (List.mem_append_left _ m) (fun z=>x2.nW (z▸m)) o q,x2.dD,x2.nW,e.acc⟩
theorem yp (ih:IH G n) (ihi:pS G n) (ihf:lz G n) (ihl:mh G n) (O:FmOk G.base F) {t iter elt t' iter':Expr} {ifs ifs':List Expr} {more gens:List Comprehension} {sc:Scope} {d:Nat} {ct ct':T} {ci':Dg.I} {cifs cifs':List E} {cmore:List (T×(Nat×List E)×List E)} {celt:E} {xs acc acc':List PyData}
  (hd:gens.drop d=⟨t,iter,ifs,0⟩ :: ⟨t',iter',ifs',0⟩ :: more) (ht:CT F.ns t ct) (hifs:lB F.ns F.up ifs cifs) (helt:CE F.ns F.up elt celt) (hi':CI F.ns F.up iter' ci') (ht':CT F.ns t' ct') (h2':ci'.1=2→dC t'=true) (hifs':lB F.ns F.up ifs' cifs') (hmore:A7 F.ns F.up more cmore)
  (he:compItems (Dg.compTurn G.P G.W (n + 1) celt ct cifs ((ct',ci',cifs') :: cmore)) xs acc σ=some (acc',σ')) (x:CAt G A t F df fk aw xs acc ρ σ s I W Z D) (hA:AOk A (n + 1)) (hfs:∀ x,foldedSetIterable iter' F.env x=pure x) (R:Result→Shared→Prop)
  (h:∀ s' ρ',CEnd G F df fk aw ρ' σ' s' D acc'→R (.ok .next) s'):codeAny (model G.prog G.w) A (.compLoop (.ListComp elt gens sc pos) d (.ref I) (.ref D) F.env) R s:=by
 have hg:gens[d]?=some ⟨t,iter,ifs,0⟩:=by have:=List.getElem?_drop (xs:=gens) (i:=d) (j:=0); rw [hd] at this; simpa using this.symm
 have hg':gens[d + 1]?=some ⟨t',iter',ifs',0⟩:=by have:=List.getElem?_drop (xs:=gens) (i:=d) (j:=1); rw [hd] at this; simpa using this.symm
 have hd':gens.drop (d + 1)=⟨t',iter',ifs',0⟩ :: more:=by rw [← List.drop_drop,hd]; rfl
 refine codeAny_loop rfl (fun m ao=>∃ ys fj aU ah,ys.length=m∧compItems (Dg.compTurn G.P G.W (n + 1) celt ct cifs ((ct',ci',cifs') :: cmore)) ys fj ah=some (acc',σ')∧CAt G A t F df fk aw ys fj aU ah ao I W Z D) (fun m ao hI=>?_) xs.length (uB xs acc ρ σ rfl he x)
 refine Bx hI fun ys fj aU ah e_2 hf x=>?_; clear hI; subst e_2
 show wpAny _ A ((PySem.compTurn (.ListComp elt gens sc pos) d (.ref I) (.ref D) F.env).onRaise (fun x=>do noteFrame x F.env; theTreesLotGoes x)) _ _ ao
 refine wpAny_noted ?_
 rw [jx hg hg']
 refine wpAny_bind (wpAny_standAt (wpAny_bind ?_))
 induction ys using List.casesOn with
 | nil=>
  obtain ⟨rfl,rfl⟩:=ik hf
  refine wpAny_mono (x.fin (X:=fun ac=>R (.ok .next) ac) (M:=fun zz zz=>False) fun h' tk hx=>h _ _ (x.over O hx)) (fun r ac hr=>?_) fun zz zz q=>q
  induction r using Option.casesOn with
  | none=>exact wpAny_pure hr
  | some v=>exact hr.elim
 | cons a ys=>
  refine wpAny_mono (x.turn (X:=fun zz=>False) (Y:=fun v bY=>Turned G W (F.mores W) aU ah ao bY∧Rd (gr (F.mores W) aU ah bY.heap) v a∧Z ys (gr (F.mores W) aU ah bY.heap) bY.heap) fun v bY a b c=>(cw a b c)) (fun r ac hr=>?_) fun zz zz q=>q
  induction r using Option.casesOn with
  | none=>exact hr.elim
  | some v=>
   refine wpAny_bind (wpAny_mono hr (fun _ bY ⟨tn,rv,hz⟩=>?_) fun zz zz q=>q)
   refine u6 hf fun pR bi h3 hf=>?_
   ·
    refine u5 h3 fun dt h4 h3=>?_
    refine wpAny_bind (jm x.ok hA.handled (n:=n) (a:=.d a) ht h4 tn.st rv fun mU st4=>?_)
    refine xU h3 (fun eN h5 h3=>?_) fun eN h5 h3=>?_
    ·refine wpAny_bind ?_
     refine ihf (F.mores W) ifs cifs dt true eN aU mU A x.ok hifs h5 st4.st hA.pred _ _ fun mA fW st5=>?_
     refine bc fun hn=>?_
     refine u6 h3 fun zs sR h6 h3=>?_
     have stt:=st4.trans st5
     have x5:=x.next tn hz stt O
     refine eW x5.acc fun vs m e8 ra=>?_
     refine hn ?_
     have hDg:D∈(F.mores W).gd:=List.mem_append_right _ x.dD
     refine wpAny_bind (wpAny_mono (ihi (F.mores W) iter' ci' t' eN zs sR fW mA A x.ok hi' h2' h6 st5.st hA.pred (fun it pn=>∃ I' W' Z' mN,it=.ref I'∧Src G A t' (F.mores W) fW eN mA zs mN sR pn I' W' Z') _ fun I' W' Z' pn mN src=>(qK I' W' Z' mN rfl src)) (fun x' s' hx=>?_) fun zz zz q=>q)
     refine wpAny_bind (wpAny_standAt (wpAny_bind (wpAny_of_eq (hfs x') (wpAny_bind (wpAny_holding (wpAny_mono hx (fun it pn ⟨I',W',Z',mN,hit,src⟩=>?_) fun zz zz q=>q))))))
     subst hit
     have cat:=CAt.ofSrc (acc:=fj) x.ok src hDg e8 ra
     have loop:=ihl (F.mores W) t' iter' elt ifs' more gens sc pos (d + 1) ct' cifs' cmore celt zs fj pR sR bi fW (UU (F.mores W) fW eN) mA mN pn A I' W' Z' D x.ok hd' ht' hifs' hmore helt h3 cat hA.pred
     refine wpAny_bind (wpAny_runOwn ?_)
     have fin:∀ (R':Result→Shared→Prop),(∀ zq u7,CEnd G (F.mores W) fW (UU (F.mores W) fW eN) mA u7 bi zq D pR→R' (.ok .next) zq)→codeAny (model G.prog G.w) A (.compStart (.ListComp elt gens sc pos) (d + 1) (.ref I') (.ref D) F.env) R' pn:=fun R' hR=>qd hg' (loop R' hR) fun E'=>src.it.self pn _ E' src.z (loop R' hR)
     refine fin _ fun zq u7 ce=>?_
     exact wpAny_pure ⟨rfl,(m1a2 ys.length (Nat.lt_succ_self _) (uB ys pR u7 bi rfl hf (x.inner tn hz stt ce O)))⟩
    ·obtain ⟨rfl,rfl⟩:=ik h3
     refine wpAny_bind ?_
     refine ihf (F.mores W) ifs cifs dt false eN aU mU A x.ok hifs h5 st4.st hA.pred _ _ fun mA fW st5=>?_
     exact wpAny_pure ⟨rfl,(m1a2 ys.length (Nat.lt_succ_self _) (uB ys fj fW eN rfl hf (x.next tn hz (st4.trans st5) O)))⟩
end
noncomputable def closeList (cells:List (Str×Addr)):List (Str×NameKind)→List (Str×Addr)→List (Str×Addr)
 | [],acc=>acc
 | (n,k) :: r,acc=>if k == .free then closeList cells r ((n,(cells.lookup n).getD 0) :: acc) else closeList cells r acc
theorem ic {env:Env}:∀ (l:List (Str×NameKind)) (acc:List (Str×Addr)),(∀ x,(x,NameKind.free)∈l→∃ c,env.cells.lookup x=some c)→
  (forIn l acc fun (p:Str×NameKind) cs=>(if (p.2 == .free)=true then do let a ← cellOf env p.1; pure (ForInStep.yield ((p.1,a) :: cs)) else pure (ForInStep.yield cs):Sem (ForInStep (List (Str×Addr)))))=pure (closeList env.cells l acc)
 | [],acc,_=>rfl
 | (n,k) :: r,acc,h=>by
  rw [List.forIn_cons]
  unfold closeList
  induction hk:k == NameKind.free using Bool.casesOn with
  | false=>
   simp only [Bool.false_eq_true,if_false]
   exact ic r acc fun x m=>h x (.tail _ m)
  | true=>
   have:k=.free:=by simpa using hk
   subst this
   obtain ⟨c,hc⟩:=h n (.head _)
   have e:cellOf env n=pure c:=by unfold cellOf; rw [hc]
   simp only [if_true,e,hc]
   exact ic r _ fun x m=>h x (.tail _ m)
theorem sE {sc:Scope} {env:Env} (h:∀ x,(x,NameKind.free)∈sc.names→∃ c,env.cells.lookup x=some c):closureFor sc env=pure (closeList env.cells sc.names []):=by
 have:=ic sc.names [] h
 unfold closureFor
 exact congrArg (· >>= fun r=>pure r) this
theorem cL {cells:List (Str×Addr)} {x:Str} {c:Addr}:∀ {l:List (Str×NameKind)} {acc:List (Str×Addr)},(∀ p∈l,p.2=.free→∃ c,cells.lookup p.1=some c)→(∀ y d,acc.lookup y=some d→cells.lookup y=some d)→(closeList cells l acc).lookup x=some c→cells.lookup x=some c
 | [],acc,_,h,e=>h _ _ e
 | (n,k) :: r,acc,hf,h,e=>by
  unfold closeList at e
  split at e
  ·rename_i hk
   refine cL (fun p m=>hf p (.tail _ m)) (fun y d q=>?_) e
   rw [List.lookup_cons] at q
   induction hy:y == n using Bool.casesOn with
   | true=>
    rw [hy] at q
    have:k=.free:=by simpa using hk
    obtain ⟨c',hc'⟩:=hf _ (.head _) this
    simp only [hc',Option.getD_some,Option.some.injEq] at q
    rw [eq_of_beq hy,hc',q]
   | false=>rw [hy] at q; exact h _ _ q
  ·exact cL (fun p m=>hf p (.tail _ m)) h e
theorem gu {cells:List (Str×Addr)} {x:Str}:∀ {l:List (Str×NameKind)} {acc:List (Str×Addr)},(∃ c,acc.lookup x=some c)→∃ c,(closeList cells l acc).lookup x=some c
 | [],_,h=>h
 | (n,k) :: r,acc,h=>by
  unfold closeList
  split
  ·refine gu ?_
   obtain ⟨c,h⟩:=h
   rw [List.lookup_cons]
   cases x == n
   ·exact ⟨c,h⟩
   ·exact ⟨_,rfl⟩
  ·exact gu h
theorem jz {cells:List (Str×Addr)} {x:Str}:∀ {l:List (Str×NameKind)} {acc:List (Str×Addr)},(x,NameKind.free)∈l→∃ c,(closeList cells l acc).lookup x=some c
 | (n,k) :: r,acc,m=>by
  unfold closeList
  rcases List.mem_cons.mp m with e | m
  ·cases e
   rw [if_pos (by rfl)]
   exact gu ⟨(cells.lookup x).getD 0,by rw [List.lookup_cons]; simp⟩
  ·split <;> exact jz m
noncomputable def compFm (F:Fm) (sc:Scope) (C D:Addr):Fm:=⟨compEnvC sc (closeList F.env.cells sc.names []) C F.env,C :: D :: F.fr,D :: F.fr,sc.names,F.ns⟩
section
variable {G:Gl} {F:Fm} {ρ ρ':List (Addr×Addr)} {σ σ':AS} {s s':Shared} {A:Around} {n:Nat} {pos:Pos}
theorem fg (O:FmOk G.base F) {sc:Scope} (hc:CompSc F.ns sc):∀ x,(x,NameKind.free)∈sc.names→F.ns.lookup x=some .cell∧∃ c,F.env.cells.lookup x=some c∧c∈F.fr:=fun x m=>by
 have h1:=hc.free x (dX hc.nodup m)
 refine fq (O.cell x h1) fun c a b zz=>?_
 exact ⟨h1,(m1a2 c a b)⟩
theorem ym (O:FmOk G.base F) {sc:Scope} (hc:CompSc F.ns sc) {C D:Addr} (hC:C ∉ F.fr) (hCD:C≠D) (hb:G.base.objs.size≤C):FmOk G.base (compFm F sc C D) where
 kind:=hc.kind
 glob:=O.glob
 blt:=O.blt
 names:=by
  show (relabel sc F.env).names=wq sc.names
  refine List.map_congr_left fun p m=>?_
  obtain ⟨x,k⟩:=p
  cases k with
  | free=>
   obtain ⟨h1,_⟩:=fg O hc x m
   have h2:=O.kindOf h1
   simp [h2,O.kind,x8]
  | _=>rfl
 defn:=fun h x m q=>by
  obtain ⟨y,k⟩:=x
  simp only at q; subst q
  obtain ⟨h1,_⟩:=fg O hc y m
  have h:F.ns=[]:=h
  rw [h] at h1; exact nS h1
 nodup:=hc.nodup
 above:=hb
 frL:=.head _
 cell:=fun x hx=>absurd rfl (hc.noCell _ (mem_of_lookup hx))
 apart:=fun x y c h1 h2=>O.apart x y c (cL (fun p m q=>by obtain ⟨y,k⟩:=p; simp only at q; subst q; obtain ⟨_,t_1⟩:=fg O hc y m; refine aB t_1 fun c a zz=>?_; exact ⟨c,a⟩) (fun zz zz q=>by exact nS q) h1) (cL (fun p m q=>by obtain ⟨y,k⟩:=p; simp only at q; subst q; obtain ⟨_,t_2⟩:=fg O hc y m; refine aB t_2 fun c a zz=>?_; exact ⟨c,a⟩) (fun zz zz q=>by exact nS q) h2)
 gdFr:=fun b m=>.tail _ m
 locN:=fun m=>by
  rcases List.mem_cons.mp m with q | q
  ·exact hCD q
  ·exact hC q
 cellN:=fun x c hx=>absurd rfl (hc.noCell _ (mem_of_lookup hx))
 outG:=fun x c hx hu hcl=>by
  have h1:=hc.free x hx
  have h2:=cL (cells:=F.env.cells) (fun p m q=>by obtain ⟨y,k⟩:=p; simp only at q; subst q; obtain ⟨_,t_3⟩:=fg O hc y m; refine aB t_3 fun c a zz=>?_; exact ⟨c,a⟩) (fun zz zz q=>by exact nS q) hcl
  exact .tail _ (O.cellIn h1 h2)
theorem yl {W:List Addr} {C D:Addr} {il:Heap} {sc:Scope} {m:Str→Option Value} (O:FmOk G.base F) (S:StG G (F.mores W) ρ σ s.heap) (hc:CompSc F.ns sc) (k:∀ b o,s.heap.get? b=some o→il.get? b=some o) (hD:s.heap.objs.size≤D) (hC:s.heap.objs.size≤C) (hCD:C≠D)
  (eD:∃ o,il.get? D=some o) (eC:il.Ns C m):StG G ((compFm F sc C D).mores W) ρ { σ with loc:=List.replicate sc.names.length none,out:=σ.loc } il∧
   bW s.heap (UU (F.mores W) ρ σ) il (UU ((compFm F sc C D).mores W) ρ { σ with loc:=List.replicate sc.names.length none,out:=σ.loc }):=by
 have hm:∀ b,b∈UU ((compFm F sc C D).mores W) ρ { σ with loc:=List.replicate sc.names.length none,out:=σ.loc } ↔ b=C∨b=D∨b∈UU (F.mores W) ρ σ:=fun b=>by
  show b∈live ρ σ.heap++(W++(C :: D :: F.fr)) ↔ b=C∨b=D∨b∈live ρ σ.heap++(W++F.fr)
  simp only [List.mem_append,List.mem_cons]
  constructor
  ·rintro (m | m | m | m | m) <;> simp [m]
  ·rintro (m | m | m | m | m) <;> simp [m]
 have hCU:C ∉ UU (F.mores W) ρ σ:=S.fresh hC
 have hDU:D ∉ UU (F.mores W) ρ σ:=S.fresh hD
 have Gw:bW s.heap (UU (F.mores W) ρ σ) il (UU ((compFm F sc C D).mores W) ρ { σ with loc:=List.replicate sc.names.length none,out:=σ.loc }):=fun b o e n=>⟨k b o e,fun q=>by
  rcases (hm b).mp q with q | q | q
  ·subst q; rw [cp hC] at e; exact nS e
  ·subst q; rw [cp hD] at e; exact nS e
  ·exact n q⟩
 have hsz:=S.ex F.env.locals (List.mem_append_right _ (List.mem_append_right _ O.frL))
 obtain ⟨z0,t_4⟩:=hsz; obtain ⟨o0,e0⟩:=t_4
 have hbase:G.base.objs.size≤s.heap.objs.size:=Nat.le_of_lt (Nat.lt_of_le_of_lt z0 (Heap.lt_size e0))
 refine dB (id eC) fun oC es ep hoC zz=>?_
 refine ⟨⟨S.len,fun b o e=>Gw.hide b o (S.bas b o e),?_,fun b q=>?_,fun j a o e1 e2=>(S.objs j a o e1 e2).mono (fun zz zz zz e=>k _ _ e) Gw.sub (de.refl _),?_⟩,Gw⟩
 ·have nd:=List.nodup_append.mp S.nd
  have n2:=List.nodup_append.mp (show (W++F.fr).Nodup from nd.2.1)
  refine List.nodup_append.mpr (cw nd.1 (List.nodup_append.mpr (cw n2.1 ?_ (fun x mx y my e=>?_))) (fun x mx y my e=>?_))
  ·refine List.nodup_cons.mpr ⟨fun q=>?_,List.nodup_cons.mpr ⟨fun q=>hDU (List.mem_append_right _ (List.mem_append_right _ q)),n2.2.1⟩⟩
   rcases List.mem_cons.mp q with q | q
   ·exact hCD q
   ·exact hCU (List.mem_append_right _ (List.mem_append_right _ q))
  ·subst e
   rcases List.mem_cons.mp my with q | q
   ·subst q; exact hCU (List.mem_append_right _ (List.mem_append_left _ mx))
   ·rcases List.mem_cons.mp q with q | q
    ·subst q; exact hDU (List.mem_append_right _ (List.mem_append_left _ mx))
    ·exact n2.2.2 x mx x q rfl
  ·subst e
   rcases List.mem_append.mp my with q | q
   ·exact nd.2.2 x mx x (List.mem_append_left _ q) rfl
   ·rcases List.mem_cons.mp q with q | q
    ·subst q; exact hCU (List.mem_append_left _ mx)
    ·rcases List.mem_cons.mp q with q | q
     ·subst q; exact hDU (List.mem_append_left _ mx)
     ·exact nd.2.2 x mx x (List.mem_append_right _ q) rfl
 ·rcases (hm b).mp q with q | q | q
  ·exact ⟨q▸Nat.le_trans hbase hC,⟨oC,q▸hoC⟩⟩
  ·obtain ⟨o,e⟩:=eD; exact ⟨q▸Nat.le_trans hbase hD,⟨o,q▸e⟩⟩
  ·obtain ⟨z,t_5⟩:=S.ex b q; obtain ⟨o,e⟩:=t_5; exact ⟨z,⟨o,k _ _ e⟩⟩
 ·refine ⟨?_,(m1a2 m eC (fun i x hx v hv=>?_)),fun i x hx=>absurd rfl (hc.noCell _ (List.mem_of_getElem? hx)),fun i x hx hu=>?_⟩
  ·show (List.replicate sc.names.length (none:Option AV)).length=sc.names.length
   simp
  ·have hv:(List.replicate sc.names.length (none:Option AV))[i]?=some (some v):=hv
   rw [List.getElem?_replicate] at hv
   split at hv <;> cases hv
  ·have hu:F.ns[i]?=some (x,.cell):=hu
   refine cu (S.fd.cells i x hu) fun c cv e1 hcell hr=>?_
   obtain ⟨c',hc'⟩:=jz (cells:=F.env.cells) (acc:=[]) (mem_of_lookup hx)
   have e2:=cL (cells:=F.env.cells) (fun p m q=>by obtain ⟨y,k⟩:=p; simp only at q; subst q; obtain ⟨_,t_6⟩:=fg O hc y m; refine aB t_6 fun c a zz=>?_; exact ⟨c,a⟩) (fun zz zz q=>by exact nS q) hc'
   have e3:F.env.cells.lookup x=some c:=e1
   rw [e3] at e2; induction Option.some.inj e2
   refine (dr c cv hc' (hcell.keeps k) (fun v hv=>?_))
   refine aB (hr v hv) fun val q1 q2=>?_
   exact (m1a2 val q1 (q2.mono Gw.sub (de.refl _)))
theorem uT {W:List Addr} {C D:Addr} {sc:Scope} {h':Heap} (O:FmOk G.base F) (S:StG G (F.mores W) ρ σ s.heap) (S':StG G (compFm F sc C D) ρ' σ' h') (pre:de ρ ρ') (kept:∀ b∈F.fr,∀ o,s.heap.get? b=some o→h'.get? b=some o)
  (Gw:bW s.heap (UU (F.mores W) ρ σ) h' (UU (compFm F sc C D) ρ' σ')):StG G (F.mores [C]) ρ' { σ' with loc:=σ.loc,out:=σ.out } h'∧bW h' (UU (compFm F sc C D) ρ' σ') h' (UU (F.mores [C]) ρ' { σ' with loc:=σ.loc,out:=σ.out })∧
   D ∉ UU (F.mores [C]) ρ' { σ' with loc:=σ.loc,out:=σ.out }∧FmOk G.base (F.mores [C]):=by
 have hU:∀ b,b∈UU (F.mores [C]) ρ' { σ' with loc:=σ.loc,out:=σ.out }→b∈UU (compFm F sc C D) ρ' σ':=fun b m=>by
  rcases List.mem_append.mp m with m | m
  ·exact List.mem_append_left _ m
  ·rcases List.mem_cons.mp m with m | m
   ·exact List.mem_append_right _ (m▸.head _)
   ·exact List.mem_append_right _ (.tail _ (.tail _ m))
 have G2:bW h' (UU (compFm F sc C D) ρ' σ') h' (UU (F.mores [C]) ρ' { σ' with loc:=σ.loc,out:=σ.out }):=fun b o e n=>⟨e,fun m=>n (hU b m)⟩
 have n0:=List.nodup_append.mp S'.nd
 have n1:(C :: D :: F.fr).Nodup:=n0.2.1
 have n2:=List.nodup_cons.mp n1
 have n3:=List.nodup_cons.mp n2.2
 have hCf:C ∉ F.fr:=fun q=>n2.1 (.tail _ q)
 have OC:FmOk G.base (F.mores [C]):=O.mores fun b m=>by simp at m; exact m▸hCf
 refine (fS ⟨S'.len,fun b o e=>G2.hide b o (S'.bas b o e),List.nodup_append.mpr (cw n0.1 (List.nodup_cons.mpr ⟨hCf,n3.2⟩) (fun y m z n e=>?_)),fun b m=>S'.ex b (hU b m),fun j p o e1 e2=>(S'.objs j p o e1 e2).mono (fun zz zz zz e=>e) G2.sub (de.refl _),?_⟩ G2 (fun m=>?_) OC)
 ·subst e
  rcases List.mem_cons.mp n with q | q
  ·exact n0.2.2 y m y (q▸.head _) rfl
  ·exact n0.2.2 y m y (.tail _ (.tail _ q)) rfl
 ·have f0:FrD F s.heap (gr (F.mores W) ρ σ s.heap) ρ σ.loc σ.out:=⟨S.fd.loclen,S.fd.ns,S.fd.cells,S.fd.outs⟩
  have f:=f0.keep (h':=h') (g':=hideAll h' (UU (F.mores [C]) ρ' { σ' with loc:=σ.loc,out:=σ.out })) (kept _ O.frL) (fun y c h1 h2=>kept _ (O.cellIn h1 h2)) O (Gw.trans G2).hide pre (fun b hb=>kept b (O.gdFr b hb))
  exact ⟨f.loclen,f.ns,f.cells,f.outs⟩
 ·rcases List.mem_append.mp m with m | m
  ·exact n0.2.2 D m D (.tail _ (.head _)) rfl
  ·rcases List.mem_cons.mp m with m | m
   ·exact n2.1 (m▸.head _)
   ·exact n3.1 m
end
theorem wp {ns up:List (Str×NameKind)} {e:Expr} {c:E} (h:CE ns up e c) (env:Env):∀ x,foldedSetIterable e env x=pure x:=by
 exact Ad h.ok
theorem nB {ns up:List (Str×NameKind)} {e:Expr} {c:Dg.I} (h:CI ns up e c) (env:Env):∀ x,foldedSetIterable e env x=pure x:=by
 cases h with
 | plain h=>exact wp h env
 | range _ _=>intro _; rfl
 | enum _ _=>intro _; rfl
structure CMid (G:Gl) (F:Fm) (ρ:List (Addr×Addr)) (σ:AS) (s:Shared) (ρ':List (Addr×Addr)) (σ':AS) (s':Shared) (acc:List PyData) (C D:Addr) (m:Str→Option Value):Prop where
 same:∃ h' tk,s'={ s with heap:=h',toks:=tk }
 pre:de ρ ρ'
 st:StG G (F.mores [C]) ρ' σ' s'.heap
 grow:bW s.heap (UU F ρ σ) s'.heap (UU (F.mores [C]) ρ' σ')
 kept:∀ b∈F.gd,∀ o,s.heap.get? b=some o→s'.heap.get? b=some o
 ok:FmOk G.base (F.mores [C])
 ns:s'.heap.Ns C m
 rd:Rd (gr (F.mores [C]) ρ' σ' s'.heap) (.ref D) (.list acc)
section
variable {G:Gl} {F:Fm} {ρ ρ':List (Addr×Addr)} {σ σ':AS} {s s':Shared} {A:Around} {n:Nat} {pos:Pos} {p:AV}
theorem AK (ih:IHC G n):mh G (n + 1):=by
 intro F t iter elt ifs more gens sc pos d ct cifs cmore celt xs acc acc' σ σ' df fk aw ρ s A I W Z D O hd ht hifs hmore helt he x hA R h
 have hg:gens[d]?=some ⟨t,iter,ifs,0⟩:=by have:=List.getElem?_drop (xs:=gens) (i:=d) (j:=0); rw [hd] at this; simpa using this.symm
 cases hmore with
 | nil=>
  have hg':gens[d + 1]?=none:=by have:=List.getElem?_drop (xs:=gens) (i:=d) (j:=1); rw [hd] at this; simpa using this.symm
  exact yq ih.h ih.f O hg hg' ht hifs helt he x hA R h
 | cons hg0 hmore'=>
  cases hg0 with
  | mk hi' ht' h2' hifs'=>
  exact yp ih.h ih.i ih.f ih.l O hd ht hifs helt hi' ht' h2' hifs' hmore' he x hA (nB hi' F.env) R h
theorem pd (ihi:pS G n) (ihl:mh G n) (O:FmOk G.base F) {elt t it:Expr} {ifs:List Expr} {more:List Comprehension} {sc:Scope} {celt:E} {ct:T} {ci:Dg.I} {cifs:List E} {cmore:List (T×(Nat×List E)×List E)}
  (hc:CompSc F.ns sc) (hi:CI F.ns F.up it ci) (ht:CT sc.names t ct) (h2:ci.1=2→dC t=true) (hifs:lB sc.names F.ns ifs cifs) (hmore:A7 sc.names F.ns more cmore) (helt:CE sc.names F.ns elt celt)
  (he:ar G.P G.W (n + 1) (.comp sc.names.length celt ((ct,ci,cifs) :: cmore)) σ=some (p,σ')) (S:StG G F ρ σ s.heap) (hA:AOk A (n + 1)) (use:Option (Value→Sem Unit)) (Q:Value→Shared→Prop) (E:Value→Shared→Prop)
  (h:∀ acc s' ρ' C D m,p=.d (.list acc)→CMid G F ρ σ s ρ' σ' s' acc C D m→compPost (model G.prog G.w) A E use Q (.ref D) C (.ok .next) s'):
  wpAny (model G.prog G.w) A (comprehension (.ListComp elt (⟨t,it,ifs,0⟩ :: more) sc pos) sc F.env (firstIterPos (⟨t,it,ifs,0⟩ :: more) pos) (PySem.newList []) (firstAsync (⟨t,it,ifs,0⟩ :: more)) (firstIter (⟨t,it,ifs,0⟩ :: more) F.env) use) Q E s:=by
 refine bc fun hn=>?_
 refine u6 he fun xs aa h1 he=>?_
 refine u6 he fun acc ah h3 he=>?_
 obtain ⟨rfl,rfl⟩:=ik he
 refine hn ?_
 have hnames:∀ x∈sc.names,x.2=.local→sc.names.lookup x.1=some .local:=fun x m q=>by have:=dX hc.nodup (show (x.1,x.2)∈sc.names from m); rw [this,q]
 show wpAny _ _ (comprehension _ sc F.env _ (PySem.newList []) false (eval it F.env) use) Q E s
 refine wpAny_comprehension_free (g:=⟨t,it,ifs,0⟩) (gs:=more) rfl (nB hi F.env) (sE fun x m=>(fg O hc x m).2.elim fun c a=>⟨c,a.1⟩) hc.kind hnames ?_
 refine ihi F it ci t σ xs aa ρ s A O hi h2 h1 S hA.pred _ E fun I W Z ac aJ src=>?_
 refine wpAny_newObj_type (wpAny_newFunctionEnv hc.noCell (by intro y hy; simp at hy) (fun il sq pE=>?_) hc.kind)
 dsimp only at sq pE ⊢
 generalize hH2:ac.heap.push { cls:=.type "list",dict:=none,data:=.seq ([]:List Value).toArray }=H2 at sq pE ⊢
 have hCs:H2.objs.size=ac.heap.objs.size + 1:=by rw [← hH2,Heap.size_push]
 have hCD:H2.objs.size≠ac.heap.objs.size:=by rw [hCs]; exact Nat.succ_ne_self _
 have k:∀ b o,ac.heap.get? b=some o→il.get? b=some o:=fun b o e=>pE.extBut b o (fun q=>by
  have:=Heap.lt_size e; rw [q,hCs] at this; exact Nat.not_succ_lt_self this) (Heap.get?_push_of_some _ (hH2▸Heap.get?_push_of_some _ e))
 have hD:il.get? ac.heap.objs.size=some { cls:=.type "list",dict:=none,data:=.seq ([]:List Value).toArray }:=pE.extBut _ _ (Ne.symm hCD) (Heap.get?_push_of_some _ (hH2▸Heap.get?_push_size _ rfl))
 refine bc fun hn=>?_
 obtain ⟨S2,G2⟩:=yl (sc:=sc) (C:=H2.objs.size) (D:=ac.heap.objs.size) (m:=fun x=>([]:List (Str×Value)).reverse.lookup x) O src.st hc k (Nat.le_refl _) (by rw [hCs]; exact Nat.le_succ _) hCD ⟨_,hD⟩ sq
 have hsz:=src.st.ex F.env.locals (List.mem_append_right _ (List.mem_append_right _ O.frL))
 obtain ⟨z0,t_1⟩:=hsz; obtain ⟨o0,e0⟩:=t_1
 refine hn ?_
 have hbase:G.base.objs.size≤H2.objs.size:=by rw [hCs]; exact Nat.le_of_lt (Nat.lt_succ_of_lt (Nat.lt_of_le_of_lt z0 (Heap.lt_size e0)))
 have hCf:H2.objs.size ∉ F.fr:=fun q=>by
  obtain ⟨_,t_2⟩:=src.st.ex _ (List.mem_append_right _ (List.mem_append_right _ q)); obtain ⟨o,e⟩:=t_2
  have:=Heap.lt_size e; rw [hCs] at this; exact Nat.not_succ_lt_self this
 have OC:FmOk G.base (compFm F sc H2.objs.size ac.heap.objs.size):=ym O hc hCf hCD hbase
 have nd:=List.nodup_append.mp S2.nd
 have n2:(W++(compFm F sc H2.objs.size ac.heap.objs.size).fr).Nodup:=nd.2.1
 have hWfr:∀ b∈W,b ∉ (compFm F sc H2.objs.size ac.heap.objs.size).fr:=fun b m q=>(List.nodup_append.mp n2).2.2 b m b q rfl
 have OCW:=OC.mores hWfr
 have cat:CAt G A t (compFm F sc H2.objs.size ac.heap.objs.size) aJ (UU ((compFm F sc H2.objs.size ac.heap.objs.size).mores W) aJ { aa with loc:=List.replicate sc.names.length none,out:=aa.loc }) { ac with heap:=il,toks:=ac.toks + ([]:List (Str×Value)).length } xs [] aJ
   { aa with loc:=List.replicate sc.names.length none,out:=aa.loc } { ac with heap:=il,toks:=ac.toks + ([]:List (Str×Value)).length } I W Z ac.heap.objs.size:=
  ⟨(bV _ _ rfl),de.refl _,S2,bW.refl _ _,fun zz zz zz zz e=>e,OCW,src.it,src.it.mono src.z G2.sub (fun b zz o e=>k b o e),.head _,fun q=>hWfr _ q (.tail _ (.head _)),(g8 _ 0 hD (by simp [RdAll]))⟩
 have loop:=ihl (compFm F sc H2.objs.size ac.heap.objs.size) t it elt ifs more (⟨t,it,ifs,0⟩ :: more) sc pos 0 ct cifs cmore celt xs [] acc _ ah aJ _ _ aJ _ A I W Z ac.heap.objs.size OC rfl ht hifs hmore helt h3 cat hA.pred
  (compPost (model G.prog G.w) A E use Q (.ref ac.heap.objs.size) H2.objs.size) fun bY fI ce=>?_
 ·exact qd (s:={ ac with heap:=il,toks:=ac.toks + ([]:List (Str×Value)).length }) rfl loop fun E'=>src.it.self _ _ E' (src.it.mono src.z G2.sub (fun b zz o e=>k b o e)) loop
 ·have kept:∀ b∈F.fr,∀ o,ac.heap.get? b=some o→bY.heap.get? b=some o:=fun b hb o e=>ce.kept b (.tail _ hb) (fun q=>by rw [q,cp (Nat.le_refl _)] at e; exact nS e) o (k b o e)
  refine bc fun hn=>?_
  refine gC (uT O src.st ce.st ce.pre kept (G2.trans ce.grow)) fun S3 G3 hDn OF=>?_
  refine aB ce.st.fd.ns fun mm hmm zz=>?_
  refine cG ce.same fun h2' t2' e2'=>?_
  refine cG src.same fun h1' t1' e1'=>?_
  refine eW ce.acc fun vs nn e4 ra=>?_
  refine hn ?_
  refine h acc bY fI H2.objs.size ac.heap.objs.size mm rfl ⟨(bV h2' t2' (by rw [e2',e1'])),src.pre.trans ce.pre,S3,src.grow.trans (G2.trans (ce.grow.trans G3)),fun b hb o e=>kept b (O.gdFr b hb) o (src.kept b hb o e),OF,hmm,?_⟩
  simp only [Rd]
  exact (k9 _ vs nn rfl (hideAll_get _ e4 hDn) (ra.mono G3.sub))
theorem CMid.step {acc:List PyData} {C D:Addr} {m:Str→Option Value} {h':Heap} (O:FmOk G.base F) (x:CMid G F ρ σ s ρ' σ' s' acc C D m) (hs:Heap.SameBut C s'.heap h'):Step G F ρ σ s ρ' σ' { s' with heap:=h' }∧Rd (gr F ρ' σ' h') (.ref D) (.list acc):=by
 refine bc fun hn=>?_
 obtain ⟨S2,G2⟩:=x.st.drop (W:=[C]) O (fun b o n e=>hs.extBut b o (by simpa using n) e)
 refine cG x.same fun h1 t1 e1=>?_
 refine hn ?_
 have nd:=List.nodup_append.mp x.st.nd
 have n2:([C]++F.fr).Nodup:=nd.2.1
 have hCf:C ∉ F.fr:=(List.nodup_cons.mp n2).1
 exact ⟨⟨(bV h' t1 (by rw [e1])),x.pre,S2,x.grow.trans G2,fun b hb o e=>hs.extBut b o (fun q=>hCf (q▸O.gdFr b hb)) (x.kept b hb o e)⟩,x.rd.mono G2.sub⟩
theorem Al (ihi:pS G n) (ihl:mh G n) (O:FmOk G.base F) {elt t it:Expr} {ifs:List Expr} {more:List Comprehension} {sc:Scope} {celt:E} {ct:T} {ci:Dg.I} {cifs:List E} {cmore:List (T×(Nat×List E)×List E)}
  (hc:CompSc F.ns sc) (hi:CI F.ns F.up it ci) (ht:CT sc.names t ct) (h2:ci.1=2→dC t=true) (hifs:lB sc.names F.ns ifs cifs) (hmore:A7 sc.names F.ns more cmore) (helt:CE sc.names F.ns elt celt)
  (he:ar G.P G.W (n + 1) (.comp sc.names.length celt ((ct,ci,cifs) :: cmore)) σ=some (p,σ')) (S:StG G F ρ σ s.heap) (hA:AOk A (n + 1)):da G F (.ListComp elt (⟨t,it,ifs,0⟩ :: more) sc pos) p σ σ' ρ s A:=by
 intro Q E h
 rw [eval_ListComp]
 refine pd ihi ihl O hc hi ht h2 hifs hmore helt he S hA none Q E fun acc s' ρ' C D m hp x=>?_
 subst hp
 refine (m1a2 m x.ns (fun h' hs=>?_))
 obtain ⟨st,r⟩:=x.step O hs
 exact h _ _ _ st r
theorem um (ihi:pS G n) (ihl:mh G n) (O:FmOk G.base F) (hup:F.up=[]) {x:Str} {px:Pos} {i:Nat} {elt t it:Expr} {ifs:List Expr} {more:List Comprehension} {sc:Scope} {celt:E} {ct:T} {ci:Dg.I} {cifs:List E} {cmore:List (T×(Nat×List E)×List E)} {spos:Pos} {fl:Fl}
  (hx:F.ns[i]?=some (x,.local)) (hc:CompSc F.ns sc) (hi:CI F.ns [] it ci) (ht:CT sc.names t ct) (h2:ci.1=2→dC t=true) (hifs:lB sc.names F.ns ifs cifs) (hmore:A7 sc.names F.ns more cmore) (helt:CE sc.names F.ns elt celt)
  (hsw:swapsWith (.ListComp elt (⟨t,it,ifs,0⟩ :: more) sc pos) (some (.Name x px)) spos.line F.env=pure true)
  (he:Dg.exec G.P G.W (n + 2) (.assign (.loc i) (.comp sc.names.length celt ((ct,ci,cifs) :: cmore))) σ=some (fl,σ')) (S:StG G F ρ σ s.heap) (hA:AOk A (n + 2)):iW G F (.Assign [.Name x px] (.ListComp elt (⟨t,it,ifs,0⟩ :: more) sc pos) spos) fl σ σ' ρ s A:=by
 refine bc fun hn=>?_
 refine mC he fun v aa h1 he=>?_
 refine u5 he fun ah h3 he=>?_
 refine hn ?_
 refine jn he ?_
 intro Q E h
 rw [exec_Assign_Name_used _ _ _ _ hsw]
 refine wpAny_bind (wpAny_standAt (wpAny_bind ?_))
 show wpAny _ A (do let _ ← comprehension (.ListComp elt (⟨t,it,ifs,0⟩ :: more) sc pos) sc F.env (firstIterPos (⟨t,it,ifs,0⟩ :: more) pos) (PySem.newList []) (firstAsync (⟨t,it,ifs,0⟩ :: more)) (firstIter (⟨t,it,ifs,0⟩ :: more) F.env) (some (assign (.Name x px) F.env))) _ _ s
 refine wpAny_bind (wpAny_mono (pd (Q:=fun zz s'=>Q .next s') ihi ihl O hc (by rw [hup]; exact hi) ht h2 hifs hmore helt h1 S hA.pred (some (assign (.Name x px) F.env)) E fun acc s' ρ' C D m hp y=>?_) (fun zz s' hq=>wpAny_pure (wpAny_pure hq)) fun zz zz e=>e)
 subst hp
 show wpAny _ A (assign (.Name x px) F.env (.ref D)) _ _ _
 have h3':ah=aa.setLoc i (.d (.list acc)):=xv h3
 refine assign_Name (iu (F:=F.mores [C]) y.ok y.st hx (.inl rfl) (a:=.d (.list acc)) y.rd fun bY st3=>?_)
 rw [← h3'] at st3
 refine bc fun hn=>?_
 refine cG st3.same fun h3s t3 e3=>?_
 refine cG y.same fun hys ty ey=>?_
 have hCg:C∈(F.mores [C]).gd:=.head _
 refine dB y.ns fun o es ep ho r=>?_
 refine hn ?_
 have ns3:bY.heap.Ns C m:=(fc o es ep (st3.kept C hCg o ho) r)
 refine (m1a2 m ns3 (fun h' hs=>?_))
 obtain ⟨S2,G2⟩:=st3.st.drop (W:=[C]) O (fun b o n e=>hs.extBut b o (by simpa using n) e)
 have nd:=List.nodup_append.mp st3.st.nd
 have n2:([C]++F.fr).Nodup:=nd.2.1
 have hCf:C ∉ F.fr:=(List.nodup_cons.mp n2).1
 exact h _ _ _ ⟨(bV h' t3 (by rw [e3,ey])),y.pre.trans st3.pre,S2,y.grow.trans (st3.grow.trans G2),fun b hb o e=>hs.extBut b o (fun q=>hCf (q▸O.gdFr b hb)) (st3.kept b (.tail _ hb) o (y.kept b hb o e))⟩ trivial
end
section
variable {prog:Program} {w:World} {A:Around} {K:Frag} {C:Addr} {R:Result→Shared→Prop} {s:Shared}
theorem v0 {x dx:Addr} {name:Str} {tk:Tok} {v:Value} {es es':List DictEntry} {n n':Nat} (X:K.In s.heap) (I:InstAt s.heap x (instObj C dx) C (some (dictOf es n))) (hp:plainOver K C=true) (ht:takerIn K C name=some none) (hh:hasDictIn K C=true)
  (hl:getL name es=some none) (e1:putL name (PyData.keyHash w.params name) (.str name s.toks) v es=es') (e2:putN name es n=n') (hz:es'.length≤1000)
  (h:∀ h',Heap.SameBut dx s.heap h'→h'.get? dx=some (dictOf es' n')→R (.ok (.ret .none)) { s with heap:=h',toks:=s.toks + 1 }):
  codeAny (model prog w) A (.call (.builtin "object.__setattr__") ⟨[.ref x,.str name tk,v],[]⟩) R s:=by
 refine osa_open X I hp ht fun b=>?_
 refine aB (any_some hh) fun cd hc hd'=>?_
 obtain ⟨hx,hcl,hn,D⟩:=I
 have D:s.heap.get? dx=some (dictOf es n):=D
 have e:Obj.putName name (PyData.keyHash w.params name) (.str name s.toks) v (dictOf es n)=dictOf es' n':=by rw [putName_dict,e1,e2]
 have D':(s.heap.update dx (Obj.putName name (PyData.keyHash w.params name) (.str name s.toks) v)).get? dx=some (dictOf es' n'):=by
  have:=Heap.get?_update_self (Obj.putName name (PyData.keyHash w.params name) (.str name s.toks) v) D (by rw [e]; rfl)
  rw [this,e]
 refine wpAny_bind (wpAny_pure (wpAny_bind (wpAny_bind (wpAny_loadPart hx (wpAny_bind ((looks_clsIn X hc).here ?_))))))
 rw [hd']
 refine wpAny_pure (a:=some dx) (wpAny_bind (wpAny_pure (wpAny_bind ?_)))
 unfold nsSet
 refine wpAny_bind (wpAny_bind (wpAny_askSetting (wpAny_pure (wpAny_bind (wpAny_mkText (wpAny_bind (wpAny_loadPart D ?_)))))))
 unfold getL at hl
 have c:(!es.toArray.any (·.key.isStr name) && es.toArray.any (·.refKey))=false:=by
  rw [← Array.any_toList,← Array.any_toList]
  show (!es.any _ && es.any _)=false
  split at hl
  ·cases hl
  ·split at hl
   ·exact nS hl
   ·rename_i z; rw [Bool.not_eq_true] at z; rw [z,Bool.and_false]
 show wpAny _ _ (match (dictOf es n).data with | _=>_) _ _ _
 rw [aRefKeyMayBeTheName_at,c]
 refine wpAny_updatePart D ?_
 refine wpAny_bind (wpAny_lookBehind D' (by exact pastItsLine_dict (by rw [List.size_toArray,sizeLine_eq]; exact zb1 ‹_› rfl)) ?_)
 exact wpAny_pure (h _ (Heap.SameBut.update ..) D')
end
section
variable {G:Gl} {F:Fm} {ρ ρ':List (Addr×Addr)} {σ σ':AS} {s s':Shared} {A:Around} {n:Nat} {pos:Pos} {fl:Fl}
theorem qw {name:Str} {hsh:Int} {key v:Value}:∀ {es:List DictEntry},(∀ e∈es,e.key.isStr name=false)→putL name hsh key v es=es++[⟨hsh,key,v⟩]
 | [],_=>rfl
 | e :: r,h=>by
  unfold putL
  rw [if_neg (by rw [h e (.head _)]; simp),qw fun x m=>h x (.tail _ m)]; rfl
theorem ul (ih:IH G n) (O:FmOk G.base F) (hup:F.up=[]) {o e:Expr} {a:Str} {k:Nat} {co ce:E} {p:Pos} (ha:cr[k]?=some a) (ho:CE F.ns [] o co) (hc:CE F.ns [] e ce) (he:Dg.exec G.P G.W (n + 1) (.setAttr co k ce) σ=some (fl,σ')) (S:StG G F ρ σ s.heap) (hA:AOk A (n + 1)):
  iW G F (.Assign [.Attribute o a p] e pos) fl σ σ' ρ s A:=by
 refine mC he fun v aa h1 he=>?_
 refine w9 he fun j ah h2 he=>?_
 refine EY he fun fs hj he=>?_
 refine dM he fun hk he=>?_
 refine jn he ?_
 intro Q E h
 refine plainObj_wpAny_Assign_Attribute (ih.e F e ce σ _ _ ρ s A O (by rw [hup]; exact hc) h1 S hA.pred _ E fun u ac aJ st1 r1=>?_) zu
 refine ih.e F o co aa _ _ aJ ac A O (by rw [hup]; exact ho) h2 st1.st hA.pred _ E fun ov ao aU st2 r2=>?_
 refine ga (nk st2.st hj r2) fun q ens nn eq e_1 I gf=>?_; subst e_1
 have hlt:=pf ha
 have hno:a ∉ cr.take fs.length:=by
  rw [hk]
  intro m
  obtain ⟨i,hi⟩:=List.mem_iff_getElem?.mp m
  have hik:i < k:=by
   have:=(List.getElem?_eq_some_iff.mp hi).1
   simp at this; lia
  rw [List.getElem?_take_of_lt hik] at hi
  have:=lx hi ha (by exact Di ‹_›)
  simp at this
 have hgl:=lR gf hno
 have hall:∀ e∈ens,e.key.isStr a=false:=fun e m=>by
  obtain ⟨i,hi⟩:=List.mem_iff_getElem?.mp m
  have hi':i < fs.length:=by rw [← gf.1]; exact (List.getElem?_eq_some_iff.mp hi).1
  refine ga (gf.2.2 i _ (List.getElem?_eq_getElem hi')) fun e' t y a1 b1 c1 d1=>?_
  rw [jQ gf hi b1]
  exact lx b1 ha (by exact Dy ‹_› ‹_›)
 have r1':=st2.vrel r1
 refine set_plain (StG.keepsK ih.K st2.st) I ih.K.setter ?_
 refine v0 (s:={ ao with toks:=ao.toks + 1 }) (StG.keepsK ih.K st2.st) I ih.K.plain (ih.K.attr k a ha).2.2 ih.K.hasDict hgl (qw hall) rfl (by simp; have:=gf.1; lia) fun h' hs hd=>?_
 have hme:q.2∈liveOf q (.inst fs):=by simp [liveOf]
 have hne:q.1≠q.2:=by
  have nd:=st2.st.ndLive
  refine eW (g9 eq hj) fun l r q1 zz=>?_
  rw [q1] at nd
  have:=(List.nodup_append.mp (List.nodup_append.mp nd).1).2.1
  simp [liveOf] at this
  exact this
 have hcU:q.2∈UU F aU ah:=List.mem_append_left _ (cA eq hj hme)
 have G0:=bW.of_turn (U:=UU F aU ah) hs.extBut hcU
 have hr:od G.C (dQ G.w) h' (hideAll h' (UU F aU ah)) aU q (.inst (fs++[v])):=by
  refine (xM (ens++[⟨PyData.keyHash G.w.params a,.str a (ao.toks + 1),u⟩]) (putN a ens nn) (hs.extBut _ _ hne I.at_) hd (by simp [gf.1]) (by simp; lia) (fun i f hf=>?_))
  by_cases hi:i < fs.length
  ·rw [List.getElem?_append_left hi] at hf
   refine ga (gf.2.2 i f hf) fun e' t y a1 b1 c1 d1=>?_
   exact (jL e' t y (by rw [List.getElem?_append_left (by rw [gf.1]; exact hi)]; exact a1) b1 c1 (d1.mono G0.sub (de.refl _)))
  ·have hlen:=(List.getElem?_eq_some_iff.mp hf).1
   simp at hlen
   have hi2:i=fs.length:=by lia
   subst hi2
   simp at hf; subst hf
   refine (jL ⟨PyData.keyHash G.w.params a,.str a (ao.toks + 1),u⟩ (ao.toks + 1) a ?_ (by rw [hk]; exact ha) rfl (VRel.mono G0.sub (de.refl _) r1'))
   rw [← gf.1]; simp
 have T:=st2.st.ownTurn (σ':=ah.put j (.inst (fs++[v]))) O eq hj hme (by simp [liveOf]) hs.extBut ⟨_,hd⟩ rfl hr
 have hnf:=st2.st.notFr (cA eq hj hme)
 have st3:Step G F aU ah ao aU (ah.put j (.inst (fs++[v]))) { ao with heap:=h',toks:=ao.toks + 1 + 1 }:=⟨(bV _ _ rfl),de.refl _,T.1,T.2,fun b hb o e=>hs.extBut b o (fun z=>hnf (z▸O.gdFr b hb)) e⟩
 exact h _ _ _ (st1.trans (st2.trans st3)) trivial
end
noncomputable def emptyH:Heap:={ (default:Heap) with objs:=#[] }
theorem lW (b:Addr):emptyH.get? b=none:=by
 induction e:emptyH.get? b using Option.casesOn with
 | none=>rfl
 | some o=>exact absurd (Heap.lt_size e) (Nat.not_lt.mpr (Nat.zero_le _))
theorem uG:kas_sort 2=.ask 1 0 fun c=>if c=true then .ret #[1,0] else .ret #[0,1]:=by
 unfold kas_sort kas_count kas_asc
 show KasT.ask _ _ _=_
 congr 1
 funext c
 induction c <;> rfl
section
variable {G:Gl} {F:Fm} {ρ ρ':List (Addr×Addr)} {σ σ':AS} {s s':Shared} {A:Around} {n:Nat} {pos:Pos}
theorem wX (h:Heap) (L:Addr):∃ news:List (Addr×Obj),(∀ p∈news,h.get? p.1=some p.2∧p.1≠L)∧∀ b o,h.get? b=some o→b≠L→(b,o)∈news:=by
 refine (m1a2 ((List.range h.objs.size).filterMap fun b=>if b=L then none else (h.get? b).map fun o=>(b,o)) (fun p m=>?_) (fun b o e hb=>?_))
 ·refine aB (List.mem_filterMap.mp m) fun b zz q=>?_
  split at q
  ·exact nS q
  ·rename_i hne
   refine aB (Option.map_eq_some_iff.mp q) fun o e e_1=>?_; subst e_1
   exact ⟨e,hne⟩
 ·exact List.mem_filterMap.mpr (m1a2 b (List.mem_range.mpr (Heap.lt_size e)) (by rw [if_neg hb,e]; rfl))
theorem Step.nsTurn {m:Str→Option Value} {h':Heap} {tk:Nat} (O:FmOk G.base F) (S:StG G F ρ σ s.heap) (hm:∀ (i:Nat) (x:Str),F.ns[i]?=some (x,.local)→∀ v,σ.loc[i]?=some (some v)→∃ val,m x=some val∧VRel (gr F ρ σ s.heap) ρ val v)
  (hx:Heap.ExtBut F.env.locals s.heap h') (hn:h'.Ns F.env.locals m):Step G F ρ σ s ρ σ { s with heap:=h',toks:=tk }:=by
 have hc:F.env.locals∈UU F ρ σ:=List.mem_append_right _ O.frL
 have G0:=bW.of_turn (U:=UU F ρ σ) hx hc
 refine dB (id hn) fun o es ep ho zz=>?_
 have hnl:F.env.locals ∉ live ρ σ.heap:=fun q=>(List.nodup_append.mp S.nd).2.2 _ q _ O.frL rfl
 have hfd:FrD F h' (hideAll h' (UU F ρ σ)) ρ σ.loc σ.out:=by
  refine ⟨S.fd.loclen,(m1a2 m hn (fun i x hi v hv=>?_)),fun i x hi=>?_,fun i x hi hu=>?_⟩
  ·refine aB (hm i x hi v hv) fun val a b=>?_; exact (m1a2 val a (b.mono G0.sub (de.refl _)))
  ·refine bc fun hn=>?_
   refine cu (S.fd.cells i x hi) fun c cv e1 t_2 hr=>?_; refine aB t_2 fun oc hoc hd=>?_; clear t_2
   refine fq (O.cell x (fe O.nodup hi)) fun c' e2 zz hne=>?_
   refine hn ?_
   rw [e1] at e2; induction Option.some.inj e2
   exact (dr c cv e1 (m1a2 oc (hx c oc hne hoc) hd) (fun v hv=>aB (hr v hv) fun val a b=>(m1a2 val a (b.mono G0.sub (de.refl _)))))
  ·refine cu (S.fd.outs i x hi hu) fun c cv e1 t_3 hr=>?_; refine aB t_3 fun oc hoc hd=>?_; clear t_3
   have hg:=O.outG x c hi ⟨i,hu⟩ e1
   exact (dr c cv e1 (m1a2 oc (hx c oc (fun q=>O.locN (q▸hg)) hoc) hd) (fun v hv=>aB (hr v hv) fun val a b=>(m1a2 val a (b.mono G0.sub (de.refl _)))))
 obtain ⟨S',g⟩:=S.turn (σ':=σ) (h':=h') hx hc ⟨_,ho⟩ rfl rfl (fun j b p f1 f2=>.inl ⟨fun q=>hnl (cA f1 f2 q),f2⟩) hfd
 exact ⟨(bV h' tk rfl),de.refl _,S',g,fun b hb o e=>hx b o (fun q=>O.locN (q▸hb)) e⟩
theorem qC {g:Heap} {v:Value} {a b:Int} (r:Rd g v (.tuple [.int a,.int b])):∃ p n t u,v=.ref p∧g.get? p=some { cls:=.type "tuple",data:=.seq #[.int a t,.int b u] n }:=by
 refine bc fun hn=>?_
 refine eV r fun p vs n e_4 e ra=>?_; clear r; subst e_4
 refine cu ra fun v1 r1 e1 q1 t_5=>?_; clear ra; refine cu t_5 fun v2 r2 e_6 q2 e_7=>?_; subst e_6; subst e_7
 obtain ⟨t,rfl⟩:=q1
 obtain ⟨u,rfl⟩:=q2
 refine hn ?_
 refine (qK p n t u rfl ?_)
 rw [e]
 have:vs=#[.int a t,.int b u]:=by apply Array.toList_inj.mp; simpa using e1
 rw [this]
theorem vL (O:FmOk G.base F) (S:StG G F ρ σ s.heap) (_hA:AOk A (n + 1)) {l:Addr} {v1 v2:Value} {a b c d:Int} (hl:s.heap.IsList l #[v1,v2]) (r1:Rd (gr F ρ σ s.heap) v1 (.tuple [.int a,.int b])) (r2:Rd (gr F ρ σ s.heap) v2 (.tuple [.int c,.int d])) {Q:Value→Shared→Prop} {E:Value→Shared→Prop}
  (h:∀ v s',Step G F ρ σ s ρ σ s'→Rd (gr F ρ σ s'.heap) v (.list (if c < a∨(c=a∧d < b) then [.tuple [.int c,.int d],.tuple [.int a,.int b]] else [.tuple [.int a,.int b],.tuple [.int c,.int d]]))→Q v s'):
  wpAny (model G.prog G.w) A (call (.builtin "sorted") [.ref l]) Q E s:=by
 refine aB S.fd.ns fun m hn hm=>?_
 refine aB (wX s.heap F.env.locals) fun news nw1 nw2=>?_
 have Fr0:Fr emptyH F.env.locals s.heap m:=⟨hn,fun b o e=>(by rw [lW] at e; exact nS e),Nat.zero_le _⟩
 have N0:News emptyH F.env.locals s.heap news:=fun p hp=>(cw ((nw1 p hp).1) ((nw1 p hp).2) (lW _))
 refine vg (qC r1) fun p1 n1 t1 u1 e_8 e1=>?_; subst e_8
 refine vg (qC r2) fun p2 n2 t2 u2 e_9 e2=>?_; subst e_9
 have hp1:p1≠F.env.locals:=fun q=>by rw [q,hideAll_none _ (List.mem_append_right _ O.frL)] at e1; exact nS e1
 have hp2:p2≠F.env.locals:=fun q=>by rw [q,hideAll_none _ (List.mem_append_right _ O.frL)] at e2; exact nS e2
 have m1:=nw2 _ _ (S.grH _ _ e1) hp1
 have m2:=nw2 _ _ (S.grH _ _ e2) hp2
 refine kat_sorted (vs:=[.ref p1,.ref p2]) Fr0 N0 hl (by simp) (by simp) fun D ee h' F' N' hD=>?_
 have g1:h'.get? p1=some { cls:=.type "tuple",data:=.seq #[.int a t1,.int b u1] n1 }:=(N' _ (.tail _ m1)).1
 have g2:h'.get? p2=some { cls:=.type "tuple",data:=.seq #[.int c t2,.int d u2] n2 }:=(N' _ (.tail _ m2)).1
 refine kat_kind (fs:=[.int a t1,.int c t2]) (T:=.type "int") (.cons g1 rfl rfl rfl (.cons g2 rfl rfl rfl .nil)) (by simp) (fun v hv=>?_) (by decide) ?_
 ·have:∃ i t,v=.int i t:=by simp at hv; rcases hv with rfl | rfl <;> exact (bV _ _ rfl)
  refine cG this fun i t e_10=>?_; clear this; subst e_10
  exact Looks.of_pure rfl
 have fin:∀ (out:List Value) (zs:List PyData),RdAll (gr F ρ σ s.heap) out zs→(∀ v s',Step G F ρ σ s ρ σ s'→Rd (gr F ρ σ s'.heap) v (.list zs)→Q v s')→KasFin emptyH F.env.locals m D ee out (fun s3=>Q (.ref D) s3) { s with heap:=h' }:=fun out zs ro hQ=>by
  refine KasFin.intro F' N' (.head (fun p hp=>Nat.ne_of_lt (hD p hp))) fun h'' c'' F'' N''=>?_
  have hx:Heap.ExtBut F.env.locals s.heap h'':=fun b o hb e=>(N'' _ (.tail _ (nw2 b o e hb))).1
  have st:=Step.nsTurn (tk:=s.toks) O S hm hx F''.ns
  have hDn:=(N'' _ (.head _)).1
  have hDU:D ∉ UU F ρ σ:=fun q=>by
   obtain ⟨_,t_11⟩:=S.ex D q; obtain ⟨o,e⟩:=t_11
   by_cases hDL:D=F.env.locals
   ·exact (N'' _ (.head _)).2.1 hDL
   ·exact absurd (hD _ (nw2 D o e hDL)) (Nat.lt_irrefl _)
  refine hQ _ _ st ?_
  simp only [Rd]
  exact (k9 D _ _ rfl (hideAll_get _ hDn hDU) (st.rdAll ro))
 show (kas_sort 2).kasWp _ _ _
 rw [uG]
 show kas_ask G.prog G.w A.in1.in1 (tuples' true) [.ref p1,.ref p2] 1 0 _ _
 show wpAny _ _ (keyLt' (tuples' true) (.ref p2) (.ref p1)) _ _ _
 have rr1:=r1
 have rr2:=r2
 have key:∀ r:Bool,r=decide (c < a∨(c=a∧d < b))→KasT.kasWp (kas_ask G.prog G.w A.in1.in1 (tuples' true) [.ref p1,.ref p2]) (if r=true then KasT.ret #[1,0] else KasT.ret #[0,1]) (fun p s''=>KasFin emptyH F.env.locals m D ee (p.toList.map fun i=>([.ref p1,.ref p2]:List Value).getD i Value.none) (fun s3=>Q (.ref D) s3) s'') { s with heap:=h' }:=fun r hr=>by
  induction r using Bool.casesOn with
  | true=>
   have hc:c < a∨(c=a∧d < b):=by simpa using hr.symm
   refine fin [.ref p2,.ref p1] [.tuple [.int c,.int d],.tuple [.int a,.int b]] ?_ (by rw [if_pos hc] at h; exact h)
   simp only [RdAll]; exact (dr _ _ rfl rr2 (dr _ _ rfl rr1 rfl))
  | false=>
   have hc:¬ (c < a∨(c=a∧d < b)):=by simpa using hr.symm
   refine fin [.ref p1,.ref p2] [.tuple [.int a,.int b],.tuple [.int c,.int d]] ?_ (by rw [if_neg hc] at h; exact h)
   simp only [RdAll]; exact (dr _ _ rfl rr1 (dr _ _ rfl rr2 rfl))
 refine kat_lt g2 rfl g1 rfl (kat_cons (wpAny_eqBool_int ?_))
 by_cases h1:c=a
 ·subst h1
  rw [beq_self_eq_true]
  refine kat_yes (kat_cons (wpAny_eqBool_int ?_))
  by_cases h2:d=b
  ·subst h2
   rw [beq_self_eq_true]
   exact kat_yes (kat_nil (key _ (by simp)))
  ·rw [beq_eq_false_iff_ne.mpr h2]
   exact kat_no (kat_one (E:=fun zz zz=>False) _ _ (P.lt_int (key _ (by simp))))
 ·rw [beq_eq_false_iff_ne.mpr h1]
  exact kat_no (oneLt_int (key _ (by simp [h1])))
end
section
variable {G:Gl} {F:Fm} {ρ ρ':List (Addr×Addr)} {σ σ':AS} {s s':Shared} {A:Around} {n:Nat} {pos:Pos}
theorem vM {l:Addr} {v:Value} (hl:s.heap.IsList l [v].toArray) {Q:Value→Shared→Prop} {E:Value→Shared→Prop} {prog:Program} {w:World}
  (h:∀ D h',(∀ b o,s.heap.get? b=some o→h'.get? b=some o)→s.heap.objs.size≤D→(∃ c,h'.get? D=some (seqObj "list" [v].toArray c))→Q (.ref D) { s with heap:=h' }):
  wpAny (model prog w) A (call (.builtin "sorted") [.ref l]) Q E s:=by
 refine Calls.call_function_entry kind_sorted plain_sorted entry_sorted (args_sorted1 _) ?_
 unfold Builtin.«sorted»
 refine wpAny_bind (m:=checkCount "sorted" 1 1 _) (wpAny_pure ?_)
 refine wpAny_bind (collect_list hl ?_ (by rw [sizeLine_eq]; simp))
 refine wpAny_bind (wpAny_newList ?_ (by rw [sizeLine_eq]; simp))
 have hsz:((s.heap.push (seqObj "list" #[] 0)).update s.heap.objs.size (Obj.mapSeq (·++[v].toArray))).objs.size=s.heap.objs.size + 1:=by
  rw [Heap.size_update,size_push']
 have hoL:(((s.heap.push (seqObj "list" #[] 0)).update s.heap.objs.size (Obj.mapSeq (·++[v].toArray))).push (seqObj "list" [v].toArray 0)).get? (s.heap.objs.size + 1)=some (seqObj "list" [v].toArray 0):=by
  rw [← hsz]; exact Heap.get?_push_size _ rfl
 have keep:∀ b o,s.heap.get? b=some o→(((s.heap.push (seqObj "list" #[] 0)).update s.heap.objs.size (Obj.mapSeq (·++[v].toArray))).push (seqObj "list" [v].toArray 0)).get? b=some o:=fun b o q=>by
  have hlt:b < s.heap.objs.size:=Heap.lt_size q
  rw [Heap.get?_push_ne _ _ _ (by rw [hsz]; exact Nat.ne_of_lt (Nat.lt_succ_of_lt hlt)),Heap.get?_update_ne _ _ _ _ (Nat.ne_of_lt hlt),Heap.get?_push_ne _ _ _ (Nat.ne_of_lt hlt)]
  exact q
 show wpAny _ _ _ _ _ { s with heap:=((s.heap.push (seqObj "list" #[] 0)).update s.heap.objs.size (Obj.mapSeq (·++[v].toArray))).push (seqObj "list" [v].toArray 0) }
 rw [hsz]
 generalize ((s.heap.push (seqObj "list" #[] 0)).update s.heap.objs.size (Obj.mapSeq (·++[v].toArray))).push (seqObj "list" [v].toArray 0)=H at hoL keep ⊢
 generalize hDe:s.heap.objs.size + 1=D at hoL ⊢
 refine wpAny_bind (wpAny_holding (wpAny_call_entry slot_list_sort (m1a2 _ hoL rfl) entry_list_sort ?body (args_list_sort _)))
 case body=>
  rw [list_sort_plain]
  have s1:=Heap.SameBut.update H D (Obj.mapSeq fun zz=>(#[]:Array Value))
  obtain ⟨e1,ho1⟩:∃ e1,(H.update D (Obj.mapSeq fun zz=>(#[]:Array Value))).get? D=some (seqObj "list" #[] e1):=⟨_,get?_update_seq hoL fun zz=>#[]⟩
  refine wpAny_bind (listItems_at hoL rfl ?_)
  refine wpAny_bind (listUpdate_at hoL rfl ?_ (by simp [sizeLine_eq]) (Nat.zero_le _))
  refine wpAny_bind (seqEpoch_at ho1 rfl ?_)
  refine wpAny_bind (wpAny_newTuple ?_ (by simp [sizeLine_eq]))
  refine wpAny_bind (wpAny_newList ?_ (Nat.zero_le _))
  refine wpAny_holding ?_
  show wpAny (model prog w) _ _ _ E { s with heap:=((H.update D (Obj.mapSeq fun zz=>(#[]:Array Value))).push (seqObj "tuple" [v].toArray 0)).push (seqObj "list" #[] 0) }
  have ho2:(((H.update D (Obj.mapSeq fun zz=>(#[]:Array Value))).push (seqObj "tuple" [v].toArray 0)).push (seqObj "list" #[] 0)).get? D=some (seqObj "list" #[] e1):=Heap.get?_push_of_some _ (Heap.get?_push_of_some _ ho1)
  have k2:∀ b o,b≠D→H.get? b=some o→(((H.update D (Obj.mapSeq fun zz=>(#[]:Array Value))).push (seqObj "tuple" [v].toArray 0)).push (seqObj "list" #[] 0)).get? b=some o:=fun b o hb e=>Heap.get?_push_of_some _ (Heap.get?_push_of_some _ (s1.extBut b o hb e))
  generalize ((H.update D (Obj.mapSeq fun zz=>(#[]:Array Value))).push (seqObj "tuple" [v].toArray 0)).push (seqObj "list" #[] 0)=H2 at ho2 k2 ⊢
  have hlt:([v].toArray:Array Value).size < 2:=by simp
  rw [if_pos hlt,if_pos hlt]
  refine wpAny_bind (wpAny_pure ?_)
  refine wpAny_bind (wpAny_pure (a:=((),SortSt.mk' general' ([v].toArray.zip [v].toArray) #[] 7 none)) ?_)
  have s3:=Heap.SameBut.update H2 D (Obj.mapSeq fun zz=>[v].toArray)
  obtain ⟨c2,hc2⟩:∃ c2,(H2.update D (Obj.mapSeq fun zz=>[v].toArray)).get? D=some (seqObj "list" [v].toArray c2):=⟨_,get?_update_seq ho2 fun zz=>[v].toArray⟩
  refine wpAny_bind (seqEpoch_at ho2 rfl ?_)
  have harr:(arrOf (SortSt.mk' general' ([v].toArray.zip [v].toArray) #[] 7 none)).map (·.2)=[v].toArray:=by
   show (([v].toArray:Array Value).zip [v].toArray).map (·.2)=[v].toArray
   apply Array.toList_inj.mp
   simp
  rw [harr]
  refine wpAny_bind (listUpdate_at ho2 rfl ?_ (Nat.zero_le _) (by simp [sizeLine_eq]))
  simp only [bne_self_eq_false,Bool.false_eq_true,if_false]
  refine wpAny_pure (m1a2 _ rfl (wpAny_pure (m1a2 _ rfl (h D _ (fun b o e=>?_) (by rw [← hDe]; exact Nat.le_succ _) ⟨c2,hc2⟩))))
  have hb:b≠D:=fun q=>by
   have:=Heap.lt_size e
   rw [q,← hDe] at this
   exact Nat.not_succ_lt_self this
  exact s3.extBut b o hb (k2 b o hb (keep b o e))
theorem xn (O:FmOk G.base F) (S:StG G F ρ σ s.heap) (hA:AOk A (n + 1)) {v:Value} {xs ys:List PyData} (hs:qf xs=some ys) (rv:Rd (gr F ρ σ s.heap) v (.list xs)) {Q:Value→Shared→Prop} {E:Value→Shared→Prop}
  (h:∀ u s',Step G F ρ σ s ρ σ s'→Rd (gr F ρ σ s'.heap) u (.list ys)→Q u s'):wpAny (model G.prog G.w) A (call (.builtin "sorted") [v]) Q E s:=by
 refine eV rv fun l vs nn e_1 e ra=>?_; clear rv; subst e_1
 have hl:s.heap.IsList l vs:=(dT _ (S.grH _ _ e) rfl ⟨nn,rfl⟩)
 refine vN hs (fun x e0 e9=>?_) fun a b c d e0 e9=>?_
 ·clear hs; subst e0; subst e9
  refine cu ra fun v1 r e1 q1 e_2=>?_; clear ra; subst e_2
  have ev:vs=[v1].toArray:=by apply Array.toList_inj.mp; simpa using e1
  subst ev
  refine vM hl fun D h' k hD ⟨c,hc⟩=>?_
  have st:=Step.keeps (tk:=s.toks) O S k
  refine h _ _ st ?_
  simp only [Rd]
  exact (k9 D _ c rfl (hideAll_get _ hc (S.fresh hD)) (by simp only [RdAll]; exact (dr v1 [] rfl (st.rd q1) rfl)))
 ·clear hs; subst e0; subst e9
  refine cu ra fun v1 r1 e1 q1 t_3=>?_; clear ra; refine cu t_3 fun v2 r2 e_4 q2 e_5=>?_; subst e_4; subst e_5
  have ev:vs=#[v1,v2]:=by apply Array.toList_inj.mp; simpa using e1
  subst ev
  exact vL O S hA hl q1 q2 fun u s' st r=>h u s' st r
theorem wu (ih:IH G n) (O:FmOk G.base F) {a:Expr} {ca:Dg.E} {q:Pos} {p:AV} (hl:F.ns.lookup ("sorted":Str)=some .globalImplicit) (ha:CE F.ns F.up a ca) (he:ar G.P G.W (n + 1) (.sorted ca) σ=some (p,σ')) (S:StG G F ρ σ s.heap) (hA:AOk A (n + 1)):
  da G F (.Call (.Name "sorted" q) [a] [] pos) p σ σ' ρ s A:=by
 intro Q E h
 refine bc fun hn=>?_
 refine EW he fun xs aa h1 he=>?_
 refine Ds he fun ys hs he=>?_
 obtain ⟨rfl,rfl⟩:=ik he
 refine hn ?_
 refine wO ih O hl (by simp) boot_sorted (.inl ⟨_,rfl⟩) (by decide) (by decide) ha h1 S hA fun v ac aJ st r=>?_
 exact xn O st.st hA hs r fun u ao st2 r2=>h _ _ _ (st.trans st2) r2
end
structure All (G:Gl) (n:Nat):Prop where
 K:GlOk G
 e:A0 G n
 es:tW G n
 t:AY G n
 c:A3 G n
 i:pS G n
 f:lz G n
 l:mh G n
 s:AZ G n
 ss:tV G n
 pv:∀ m,m + 1=n→pS G m∧mh G m
section
variable {G:Gl} {n:Nat}
theorem All.ih (x:All G n):IH G n:=⟨x.K,x.e,x.es,x.t,x.c⟩
theorem All.ihs (x:All G n):IHS G n:=⟨x.ih,x.i,x.s,x.ss⟩
theorem All.ihc (x:All G n):IHC G n:=⟨x.ih,x.i,x.f,x.l⟩
set_option tactic.hygienic true in
theorem C8 (x:All G n):A0 G (n + 1):=by
 intro F e c σ p σ' ρ s A O hc he S hA Q E h
 refine hc.out fun m hm=>?_; clear hc
 cases hm with
 | int=>exact xt O he S h
 | str=>exact xp O he S h
 | bool=>exact vQ O he S h
 | neg h1=>exact CB x.ih O h1.ce he S hA Q E h
 | not h1=>exact nS he
 | loc h1 h2 h3=>exact xr O h1 h2 h3 he S h
 | out h1 h2 h3 h4=>exact xq O h1 h2 h3 h4 he S h
 | attr h1 h2 h3=>exact An x.ih O h1 h2 h3.ce he S hA Q E h
 | bin h1 h2 h3=>exact CH x.ih O h1 h2.ce h3.ce he S hA Q E h
 | cmp h1 h2 h3 h4=>exact CG x.ih O h1 h2 h3.ce h4.ce he S hA Q E h
 | cmp2=>exact nS he
 | conj h1 h2=>exact Ak x.ih O h1.ce h2.ce he S hA Q E h
 | ife h1 h2 h3=>exact CD x.ih O h1.ce h2.ce h3.ce he S hA Q E h
 | call h1 h2 h3 h4=>exact Am x.ih O h1 h2 (yw h3) he S hA Q E h
 | new h1 h2 h3=>exact CA x.ih O h1 (yw h2) he S hA Q E h
 | meth h1 h2 h3 h4 h5 h6 h7=>exact Ah x.ih O h1 h2 h3 h4.ce (yw h5) h6 h7 he S hA Q E h
 | append h1 h2 h3 h4=>exact ww x.ih O h1 h2 h3.ce h4.ce he S hA Q E h
 | pop h1 h2 h3=>exact Cz x.ih O h1 h2 h3.ce he S hA Q E h
 | reverse h1 h2 h3=>exact uS x.ih O h1 h2 h3.ce he S hA Q E h
 | extend h1 h2 h3 h4=>exact wv x.ih O h1 h2 h3.ce h4.ce he S hA Q E h
 | get h1 h2 h3 h4 h5=>exact CF x.ih O h1 h2 h3.ce h4.ce h5.ce he S hA Q E h
 | len h1 h2=>exact CC x.ih O h1 h2.ce he S hA Q E h
 | min1 h1 h2=>exact Ag x.ih O h1 h2.ce he S hA Q E h
 | min2 h1 h2 h3=>exact Af x.ih O h1 h2.ce h3.ce he S hA Q E h
 | max2 h1 h2 h3=>exact Ai x.ih O h1 h2.ce h3.ce he S hA Q E h
 | tuple h1 h2=>exact yc x.ih O h1 h2.ce he S hA Q E h
 | sorted h1 h2=>exact wu x.ih O h1 h2.ce he S hA Q E h
 | sub h1 h2 h3=>exact Cx x.ih O h1 h2.ce h3.ce he S hA Q E h
 | slice h1 h2 h3 h4=>exact yd x.ih O h1 h2.ce h3.ce h4.ce he S hA Q E h
 | rev h1 h2=>exact Cy x.ih O h1 h2.ce he S hA Q E h
 | tup h1 h2=>exact Cw x.ih O (yw h1) h2 he S hA Q E h
 | list h1 h2=>exact Aj x.ih O (yw h1) h2 he S hA Q E h
 | dict0=>exact yf O he S Q E h
 | dict1 h1 h2=>exact ye x.ih O h1.ce h2.ce he S hA Q E h
 | comp h1 h2 h3 h4 h5 h6 h7=>exact Al x.i x.l O h1 (ci h2) h3 h4 (yw h5) (FW h6) h7.ce he S hA Q E h
theorem uJ {e:Expr} {env:Env} (h:Eo e=true):isTrue e env (eval e env)=(do let v ← eval e env; standAt e.pos; holding [v] (truthy v)):=by
 cases e with
 | UnaryOp op a p=>cases op <;> first | rfl | exact fT h
 | _=>first | rfl | exact fT h
theorem uQ {P:List FD} {W:Nat} {c:Dg.E} {σ:AS} (h:rZ c=true):dg P W (n + 1) c σ=(match ar P W n c σ with | some (v,aa)=>(match truthV aa v with | some r=>some (r,aa) | none=>none) | none=>none):=by
 cases c <;> first | rfl | exact fT h
theorem C6 (x:All G n):AY G (n + 1):=by
 intro F e c σ b σ' ρ s A O hc he S hA Q E h
 have pl:Eo e=true→rZ c=true→wpAny (model G.prog G.w) A (isTrue e F.env (eval e F.env)) Q E s:=fun k hp=>by
  have he':=(uQ hp).symm.trans he
  refine bc fun hn=>?_
  refine mC he' fun v aa h1 he'=>?_
  refine Cd he' fun r hr he'=>?_
  obtain ⟨rfl,rfl⟩:=ik he'
  refine hn ?_
  exact xj x.ih O hc h1 hr S hA (uJ k) Q E h
 cases hc.view with
 | plain _ k _ hp=>exact pl k hp
 | comp _ _ _ _ _ _ _ _ _ _ _ _ h1 h2=>exact pl (by rw [h1]; rfl) (by rw [h2]; rfl)
 | not _ _ _ h1 h2 h3=>subst h1; subst h2; exact BG x.ih O h3 he S hA Q E h
 | cmp _ _ _ _ _ _ _ e1 e2 h1 h2 h3 h4=>subst e1; subst e2; exact BH x.ih O h1 h2 h3 h4 he S hA Q E h
 | cmp2 _ _ _ _ _ _ _ _ _ _ _ e1 e2 h1 h2 h3 h4 h5 h6=>subst e1; subst e2; exact zp x.ih O h1 h2 h3 h4 h5 h6 he S hA Q E h
 | conj _ _ _ _ _ e1 e2 h1 h2=>subst e1; subst e2; exact zo x.ih O h1 h2 he S hA Q E h
 | ife _ _ _ _ _ _ _ e1 e2=>subst e2; exact nS he
theorem C7 (x:All G n):AZ G (n + 1):=by
 intro F st c σ fl σ' ρ s A O hup hc he S hA Q E h
 have hk:=O.kind
 have hns:=O.defNames hup
 refine hc.out fun m hm=>?_; clear hc
 cases hm with
 | assign h1 h2 h3 h4=>exact vU x.ihs O hup h1 h2 (h3 F.env hk hns) (h4 F.env hk hns) he S hA Q E h
 | assignC h1 h2 h3 h4=>
  induction n using Nat.casesOn with
  | zero=>exact nS he
  | succ n=>
   obtain ⟨p1,p2⟩:=x.pv n rfl
   cases h3.view with
   | comp _ _ _ _ _ _ _ _ _ _ _ _ e1 e2 k1 k2 k3 k4 k5 k6 k7=>
    subst e1
    subst e2
    exact um p1 p2 O hup h1 k1 k2 k3 k4 k5 k6 k7 (h4 F.env hk hns) he S hA Q E h
   | plain _ _ k _=>rw [k] at h2; exact fT h2
   | not _ _ _ k=>rw [k] at h2; exact fT h2
   | cmp _ _ _ _ _ _ _ k=>rw [k] at h2; exact fT h2
   | cmp2 _ _ _ _ _ _ _ _ _ _ _ k=>rw [k] at h2; exact fT h2
   | conj _ _ _ _ _ k=>rw [k] at h2; exact fT h2
   | ife _ _ _ _ _ _ _ k=>rw [k] at h2; exact fT h2
 | assign2 h1 h2 h3 h4 h6=>exact un x.ihs O hup h1 h2 h3 h4 (h6 F.env hk hns) he S hA Q E h
 | setSub h1 h2 h3 h4=>exact vR x.ihs O hup h1 h2 h3 h4 he S hA Q E h
 | setAttr h1 h2 h3=>exact ul x.ih O hup h1 h2 h3 he S hA Q E h
 | augLoc h1 h2 h3 h4=>exact vT x.ihs O hup h1 h2 h3 h4 he S hA Q E h
 | augSub h1 h2 h3 h4 h5 h6=>exact vS x.ihs O hup h1 h2 h3 h4 h5 h6 he S hA Q E h
 | expr h1 h2=>exact zA x.ihs O hup h1 h2 he S hA Q E h
 | ite h1 h2 h3=>exact BK x.ihs O hup h1 (CX h2) (CX h3) he S hA Q E h
 | «while» h1 h2=>exact xw x.ihs O hup h1 (CX h2) he S hA Q E h
 | «for» h1 h2 h3 h4=>exact BL x.i x.ss O hup h1 h2 h3 (CX h4) he S hA (nB h2 F.env) Q E h
 | ret h1=>exact BJ x.ihs O hup h1 he S hA Q E h
 | raise=>exact nS he
theorem wV (K:GlOk G):All G 0 where
 K:=K
 e:=fun F e c σ p σ' ρ s A O hc he=>by exact nS he
 es:=fun F e c σ p σ' ρ s A pos O hc he=>by exact nS he
 t:=fun F e c σ p σ' ρ s A O hc he=>by exact nS he
 c:=fun F f ps σ p σ' ρ s A vs O he=>by exact nS he
 i:=fun F it ci t σ xs σ' ρ s A O hc h2 he=>by exact nS he
 f:=fun F es cs σ b σ' ρ s A O hc he=>by exact nS he
 l:=fun F t iter elt ifs more gens sc pos d ct cifs cmore celt xs acc acc' σ σ' df fk aw ρ s A I W Z D O hd ht hifs hmore helt he x hA R h=>by
  induction xs using List.casesOn with
  | cons a xs=>exact nS he
  | nil=>
   obtain ⟨rfl,rfl⟩:=ik he
   have hg:gens[d]?=some ⟨t,iter,ifs,0⟩:=by have:=List.getElem?_drop (xs:=gens) (i:=d) (j:=0); rw [hd] at this; simpa using this.symm
   refine codeAny_loop rfl (fun m ao=>ao=s) (fun m ao hI=>?_) 0 rfl
   subst hI
   show wpAny _ A ((PySem.compTurn (.ListComp elt gens sc pos) d (.ref I) (.ref D) F.env).onRaise (fun x=>do noteFrame x F.env; theTreesLotGoes x)) _ _ ao
   refine wpAny_noted ?_
   induction hg':gens[d + 1]? using Option.casesOn with
   | none=>
    rw [jy hg hg']
    refine wpAny_bind (wpAny_standAt (wpAny_bind ?_))
    refine wpAny_mono (x.fin (X:=fun ac=>R (.ok .next) ac) (M:=fun zz zz=>False) fun h' tk hx=>h _ _ (x.over O hx)) (fun r ac hr=>?_) fun zz zz q=>q
    induction r using Option.casesOn with
    | none=>exact wpAny_pure hr
    | some v=>exact hr.elim
   | some g'=>
    cases hmore with
    | nil=>
     have:=List.getElem?_drop (xs:=gens) (i:=d) (j:=1)
     rw [hd,hg'] at this; simp at this
    | cons hg0 hmore'=>
     cases hg0 with
     | @mk t' iter' ifs' _ _ _ hi' ht' h2' hifs'=>
     have hg2:gens[d + 1]?=some ⟨t',iter',ifs',0⟩:=by have:=List.getElem?_drop (xs:=gens) (i:=d) (j:=1); rw [hd] at this; simpa using this.symm
     rw [jx hg hg2]
     refine wpAny_bind (wpAny_standAt (wpAny_bind ?_))
     refine wpAny_mono (x.fin (X:=fun ac=>R (.ok .next) ac) (M:=fun zz zz=>False) fun h' tk hx=>h _ _ (x.over O hx)) (fun r ac hr=>?_) fun zz zz q=>q
     induction r using Option.casesOn with
     | none=>exact wpAny_pure hr
     | some v=>exact hr.elim
 s:=fun F st c σ fl σ' ρ s A O hup hc he=>by exact nS he
 ss:=fun F st c σ fl σ' ρ s A O hup hc he=>by exact nS he
 pv:=fun m h=>absurd h (Nat.succ_ne_zero m)
theorem wW (x:All G n):All G (n + 1) where
 K:=x.K
 e:=C8 x
 es:=fun F es cs σ ps σ' ρ s A pos O hc he S hA Q E h=>Ae x.ih O hc he S hA pos Q E h
 t:=C6 x
 c:=AN x.K x.ss
 i:=fun F it ci t σ xs σ' ρ s A O hc h2 he S hA Q E h=>zx x.ih O hc h2 he S hA h
 f:=xW x.ih x.f
 l:=AK x.ihc
 s:=C7 x
 ss:=fun F ss cs σ fl σ' ρ s A O hup hc he S hA Q E h=>zw x.ihs O hup hc he S hA Q E h
 pv:=fun m h=>by cases h; exact ⟨x.i,x.l⟩
theorem all (K:GlOk G):∀ n,All G n
 | 0=>wV K
 | n + 1=>wW (all K n)
end
end Dg
end
section
open PySem PySem.W PyProof.Rows PySem.Calls
namespace Dg
noncomputable abbrev Op (p:Prop):=Option (PLift p)
noncomputable def yes {p:Prop} (h:p):Op p:=some ⟨h⟩
noncomputable def aT {p q:Prop} (x:Op p) (k:p→Op q):Op q:=by induction x using Option.casesOn with
 | none=>exact none
 | some h=>exact k h.down
noncomputable def FE {p:Prop} (x y:Op p):Op p:=by induction x using Option.casesOn with
 | none=>exact y
 | some h=>exact some h
noncomputable def gd (p:Prop) [h:Decidable p]:Op p:=if q:p then yes q else none
section
variable {α:Type} {P:List α→Type}
@[elab_as_elim] noncomputable def  mG (l:List α) (d:∀ x,P x) (k:P []):P l:=by induction l using List.casesOn with
 | nil=>exact k
 | cons _ _=>exact d _
@[elab_as_elim] noncomputable def  Do (l:List α) (d:∀ x,P x) (k:∀ a t,P (a :: t)):P l:=by induction l using List.casesOn with
 | nil=>exact d _
 | cons a t=>exact k a t
@[elab_as_elim] noncomputable def  rG (l:List α) (d:∀ x,P x) (k:∀ a,P [a]):P l:=by induction l using List.casesOn with
 | nil=>exact d _
 | cons a t=>induction t using List.casesOn with
  | nil=>exact k a
  | cons _ _=>exact d _
@[elab_as_elim] noncomputable def  w8 (l:List α) (d:∀ x,P x) (k:∀ a b,P [a,b]):P l:=by induction l using List.casesOn with
 | nil=>exact d _
 | cons a t=>induction t using List.casesOn with
  | nil=>exact d _
  | cons b t=>induction t using List.casesOn with
   | nil=>exact k a b
   | cons _ _=>exact d _
end
section
variable {α:Type} {P:Option α→Type}
@[elab_as_elim] noncomputable def  BS (l:Option α) (d:∀ x,P x) (k:∀ a,P (some a)):P l:=by induction l using Option.casesOn with
 | none=>exact d _
 | some a=>exact k a
@[elab_as_elim] noncomputable def  En (l:Option α) (d:∀ x,P x) (k:P none):P l:=by induction l using Option.casesOn with
 | none=>exact k
 | some _=>exact d _
end
noncomputable def kj {α β:Type} {R:α→β→Prop} (r:∀ a b,Op (R a b)) (as:List α):∀ bs,Op (L2 R as bs):=by
 induction as with
 | nil=>exact fun bs=>mG bs (fun zz=>none) (yes .nil)
 | cons a as ih=>exact fun bs=>Do bs (fun zz=>none) fun b bs=>aT (r a b) fun h=>aT (ih bs) fun q=>yes (.cons h q)
section
variable {P:Const→Type}
@[elab_as_elim] noncomputable def yM (c:Const) (d:∀ x,P x) (k:∀ i,P (.int i)):P c:=if h:c.ctorIdx=2 then Const.int.elim c h k else d c
@[elab_as_elim] noncomputable def BR (c:Const) (d:∀ x,P x) (k:∀ i,P (.str i)):P c:=if h:c.ctorIdx=5 then Const.str.elim c h k else d c
@[elab_as_elim] noncomputable def zG (c:Const) (d:∀ x,P x) (k:∀ i,P (.bool i)):P c:=if h:c.ctorIdx=1 then Const.bool.elim c h k else d c
end
section
variable {P:Expr→Type} (e:Expr) (d:∀ e,P e)
@[elab_as_elim] noncomputable def g6 (k:∀ v k pos,P (.Constant v k pos)):P e:=if h:e.ctorIdx=19 then Expr.Constant.elim e h k else d e
@[elab_as_elim] noncomputable def kX (k:∀ op a pos,P (.UnaryOp op a pos)):P e:=if h:e.ctorIdx=3 then Expr.UnaryOp.elim e h k else d e
@[elab_as_elim] noncomputable def dI (k:∀ x pos,P (.Name x pos)):P e:=if h:e.ctorIdx=23 then Expr.Name.elim e h k else d e
@[elab_as_elim] noncomputable def dk (k:∀ o a pos,P (.Attribute o a pos)):P e:=if h:e.ctorIdx=20 then Expr.Attribute.elim e h k else d e
@[elab_as_elim] noncomputable def xE (k:∀ a op b pos,P (.BinOp a op b pos)):P e:=if h:e.ctorIdx=2 then Expr.BinOp.elim e h k else d e
@[elab_as_elim] noncomputable def oG (k:∀ a os cs pos,P (.Compare a os cs pos)):P e:=if h:e.ctorIdx=15 then Expr.Compare.elim e h k else d e
@[elab_as_elim] noncomputable def wa (k:∀ op vs pos,P (.BoolOp op vs pos)):P e:=if h:e.ctorIdx=0 then Expr.BoolOp.elim e h k else d e
@[elab_as_elim] noncomputable def xD (k:∀ t a b pos,P (.IfExp t a b pos)):P e:=if h:e.ctorIdx=5 then Expr.IfExp.elim e h k else d e
@[elab_as_elim] noncomputable def dS (k:∀ f as ks pos,P (.Call f as ks pos)):P e:=if h:e.ctorIdx=16 then Expr.Call.elim e h k else d e
@[elab_as_elim] noncomputable def fv (k:∀ a i pos,P (.Subscript a i pos)):P e:=if h:e.ctorIdx=21 then Expr.Subscript.elim e h k else d e
@[elab_as_elim] noncomputable def mF (k:∀ es k pos,P (.Tuple es k pos)):P e:=if h:e.ctorIdx=25 then Expr.Tuple.elim e h k else d e
@[elab_as_elim] noncomputable def zF (k:∀ es pos,P (.List es pos)):P e:=if h:e.ctorIdx=24 then Expr.List.elim e h k else d e
@[elab_as_elim] noncomputable def v9 (k:∀ ks vs pos,P (.Dict ks vs pos)):P e:=if h:e.ctorIdx=6 then Expr.Dict.elim e h k else d e
@[elab_as_elim] noncomputable def r8 (k:∀ elt gs sc pos,P (.ListComp elt gs sc pos)):P e:=if h:e.ctorIdx=8 then Expr.ListComp.elim e h k else d e
@[elab_as_elim] noncomputable def tu (k:∀ lo hi st p,P (.Slice lo hi st p)):P e:=if h:e.ctorIdx=26 then Expr.Slice.elim e h k else d e
end
section
variable {P:Stmt→Type} (e:Stmt) (d:∀ e,P e)
@[elab_as_elim] noncomputable def mW (k:∀ ts e pos,P (.Assign ts e pos)):P e:=if h:e.ctorIdx=5 then Stmt.Assign.elim e h k else d e
@[elab_as_elim] noncomputable def lF (k:∀ t op e pos,P (.AugAssign t op e pos)):P e:=if h:e.ctorIdx=7 then Stmt.AugAssign.elim e h k else d e
@[elab_as_elim] noncomputable def zv (k:∀ e pos,P (.Expr e pos)):P e:=if h:e.ctorIdx=24 then Stmt.Expr.elim e h k else d e
@[elab_as_elim] noncomputable def Ei (k:∀ t a b pos,P (.If t a b pos)):P e:=if h:e.ctorIdx=12 then Stmt.If.elim e h k else d e
@[elab_as_elim] noncomputable def xk (k:∀ t b c pos,P (.While t b c pos)):P e:=if h:e.ctorIdx=11 then Stmt.While.elim e h k else d e
@[elab_as_elim] noncomputable def BI (k:∀ t it b c pos,P (.For t it b c pos)):P e:=if h:e.ctorIdx=9 then Stmt.For.elim e h k else d e
@[elab_as_elim] noncomputable def vJ (k:∀ e pos,P (.Return e pos)):P e:=if h:e.ctorIdx=3 then Stmt.Return.elim e h k else d e
@[elab_as_elim] noncomputable def xm (k:∀ e c pos,P (.Raise e c pos)):P e:=if h:e.ctorIdx=16 then Stmt.Raise.elim e h k else d e
end
noncomputable def AP (op:Operator) (bo:BO):Op (kH op bo):=gd (op=zE bo)
noncomputable def AJ (op:CmpOp) (co:CO):Op (eK op co):=gd (op=yW co)
noncomputable def C5 (bo:BO):Op (bo=.add∨bo=.sub):=by induction bo; (case add=>exact yes (.inl rfl)); (case sub=>exact yes (.inr rfl)); all_goals exact none
noncomputable def Gv (k:NameKind):Op (k=.local∨k=.cell):=by induction k; (case «local»=>exact yes (.inl rfl)); (case cell=>exact yes (.inr rfl)); all_goals exact none
noncomputable def FO {p:Prop} (ns:NL) (i:Nat) (x:Str) (k:∀ k,ns[i]?=some (x,k)→(k=.local∨k=.cell)→Op p):Op p:=by
 induction h:ns[i]? using Option.casesOn with
 | none=>exact none
 | some y=>
  obtain ⟨y,c⟩:=y
  exact if e:y=x then aT (Gv c) fun q=>k c (by rw [h,e]) q else none
noncomputable def wg (ns l:NL):Op (∀ x,l.lookup x=some .free→ns.lookup x=some .cell):=by
 induction l with
 | nil=>exact yes fun x h=>by exact nS h
 | cons a l ih=>
  obtain ⟨y,k⟩:=a
  exact aT ih fun q=>if e:k=.free→ns.lookup y=some .cell then yes fun x h=>by
    rw [List.lookup_cons] at h
    induction t:x == y using Bool.casesOn with
    | true=>rw [t] at h; cases h; rw [beq_iff_eq.mp t]; exact e rfl
    | false=>rw [t] at h; exact q x h
   else none
noncomputable def BV {α:Type} (l:List α):Op (l=[]):=by induction l; (case nil=>exact yes rfl); exact none
noncomputable def Ev (ns:NL) (sc:Scope):Op (CompSc ns sc):=
 aT (gd (sc.kind=.function)) fun h1=>aT (gd ((sc.names.map (·.1)).Nodup)) fun h2=>aT (gd (∀ x∈sc.names,x.2≠.cell)) fun h3=>aT (wg ns sc.names) fun h4=>
  aT (BV sc.more) fun h=>yes ⟨h1,h2,h3,h4,h⟩
mutual
noncomputable def BZ (ns:NL):Nat→(e:Expr)→(t:T)→Op (CT ns e t)
 | 0,_,_=>none
 | n + 1,e,.loc i=>dI e (fun zz=>none) fun x pos=>FO ns i x fun zz h q=>yes (.loc h q)
 | n + 1,e,.tup ts=>mF e (fun zz=>none) fun es k pos=>aT (BY ns n es ts) fun h=>yes (.tup h)
noncomputable def BY (ns:NL):Nat→(e:List Expr)→(t:List T)→Op (CTs ns e t)
 | 0,_,_=>none
 | _ + 1,e,[]=>mG e (fun zz=>none) (yes .nil)
 | n + 1,e,t :: ts=>Do e (fun zz=>none) fun e es=>aT (BZ ns n e t) fun h=>aT (BY ns n es ts) fun q=>yes (.cons h q)
end
section
variable {R:NL→NL→Expr→E→Prop} (r:∀ ns up e c,Op (R ns up e c)) (ns up:NL)
noncomputable def zQ (e:Expr) (c:I):Op (CI1 R ns up e c):=by
 obtain ⟨k,cs⟩:=c
 exact if k0:k=0 then rG cs (fun zz=>none) fun c=>aT (r ns up e c) fun h=>yes (by subst k0; exact .plain h)
  else if k1:k=1 then dS e (fun zz=>none) fun f as ks pos=>dI f (fun zz=>none) fun m p=>mG ks (fun zz=>none) (aT (gd (m=("range":Str))) fun g=>aT (gd (ns.lookup ("range":Str)=some .globalImplicit)) fun h=>aT (kj (r ns up) as cs) fun q=>yes (by subst g; subst k1; exact .range h q))
  else if k2:k=2 then rG cs (fun zz=>none) fun c=>dS e (fun zz=>none) fun f as ks pos=>dI f (fun zz=>none) fun m p=>rG as (fun zz=>none) fun a=>mG ks (fun zz=>none) (aT (gd (m=("enumerate":Str))) fun g=>aT (gd (ns.lookup ("enumerate":Str)=some .globalImplicit)) fun h=>aT (r ns up a c) fun q=>yes (by subst g; subst k2; exact .enum h q))
  else none
noncomputable def Ex (e:Comprehension) (c:T×(Nat×List E)×List E):Op (CG1 R ns up e c):=by
 obtain ⟨t,it,ifs,as⟩:=e
 obtain ⟨ct,ci,cifs⟩:=c
 exact aT (gd (as=0)) fun g=>aT (zQ r ns up it ci) fun h1=>aT (BZ ns 9 t ct) fun h2=>aT (gd (ci.1=2→dC t=true)) fun h3=>aT (kj (r ns up) ifs cifs) fun h4=>yes (by subst g; exact .mk h1 h2 h3 h4)
noncomputable def Ey (e:Expr) (c:E):Op (CE1 R ns up e c):=by
 cases c with
 | int j=>exact g6 e (fun zz=>none) fun v k pos=>yM v (fun zz=>none) fun i=>aT (gd (i=j)) fun h=>yes (by subst h; exact .int)
 | str j=>exact g6 e (fun zz=>none) fun v k pos=>BR v (fun zz=>none) fun i=>aT (gd (i=j)) fun h=>yes (by subst h; exact .str)
 | bool j=>exact g6 e (fun zz=>none) fun v k pos=>zG v (fun zz=>none) fun i=>aT (gd (i=j)) fun h=>yes (by subst h; exact .bool)
 | neg c=>exact kX e (fun zz=>none) fun op a pos=>aT (gd (op=.USub)) fun g=>aT (r ns up a c) fun h=>yes (by subst g; exact .neg h)
 | not c=>exact kX e (fun zz=>none) fun op a pos=>aT (gd (op=.Not)) fun g=>aT (r ns up a c) fun h=>yes (by subst g; exact .not h)
 | loc i=>exact dI e (fun zz=>none) fun x pos=>FO ns i x fun zz h q=>aT (gd ((x == ("__debug__":Str))=false)) fun d=>yes (.loc h q d)
 | out i=>exact dI e (fun zz=>none) fun x pos=>aT (gd (ns.lookup x=some .free)) fun h=>aT (gd (up[i]?=some (x,.cell))) fun q=>aT (gd ((x == ("__debug__":Str))=false)) fun d=>aT (gd ((x == ("__classdict__":Str))=false)) fun c=>yes (.out h q d c)
 | attr c k=>exact dk e (fun zz=>none) fun o a pos=>aT (gd (cH o=false)) fun h=>aT (gd (cr[k]?=some a)) fun q=>aT (r ns up o c) fun d=>yes (.attr h q d)
 | bin bo ca cb=>exact xE e (fun zz=>none) fun a op b pos=>aT (AP op bo) fun h=>aT (r ns up a ca) fun q=>aT (r ns up b cb) fun d=>yes (.bin h q d)
 | cmp co ca cb=>exact oG e (fun zz=>none) fun a os cs pos=>rG os (fun zz=>none) fun op=>rG cs (fun zz=>none) fun b=>aT (AJ op co) fun h=>aT (gd (behindInMarks op b=false)) fun m=>aT (r ns up a ca) fun q=>aT (r ns up b cb) fun d=>yes (.cmp h m q d)
 | cmp2 co1 co2 ca cb cc=>exact oG e (fun zz=>none) fun a os cs pos=>w8 os (fun zz=>none) fun op1 op2=>w8 cs (fun zz=>none) fun b c=>aT (AJ op1 co1) fun h=>aT (AJ op2 co2) fun h'=>aT (gd (behindInMarks op2 c=false)) fun m=>aT (r ns up a ca) fun q=>aT (r ns up b cb) fun d=>aT (r ns up c cc) fun f=>yes (.cmp2 h h' m q d f)
 | conj ca cb=>exact wa e (fun zz=>none) fun op vs pos=>w8 vs (fun zz=>none) fun a b=>aT (gd (op=.And)) fun g=>aT (r ns up a ca) fun q=>aT (r ns up b cb) fun d=>yes (by subst g; exact .conj q d)
 | ife ct ca cb=>exact xD e (fun zz=>none) fun t a b pos=>aT (r ns up t ct) fun h=>aT (r ns up a ca) fun q=>aT (r ns up b cb) fun d=>yes (.ife h q d)
 | call f cs=>exact dS e (fun zz=>none) fun fn as ks pos=>dI fn (fun zz=>none) fun x p=>mG ks (fun zz=>none) (aT (gd (ns.lookup x=some .globalImplicit)) fun h=>aT (gd (gname f=some x)) fun g=>aT (kj (r ns up) as cs) fun q=>aT (gd (as.length≤20)) fun d=>yes (.call h g q d))
 | new cs=>exact dS e (fun zz=>none) fun fn as ks pos=>dI fn (fun zz=>none) fun x p=>mG ks (fun zz=>none) (aT (gd (ns.lookup ("Diagrams":Str)=some .globalImplicit)) fun h=>aT (gd (x=("Diagrams":Str))) fun g=>aT (kj (r ns up) as cs) fun q=>aT (gd (as.length≤20)) fun d=>yes (by subst g; exact .new h q d))
 | meth f c cs=>exact dS e (fun zz=>none) fun fn as ks pos=>dk fn (fun zz=>none) fun o m ap=>mG ks (fun zz=>none) (aT (gd (cH o=false)) fun h=>aT (gd (mname f=some m)) fun g=>aT (gd (f≠1)) fun g'=>aT (r ns up o c) fun d=>aT (kj (r ns up) as cs) fun q=>aT (gd (as.length≤20)) fun l=>aT (gd ((ap.endLine == pos.line)=true)) fun e=>yes (.meth h g g' d q l e))
 | append c cx=>exact dS e (fun zz=>none) fun fn as ks pos=>dk fn (fun zz=>none) fun o m ap=>rG as (fun zz=>none) fun x=>mG ks (fun zz=>none) (aT (gd (cH o=false)) fun h=>aT (gd (m=("append":Str))) fun g=>aT (gd ((ap.endLine == pos.line)=true)) fun l=>aT (r ns up o c) fun d=>aT (r ns up x cx) fun q=>yes (by subst g; exact .append h l d q))
 | pop c=>exact dS e (fun zz=>none) fun fn as ks pos=>dk fn (fun zz=>none) fun o m ap=>mG as (fun zz=>none) <| mG ks (fun zz=>none) (aT (gd (cH o=false)) fun h=>aT (gd (m=("pop":Str))) fun g=>aT (gd ((ap.endLine == pos.line)=true)) fun l=>aT (r ns up o c) fun d=> yes (by subst g; exact .pop h l d))
 | reverse c=>exact dS e (fun zz=>none) fun fn as ks pos=>dk fn (fun zz=>none) fun o m ap=>mG as (fun zz=>none) <| mG ks (fun zz=>none) (aT (gd (cH o=false)) fun h=>aT (gd (m=("reverse":Str))) fun g=>aT (gd ((ap.endLine == pos.line)=true)) fun l=>aT (r ns up o c) fun d=> yes (by subst g; exact .reverse h l d))
 | extend c cx=>exact dS e (fun zz=>none) fun fn as ks pos=>dk fn (fun zz=>none) fun o m ap=>rG as (fun zz=>none) fun x=>mG ks (fun zz=>none) (aT (gd (cH o=false)) fun h=>aT (gd (m=("extend":Str))) fun g=>aT (gd ((ap.endLine == pos.line)=true)) fun l=>aT (r ns up o c) fun d=>aT (r ns up x cx) fun q=>yes (by subst g; exact .extend h l d q))
 | get c ck cx=>exact dS e (fun zz=>none) fun fn as ks pos=>dk fn (fun zz=>none) fun o m ap=>w8 as (fun zz=>none) fun k x=>mG ks (fun zz=>none) (aT (gd (cH o=false)) fun h=>aT (gd (m=("get":Str))) fun g=>aT (gd ((ap.endLine == pos.line)=true)) fun l=>aT (r ns up o c) fun d=>aT (r ns up k ck) fun s=>aT (r ns up x cx) fun q=>yes (by subst g; exact .get h l d s q))
 | len c=>exact dS e (fun zz=>none) fun f as ks pos=>dI f (fun zz=>none) fun m p=>rG as (fun zz=>none) fun x=>mG ks (fun zz=>none) (aT (gd (m=("len":Str))) fun g=>aT (gd (ns.lookup ("len":Str)=some .globalImplicit)) fun h=>aT (r ns up x c) fun q=>yes (by subst g; exact .len h q))
 | min1 c=>exact dS e (fun zz=>none) fun f as ks pos=>dI f (fun zz=>none) fun m p=>rG as (fun zz=>none) fun x=>mG ks (fun zz=>none) (aT (gd (m=("min":Str))) fun g=>aT (gd (ns.lookup ("min":Str)=some .globalImplicit)) fun h=>aT (r ns up x c) fun q=>yes (by subst g; exact .min1 h q))
 | tuple c=>exact dS e (fun zz=>none) fun f as ks pos=>dI f (fun zz=>none) fun m p=>rG as (fun zz=>none) fun x=>mG ks (fun zz=>none) (aT (gd (m=("tuple":Str))) fun g=>aT (gd (ns.lookup ("tuple":Str)=some .globalImplicit)) fun h=>aT (r ns up x c) fun q=>yes (by subst g; exact .tuple h q))
 | sorted c=>exact dS e (fun zz=>none) fun f as ks pos=>dI f (fun zz=>none) fun m p=>rG as (fun zz=>none) fun x=>mG ks (fun zz=>none) (aT (gd (m=("sorted":Str))) fun g=>aT (gd (ns.lookup ("sorted":Str)=some .globalImplicit)) fun h=>aT (r ns up x c) fun q=>yes (by subst g; exact .sorted h q))
 | min2 ca cb=>exact dS e (fun zz=>none) fun f as ks pos=>dI f (fun zz=>none) fun m p=>w8 as (fun zz=>none) fun x y=>mG ks (fun zz=>none) (aT (gd (m=("min":Str))) fun g=>aT (gd (ns.lookup ("min":Str)=some .globalImplicit)) fun h=>aT (r ns up x ca) fun q=>aT (r ns up y cb) fun d=>yes (by subst g; exact .min2 h q d))
 | max2 ca cb=>exact dS e (fun zz=>none) fun f as ks pos=>dI f (fun zz=>none) fun m p=>w8 as (fun zz=>none) fun x y=>mG ks (fun zz=>none) (aT (gd (m=("max":Str))) fun g=>aT (gd (ns.lookup ("max":Str)=some .globalImplicit)) fun h=>aT (r ns up x ca) fun q=>aT (r ns up y cb) fun d=>yes (by subst g; exact .max2 h q d))
 | sub ca ci=>exact fv e (fun zz=>none) fun a i pos=>aT (gd (eQ i=false)) fun h=>aT (r ns up a ca) fun q=>aT (r ns up i ci) fun d=>yes (.sub h q d)
 | slice ca cl ch=>exact fv e (fun zz=>none) fun a i pos=>tu i (fun zz=>none) fun lo hi st p=>BS lo (fun zz=>none) fun lo=>BS hi (fun zz=>none) fun hi=>En st (fun zz=>none) (aT (gd (jN a=true)) fun h=>aT (r ns up a ca) fun q=>aT (r ns up lo cl) fun d=>aT (r ns up hi ch) fun f=>yes (.slice h q d f))
 | rev ca=>exact fv e (fun zz=>none) fun a i pos=>tu i (fun zz=>none) fun lo hi st p=>En lo (fun zz=>none) <| En hi (fun zz=>none) <| BS st (fun zz=>none) fun st=>kX st (fun zz=>none) fun op u p2=>g6 u (fun zz=>none) fun v k p1=>yM v (fun zz=>none) fun i=>aT (gd (op=.USub)) fun g=>aT (gd (i=1)) fun d=>aT (gd (jN a=true)) fun h=>aT (r ns up a ca) fun q=>yes (by subst g; subst d; exact .rev h q)
 | tup cs=>exact mF e (fun zz=>none) fun es k pos=>aT (kj (r ns up) es cs) fun h=>aT (gd (es.length≤100)) fun l=>yes (.tup h l)
 | list cs=>exact zF e (fun zz=>none) fun es pos=>aT (kj (r ns up) es cs) fun h=>aT (gd (es.length≤100)) fun l=>yes (.list h l)
 | dict0=>exact v9 e (fun zz=>none) fun ks vs pos=>mG ks (fun zz=>none) <| mG vs (fun zz=>none) <| yes .dict0
 | dict1 ck cv=>exact v9 e (fun zz=>none) fun ks vs pos=>rG ks (fun zz=>none) fun k=>rG vs (fun zz=>none) fun v=>BS k (fun zz=>none) fun k=>aT (r ns up k ck) fun h=>aT (r ns up v cv) fun q=>yes (.dict1 h q)
 | comp m celt gens=>exact r8 e (fun zz=>none) fun elt gs sc pos=>Do gs (fun zz=>none) fun g more=>Do gens (fun zz=>none) fun c cmore=>by obtain ⟨t,it,ifs,as⟩:=g; obtain ⟨ct,ci,cifs⟩:=c; exact aT (gd (as=0)) fun g=>aT (Ev ns sc) fun h=>aT (zQ r ns up it ci) fun h1=>aT (BZ sc.names 9 t ct) fun h2=>aT (gd (ci.1=2→dC t=true)) fun h3=>aT (kj (r sc.names ns) ifs cifs) fun h4=>aT (kj (Ex r sc.names ns) more cmore) fun h5=>aT (r sc.names ns elt celt) fun h6=>aT (gd (sc.names.length=m)) fun h7=>yes (by subst g; subst h7; exact .comp h h1 h2 h3 h4 h5 h6)
end
noncomputable def FN:(n:Nat)→(ns up:NL)→(e:Expr)→(c:E)→Op (CEn n ns up e c)
 | 0,_,_,_,_=>none
 | n + 1,ns,up,e,c=>Ey (FN n) ns up e c
noncomputable def iH (ns up:NL) (e:Expr) (c:E):Op (CE ns up e c):=aT (FN 50 ns up e c) fun h=>yes h.ce
noncomputable def uR (ns:NL):Env:={ scope:={ kind:=.function,names:=ns,isGenerator:=false,isCoroutine:=false },locals:=0,globals:=0,cells:=[],builtins:=0 }
theorem vG {env:Env} {ns:NL} (h1:env.scope.kind=.function) (h2:env.scope.names=ns) (e t:Expr) (l:Nat):swapsWith e (some t) l env=swapsWith e (some t) l (uR ns):=by
 cases env with
 | mk scope=>
  induction scope
  cases h1
  induction h2
  rfl
theorem vK {env:Env} {ns:NL} (h1:env.scope.kind=.function) (h2:env.scope.names=ns) (t:List Expr) (e:Expr):swappedStores t e env=swappedStores t e (uR ns):=by
 cases env with
 | mk scope=>
  induction scope
  cases h1
  induction h2
  rfl
noncomputable def Dt {α:Type} [DecidableEq α] (x:Sem α) (b:α):Op (x=pure b):=by
 induction x; (case pure a=>exact if h:a=b then yes (by rw [h]; rfl) else none); all_goals exact none
noncomputable def Dq (ns:NL) (i:Nat) (x:Str):Op (ns[i]?=some (x,.local)):=gd _
section
variable {R:Stmt→S→Prop} (r:∀ s c,Op (R s c)) (ns:NL)
noncomputable def Gu (t e:Expr) (pos:Pos) (ct:T) (ce:E):Op (CS1 R ns (.Assign [t] e pos) (.assign ct ce)):=
 aT (BZ ns 9 t ct) fun h1=>aT (iH ns [] e ce) fun h2=>aT (Dt (swapsWith e (some t) pos.line (uR ns)) false) fun h3=>aT (Dt (swappedStores [t] e (uR ns)) none) fun h4=>
  yes (.assign h1 h2 (fun env a b=>(vG a b e t pos.line).trans h3) (fun env a b=>(vK a b [t] e).trans h4))
@[elab_as_elim] noncomputable def z6 {P:T→Type} (t:T) (d:∀ x,P x) (k:∀ i,P (.loc i)):P t:=by cases t; (case loc=>exact k _); all_goals exact d _
@[elab_as_elim] noncomputable def Ef {P:T→Type} (t:T) (d:∀ x,P x) (k:∀ ts,P (.tup ts)):P t:=by cases t; (case tup=>exact k _); all_goals exact d _
@[elab_as_elim] noncomputable def Eg {P:E→Type} (t:E) (d:∀ x,P x) (k:∀ ts,P (.tup ts)):P t:=by cases t; (case tup=>exact k _); all_goals exact d _
noncomputable def EA (t e:Expr) (pos:Pos) (ct:T) (ce:E):Op (CS1 R ns (.Assign [t] e pos) (.assign ct ce)):=
 dI t (fun zz=>none) fun x p=>z6 ct (fun zz=>none) fun i=>aT (Dq ns i x) fun h1=>aT (gd (jO e=true)) fun h2=>aT (iH ns [] e ce) fun h3=>aT (Dt (swapsWith e (some (.Name x p)) pos.line (uR ns)) true) fun h4=>
  yes (.assignC h1 h2 h3 (fun env a b=>(vG a b e _ pos.line).trans h4))
noncomputable def Ez (t e:Expr) (pos:Pos) (ct:T) (ce:E):Op (CS1 R ns (.Assign [t] e pos) (.assign ct ce)):=
 mF t (fun zz=>none) fun es k p3=>w8 es (fun zz=>none) fun u v=>dI u (fun zz=>none) fun x p1=>dI v (fun zz=>none) fun y p2=>Ef ct (fun zz=>none) fun ts=>w8 ts (fun zz=>none) fun c d=>z6 c (fun zz=>none) fun i=>z6 d (fun zz=>none) fun j=>
  mF e (fun zz=>none) fun es k' pos'=>w8 es (fun zz=>none) fun a b=>Eg ce (fun zz=>none) fun cs=>w8 cs (fun zz=>none) fun ca cb=>aT (Dq ns i x) fun h1=>aT (Dq ns j y) fun h2=>aT (gd (i≠j)) fun h3=>aT (iH ns [] (.Tuple [a,b] k' pos') (.tup [ca,cb])) fun h4=>
   aT (Dt (swappedStores [.Tuple [.Name x p1,.Name y p2] k p3] (.Tuple [a,b] k' pos') (uR ns)) (some [x,y])) fun h6=>yes (.assign2 h1 h2 h3 h4 (fun env a' b'=>(vK a' b' _ _).trans h6))
noncomputable def Ew (s:Stmt) (c:S):Op (CS1 R ns s c):=by
 cases c with
 | assign ct ce=>exact mW s (fun zz=>none) fun ts e pos=>rG ts (fun zz=>none) fun t=>FE (Gu ns t e pos ct ce) (FE (EA ns t e pos ct ce) (Ez ns t e pos ct ce))
 | setSub ca ci ce=>exact mW s (fun zz=>none) fun ts e pos=>rG ts (fun zz=>none) fun t=>fv t (fun zz=>none) fun a i p=>aT (gd (eQ i=false)) fun h=>aT (iH ns [] a ca) fun h1=>aT (iH ns [] i ci) fun h2=>aT (iH ns [] e ce) fun h3=>yes (.setSub h h1 h2 h3)
 | setAttr co k ce=>exact mW s (fun zz=>none) fun ts e pos=>rG ts (fun zz=>none) fun t=>dk t (fun zz=>none) fun o a p=>aT (gd (cr[k]?=some a)) fun h=>aT (iH ns [] o co) fun h1=>aT (iH ns [] e ce) fun h2=>yes (.setAttr h h1 h2)
 | augLoc i bo ce=>exact lF s (fun zz=>none) fun t op e pos=>dI t (fun zz=>none) fun x p=>aT (Dq ns i x) fun h=>aT (AP op bo) fun h1=>aT (C5 bo) fun h2=>aT (iH ns [] e ce) fun h3=>yes (.augLoc h h1 h2 h3)
 | augSub ca ci bo ce=>exact lF s (fun zz=>none) fun t op e pos=>fv t (fun zz=>none) fun a i p=>aT (gd (eQ i=false)) fun h=>aT (AP op bo) fun h1=>aT (C5 bo) fun h2=>aT (iH ns [] a ca) fun h3=>aT (iH ns [] i ci) fun h4=>aT (iH ns [] e ce) fun h5=>yes (.augSub h h1 h2 h3 h4 h5)
 | expr c=>exact zv s (fun zz=>none) fun e pos=>aT (gd (jO e=false)) fun h=>aT (iH ns [] e c) fun h1=>yes (.expr h h1)
 | ite ct ca cb=>exact Ei s (fun zz=>none) fun t a b pos=>aT (iH ns [] t ct) fun h=>aT (kj r a ca) fun h1=>aT (kj r b cb) fun h2=>yes (.ite h h1 h2)
 | «while» ct cb=>exact xk s (fun zz=>none) fun t b e pos=>mG e (fun zz=>none) (aT (iH ns [] t ct) fun h=>aT (kj r b cb) fun h1=>yes (.while h h1))
 | «for» ct ci cb=>exact BI s (fun zz=>none) fun t it b e pos=>mG e (fun zz=>none) (aT (BZ ns 9 t ct) fun h=>aT (zQ iH ns [] it ci) fun h1=>aT (gd (ci.1=2→dC t=true)) fun h2=>aT (kj r b cb) fun h3=>yes (.for h h1 h2 h3))
 | ret c=>exact vJ s (fun zz=>none) fun e pos=>BS e (fun zz=>none) fun e=>aT (iH ns [] e c) fun h=>yes (.ret h)
 | raise=>exact xm s (fun zz=>none) fun e c pos=>yes .raise
end
noncomputable def FM (ns:NL):(n:Nat)→(s:Stmt)→(c:S)→Op (CSn n ns s c)
 | 0,_,_=>none
 | n + 1,s,c=>Ew (FM ns n) ns s c
noncomputable def zP (ns:NL) (n:Nat) (ss:List Stmt) (cs:List S):Op (L2 (CSn n ns) ss cs):=kj (FM ns n) ss cs
theorem AI {ns:NL} {ss:List Stmt} {cs:List S} (h:(zP ns 50 ss cs).isSome=true):CSs ns ss cs:=by
 induction e:zP ns 50 ss cs using Option.casesOn with
 | some p=>exact CX p.down
 | none=>rw [e] at h; exact fT h
end Dg
end
section
set_option maxRecDepth 1000000
open PySem PySem.W PyProof.Rows PySem.Calls PyProof
namespace Dg
noncomputable abbrev so (s:String):Str:=Str.ofString s
noncomputable abbrev tops:List Stmt:=PySem.Challenge.rw_pq1074_01.row.prog.main.body
noncomputable def gb (i:Nat):Stmt:=match tops[i]? with
 | some s=>s
 | none=>.Pass ⟨0,0,0,0⟩
noncomputable def u0 (i:Nat):Stmt:=match gb 7 with
 | .ClassDef _ _ _ body ..=>(match body[i]? with
  | some s=>s
  | none=>.Pass ⟨0,0,0,0⟩)
 | _=>.Pass ⟨0,0,0,0⟩
noncomputable def dE (P:Params) (n:String) (t:Nat) (v:Value):DictEntry:={ hash:=PyData.keyHash P (so n),key:=.str (so n) t,val:=v }
noncomputable def cO (n q:String) (t line np:Nat) (v8 v11 v13 v14 v15:Value) (t2:Nat):Obj:=
 ⟨.type "code",none,.fields #[.str (so n) t,.str (so q) (t + 1),.str (so "/claim/cut.py") (t + 2),.int line 0,.int np 0,.int 0 0,.int 0 0,.int 3 0,v8,.bool true,.int 181 0,v11,.none,v13,v14,v15,.int t2 0,.int line 0,.str (so "/claim/cut.py") (t2 + 1)],#[]⟩
noncomputable def Gp:Stmt→Str
 | .FunctionDef n ..=>n
 | _=>so ""
noncomputable def Go:Stmt→Arguments
 | .FunctionDef _ ps ..=>ps
 | _=>⟨[],[],none,[],[],none,[]⟩
noncomputable def FC:Stmt→List Stmt
 | .FunctionDef _ _ body ..=>body
 | _=>[]
noncomputable def w7:Stmt→Scope
 | .FunctionDef _ _ _ _ _ _ sc ..=>sc
 | _=>⟨.function,[],false,false,[]⟩
noncomputable def sF (s:Stmt) (q m:String) (t:Nat) (c:Addr):FuncData:=fnX (Gp s) (so q) (Go s) (FC s) (w7 s) [] .none .none .none (.str (so m) t) none (.ref c) .none
noncomputable def fO (s:Stmt) (q m:String) (t:Nat) (c:Addr):Obj:=⟨.type "function",none,.func (sF s q m t c),#[]⟩
noncomputable def fr (P:Params):Frag:=[
 (3,⟨.type "dict",none,.dict #[dE P "__name__" 165 (.str (so "law_pq1074_01") 416),dE P "__doc__" 166 (.none),dE P "__package__" 167 (.none),dE P "__loader__" 168 (.builtin "__main__.__loader__#opaque"),dE P "__spec__" 169 (.none),dE P "__annotations__" 170 (.ref 6),dE P "__builtins__" 171 (.ref 4),dE P "__file__" 173 (.str (so "/claim/cut.py") 172),dE P "__cached__" 174 (.none),dE P "WallFault" 218 (.ref 31),dE P "Misused" 234 (.ref 44),dE P "LeftOut" 250 (.ref 56),dE P "tidy" 262 (.ref 65),dE P "Diagrams" 343 (.ref 117),dE P "parts_at" 354 (.ref 128),dE P "split" 360 (.ref 133),dE P "test" 376 (.ref 140),dE P "choose" 382 (.ref 145),dE P "size_of_diagram" 396 (.ref 152),dE P "ways" 415 (.ref 159),dE P "_law_drawn" 423 (.ref 164),dE P "_law_spans" 434 (.ref 171),dE P "_law_verdict" 441 (.ref 178),dE P "_law_sequence" 448 (.ref 185),dE P "_law_rules" 454 (.ref 190),dE P "_law_holds" 464 (.ref 197),dE P "_law_said" 470 (.ref 202),dE P "_law_cells" 476 (.ref 207),dE P "_law_table" 491 (.ref 214),dE P "_law_way" 497 (.ref 219),dE P "_law_is_shown" 511 (.ref 226),dE P "_law_built" 529 (.ref 233),dE P "_law_fixed" 535 (.ref 238),dE P "law" 541 (.ref 243)] 34,#[]⟩),
 (116,⟨.type "dict",none,.dict #[dE P "__module__" 272 (.str (so "siftwall.diagram") 263),dE P "__firstlineno__" 276 (.int 23 275),dE P "__init__" 284 (.ref 79),dE P "kept" 292 (.ref 86),dE P "leaf" 300 (.ref 93),dE P "make" 314 (.ref 100),dE P "node" 322 (.ref 107),dE P "level" 331 (.ref 114),dE P "__static_attributes__" 336 (.ref 115),dE P "__dict__" 338 (.ref 118),dE P "__weakref__" 340 (.ref 119),dE P "__doc__" 341 (.none)] 4,#[]⟩),
 (64,cO "tidy" "tidy" 253 13 1 (.ref 59) (.ref 60) (.ref 61) (.ref 62) (.ref 63) 260),
 (65,fO (gb 5) "tidy" "siftwall.stores" 251 64),
 (78,cO "__init__" "Diagrams.__init__" 277 25 2 (.ref 73) (.ref 74) (.ref 75) (.ref 76) (.ref 77) 282),
 (79,fO (u0 0) "Diagrams.__init__" "siftwall.diagram" 263 78),
 (85,cO "kept" "Diagrams.kept" 285 31 2 (.ref 80) (.ref 81) (.ref 82) (.ref 83) (.ref 84) 290),
 (86,fO (u0 1) "Diagrams.kept" "siftwall.diagram" 263 85),
 (92,cO "leaf" "Diagrams.leaf" 293 37 2 (.ref 87) (.ref 88) (.ref 89) (.ref 90) (.ref 91) 298),
 (93,fO (u0 2) "Diagrams.leaf" "siftwall.diagram" 263 92),
 (99,cO "make" "Diagrams.make" 301 40 3 (.ref 94) (.ref 95) (.ref 96) (.ref 97) (.ref 98) 312),
 (100,fO (u0 3) "Diagrams.make" "siftwall.diagram" 263 99),
 (106,cO "node" "Diagrams.node" 315 56 2 (.ref 101) (.ref 102) (.ref 103) (.ref 104) (.ref 105) 320),
 (107,fO (u0 4) "Diagrams.node" "siftwall.diagram" 263 106),
 (113,cO "level" "Diagrams.level" 323 59 2 (.ref 108) (.ref 109) (.ref 110) (.ref 111) (.ref 112) 329),
 (114,fO (u0 5) "Diagrams.level" "siftwall.diagram" 263 113),
 (127,cO "parts_at" "parts_at" 344 62 3 (.ref 122) (.ref 123) (.ref 124) (.ref 125) (.ref 126) 352),
 (128,fO (gb 8) "parts_at" "siftwall.diagram" 263 127),
 (132,cO "split" "split" 355 67 2 (.ref 129) (.ref 130) (.none) (.none) (.ref 131) 358),
 (133,fO (gb 9) "split" "siftwall.diagram" 263 132),
 (139,cO "test" "test" 361 81 5 (.ref 134) (.ref 135) (.ref 136) (.ref 137) (.ref 138) 374),
 (140,fO (gb 10) "test" "siftwall.diagram" 263 139),
 (144,cO "choose" "choose" 377 96 4 (.ref 141) (.ref 142) (.none) (.none) (.ref 143) 380),
 (145,fO (gb 11) "choose" "siftwall.diagram" 263 144),
 (151,cO "size_of_diagram" "size_of_diagram" 383 108 2 (.ref 146) (.ref 147) (.ref 148) (.ref 149) (.ref 150) 394),
 (152,fO (gb 12) "size_of_diagram" "siftwall.diagram" 263 151),
 (158,cO "ways" "ways" 397 119 3 (.ref 153) (.ref 154) (.ref 155) (.ref 156) (.ref 157) 413),
 (159,fO (gb 13) "ways" "siftwall.diagram" 263 158),
 (163,cO "_law_drawn" "_law_drawn" 418 139 1 (.ref 160) (.ref 161) (.none) (.none) (.ref 162) 421),
 (164,fO (gb 15) "_law_drawn" "law_pq1074_01" 416 163),
 (170,cO "_law_spans" "_law_spans" 424 142 2 (.ref 165) (.ref 166) (.ref 167) (.ref 168) (.ref 169) 432),
 (171,fO (gb 16) "_law_spans" "law_pq1074_01" 416 170),
 (177,cO "_law_verdict" "_law_verdict" 435 148 1 (.ref 172) (.ref 173) (.ref 174) (.ref 175) (.ref 176) 439),
 (178,fO (gb 17) "_law_verdict" "law_pq1074_01" 416 177),
 (184,cO "_law_sequence" "_law_sequence" 442 150 1 (.ref 179) (.ref 180) (.ref 181) (.ref 182) (.ref 183) 446),
 (185,fO (gb 18) "_law_sequence" "law_pq1074_01" 416 184),
 (189,cO "_law_rules" "_law_rules" 449 152 2 (.ref 186) (.ref 187) (.none) (.none) (.ref 188) 452),
 (190,fO (gb 19) "_law_rules" "law_pq1074_01" 416 189),
 (196,cO "_law_holds" "_law_holds" 455 158 2 (.ref 191) (.ref 192) (.ref 193) (.ref 194) (.ref 195) 462),
 (197,fO (gb 20) "_law_holds" "law_pq1074_01" 416 196),
 (201,cO "_law_said" "_law_said" 465 163 3 (.ref 198) (.ref 199) (.none) (.none) (.ref 200) 468),
 (202,fO (gb 21) "_law_said" "law_pq1074_01" 416 201),
 (206,cO "_law_cells" "_law_cells" 471 168 1 (.ref 203) (.ref 204) (.none) (.none) (.ref 205) 474),
 (207,fO (gb 22) "_law_cells" "law_pq1074_01" 416 206),
 (213,cO "_law_table" "_law_table" 477 170 5 (.ref 208) (.ref 209) (.ref 210) (.ref 211) (.ref 212) 489),
 (214,fO (gb 23) "_law_table" "law_pq1074_01" 416 213),
 (218,cO "_law_way" "_law_way" 492 178 4 (.ref 215) (.ref 216) (.none) (.none) (.ref 217) 495),
 (219,fO (gb 24) "_law_way" "law_pq1074_01" 416 218),
 (225,cO "_law_is_shown" "_law_is_shown" 498 197 4 (.ref 220) (.ref 221) (.ref 222) (.ref 223) (.ref 224) 509),
 (226,fO (gb 25) "_law_is_shown" "law_pq1074_01" 416 225),
 (232,cO "_law_built" "_law_built" 512 205 4 (.ref 227) (.ref 228) (.ref 229) (.ref 230) (.ref 231) 527),
 (233,fO (gb 26) "_law_built" "law_pq1074_01" 416 232),
 (237,cO "_law_fixed" "_law_fixed" 530 215 3 (.ref 234) (.ref 235) (.none) (.none) (.ref 236) 533),
 (238,fO (gb 27) "_law_fixed" "law_pq1074_01" 416 237),
 (242,cO "law" "law" 536 221 1 (.ref 239) (.ref 240) (.none) (.none) (.ref 241) 539),
 (243,fO (gb 28) "law" "law_pq1074_01" 416 242),
 (117,⟨.type "type",none,.cls { name:=so "Diagrams",bases:=[.type "object"],mro:=[.ref 117,.type "object"],ns:=116,qualname:=so "Diagrams" },#[none,none,some (.str (so "Diagrams") 265),some (.str (so "Diagrams") 273),some (.builtin "object.__new__"),some (.bool true)]⟩)]
noncomputable def Cn:Stmt→Bool
 | .Assign ..=>false
 | _=>true
noncomputable def view:Program:={ PySem.Challenge.rw_pq1074_01.row.prog with main:={ PySem.Challenge.rw_pq1074_01.row.prog.main with body:=tops.filter Cn } }
noncomputable abbrev hk:Hook:=kHook fr [3,116,64,65,78,79,85,86,92,93,99,100,106,107,113,114,127,128,132,133,139,140,144,145,151,152,158,159,163,164,170,171,177,178,184,185,189,190,196,197,201,202,206,207,213,214,218,219,225,226,232,233,237,238,242,243,117] (fun P=>by kernel_rfl)
theorem Ek:PySem.Challenge.rw_pq1074_01.wellSaid=true:=(congrFun Fast.te9446332074065402090 _).trans (by kernel_rfl)
noncomputable def tFrom (R:Program→World→Nat→Option Value→Nat→Shared→Thread→Option Shared) (p:Program) (w:World) (N:Nat) (s:Shared):Option Shared:=
 bif s.heap.isNs mainGlobals && s.gens.size == 0 then
  (R p w s.heap.objs.size (s.heap.nsMap mainGlobals "__annotations__") N s (topStub p)).bind fun z=>
   bif staticsOk (importedModules p.main.body) s.heap z.heap && namesBound p z.heap && gensDone z && laidKept s.heap z.heap then some z else none
 else none
theorem vF {R} (h:topRun treeTable=R) {p:Program} {w:World} {N:Nat} {s:Shared}:topFrom treeTable p w N s=tFrom R p w N s:=h▸rfl
theorem Ej {s:Shared} {x} (e:(s.heap,s.gens,s.drawn,s.toks)=x):s=⟨x.1,x.2.1,x.2.2.1,x.2.2.2,s.os⟩:=congrArg (fun x=>Shared.mk x.1 x.2.1 x.2.2.1 x.2.2.2 s.os) e
theorem z7 {R} (hR:topRun treeTable=R) {p:Program} {α:Type} {F:Shared→α} {a:World→α} {N:Nat} (e:opening p=plainProg p.main.scope.names) (hN:Nat.ble 600 N=true) (f:∀ s,fenceModules? p s=some s)
  (l:∀ w os,(tFrom R p w N ⟨boot_heap w.params,#[],boot_drawn,boot_toks,os⟩).map F=some (a w)) (w:World):(openEnds treeTable p w N).map F=some (a w):=
 (Option.map_eq_some_iff.mp (boot_open e hN f w)).elim fun s h=>
  (congrArg (fun x=>(Option.bind x (topFrom treeTable p w N)).map F) h.1).trans <|
  (congrArg (Option.map F) (vF hR)).trans <|
  (congrArg (fun x=>(tFrom R p w N x).map F) (Ej h.2)).trans (l w s.os)
theorem left:LeftO PySem.Challenge.rw_pq1074_01.row.prog view [] (fun s=>xlAt view [] s && recOk (RowW.records (OpenRow.toRowW PySem.Challenge.rw_pq1074_01.row)) s) (Hook.obs hk) (Hook.val hk) 3592:=
 z7 ((congrFun Fast.te14082659384304107361 _).trans (congrArg _ Fast.te14364793385576792824)) (by kernel_rfl) rfl (fun s=>by kernel_rfl) fun w os=>by kernel_rfl
noncomputable def sz:DefRec×List (Str×Expr):=match defOf view PySem.Challenge.rw_pq1074_01.row.name with
 | some d=>d
 | none=>(⟨so "",⟨[],[],none,[],[],none,[]⟩,[],⟨.function,[],false,false,[]⟩,⟨0,0,0,0⟩⟩,[])
theorem yh:defOf view PySem.Challenge.rw_pq1074_01.row.name=some (sz.1,[]):=by kernel_rfl
theorem wz:PySem.Challenge.rw_pq1074_01.row.prog.theDef PySem.Challenge.rw_pq1074_01.row.name=some (sz.1.params,sz.1.body,sz.1.scope):=by kernel_rfl
theorem yg:kwWritten? sz.1.params.kwonlyargs sz.1.params.kw_defaults=some []:=by kernel_rfl
theorem xC:(chainsOk view && opensWell PySem.Challenge.rw_pq1074_01.row.prog && (frees PySem.Challenge.rw_pq1074_01.row.toRowW && PySem.Challenge.rw_pq1074_01.row.within.isEmpty))=true:=by kernel_rfl
theorem xz:PySem.Challenge.rw_pq1074_01.row.toRowW.promised:=⟨[WData.list []],by decide +kernel,by decide +kernel⟩
theorem bare:PySem.Challenge.rw_pq1074_01.row.prog.bare:=⟨rfl,rfl,rfl,rfl,rfl,by decide +kernel⟩
theorem GM (h:WalkO view [] (XL view []) hk.says PySem.Challenge.rw_pq1074_01.row.toRowW sz.1 [] fun f vs=>PySem.call f vs):PySem.Challenge.rw_pq1074_01.Holds:=
 holds_law Ek fun sd=>holds_open (q:=view) (loose:=[]) (Xt:=fun s=>xlAt view [] s && recOk (RowW.records (OpenRow.toRowW PySem.Challenge.rw_pq1074_01.row)) s) (XP:=XL view []) (Yf:=Hook.obs hk) (Ya:=Hook.val hk) (YP:=Hook.says hk) (N:=3592) left (Hook.of hk) (Hook.keeps hk)
  (fun s e=>xl_of s (Bool.and_eq_true_iff.mp e).1) XL.keeps yh wz yg (fun s e=>recFacts_of (Bool.and_eq_true_iff.mp e).2) rfl sd xC bare xz h
end Dg
end
section
open PySem PySem.W PyProof.Rows PySem.Calls PyProof
namespace Dg
noncomputable def yU (s:Stmt) (fd:FD):Bool:=
 decide ((w7 s).kind=.function) && !(w7 s).isCoroutine && !(w7 s).isGenerator && decide (((w7 s).names.map (·.1)).Nodup) && decide ((w7 s).names.length=fd.nl) && decide (fd.np≤fd.nl) &&
  ((w7 s).names.take fd.np).all (fun x=>decide (x.2=.local∨x.2=.cell)) && (w7 s).names.all (fun x=>decide (x.2≠.free)) && (zP (w7 s).names 50 (FC s) fd.body).isSome
theorem bU {K:Frag} {h:Heap} (X:K.In h) {a c:Addr} {s:Stmt} {q m:String} {t:Nat} {fd:FD} (hK:K.lookup a=some (fO s q m t c)) (hC:codeIn K (.ref c) (so q)=true) (hS:yU s fd=true)
  (hB:∀ vs:List Value,vs.length=fd.np→bindArgs (sF s q m t c) ⟨vs,[]⟩=pure ((((w7 s).names.take fd.np).map (·.1)).zip vs)):DefK h a fd:=by
 simp only [yU,Bool.and_eq_true,Bool.not_eq_true',decide_eq_true_eq,List.all_eq_true] at hS
 obtain ⟨⟨⟨⟨⟨⟨⟨⟨h1,h2⟩,h3⟩,h4⟩,h5⟩,h6⟩,h7⟩,h8⟩,h9⟩:=hS
 exact ⟨_,_,_,_,_,_,_,_,_,_,_,_,_,X a _ hK,rfl,codeRec_of X hC,hB,h1,h2,h3,h4,h5,h6,h7,h8,AI h9⟩
theorem EP {P:List Value→Prop} (h:P []):∀ vs:List Value,vs.length=0→P vs:=fun vs e=>by
 induction vs using List.casesOn with
 | nil=>exact h
 | cons _ _=>cases e
theorem kq {P:List Value→Prop} {n:Nat} (h:∀ a,∀ vs:List Value,vs.length=n→P (a :: vs)):∀ vs:List Value,vs.length=n + 1→P vs:=fun vs e=>by
 induction vs using List.casesOn with
 | nil=>cases e
 | cons a vs=>exact h a vs (Nat.succ.inj e)
theorem len1 {P:List Value→Prop} (h:∀ a,P [a]):∀ vs:List Value,vs.length=1→P vs:=kq fun a=>EP (P:=fun vs=>P (a :: vs)) (h a)
theorem nv {P:List Value→Prop} (h:∀ a b,P [a,b]):∀ vs:List Value,vs.length=2→P vs:=kq fun a=>len1 (P:=fun vs=>P (a :: vs)) (h a)
theorem uE {P:List Value→Prop} (h:∀ a b c,P [a,b,c]):∀ vs:List Value,vs.length=3→P vs:=kq fun a=>nv (P:=fun vs=>P (a :: vs)) (h a)
theorem wj {P:List Value→Prop} (h:∀ a b c d,P [a,b,c,d]):∀ vs:List Value,vs.length=4→P vs:=kq fun a=>uE (P:=fun vs=>P (a :: vs)) (h a)
theorem B7 {P:List Value→Prop} (h:∀ a b c d e,P [a,b,c,d,e]):∀ vs:List Value,vs.length=5→P vs:=kq fun a=>wj (P:=fun vs=>P (a :: vs)) (h a)
theorem CV {P:Params} {h:Heap} (X:(fr P).In h):DefK h 65 ⟨1,5,b_tidy⟩:=
 bU X (s:=gb 5) (q:="tidy") (m:="siftwall.stores") (t:=251) (c:=64) (by kernel_rfl) (by kernel_rfl) (by kernel_rfl) (len1 fun zz=>by kernel_rfl)
theorem CU {P:Params} {h:Heap} (X:(fr P).In h):DefK h 79 ⟨2,2,b_init⟩:=
 bU X (s:=u0 0) (q:="Diagrams.__init__") (m:="siftwall.diagram") (t:=263) (c:=78) (by kernel_rfl) (by kernel_rfl) (by kernel_rfl) (nv fun zz zz=>by kernel_rfl)
theorem CR {P:Params} {h:Heap} (X:(fr P).In h):DefK h 86 ⟨2,3,b_kept⟩:=
 bU X (s:=u0 1) (q:="Diagrams.kept") (m:="siftwall.diagram") (t:=263) (c:=85) (by kernel_rfl) (by kernel_rfl) (by kernel_rfl) (nv fun zz zz=>by kernel_rfl)
theorem CQ {P:Params} {h:Heap} (X:(fr P).In h):DefK h 93 ⟨2,2,b_leaf⟩:=
 bU X (s:=u0 2) (q:="Diagrams.leaf") (m:="siftwall.diagram") (t:=263) (c:=92) (by kernel_rfl) (by kernel_rfl) (by kernel_rfl) (nv fun zz zz=>by kernel_rfl)
theorem CP {P:Params} {h:Heap} (X:(fr P).In h):DefK h 100 ⟨3,11,b_make⟩:=
 bU X (s:=u0 3) (q:="Diagrams.make") (m:="siftwall.diagram") (t:=263) (c:=99) (by kernel_rfl) (by kernel_rfl) (by kernel_rfl) (uE fun zz zz zz=>by kernel_rfl)
theorem CN {P:Params} {h:Heap} (X:(fr P).In h):DefK h 107 ⟨2,2,b_node⟩:=
 bU X (s:=u0 4) (q:="Diagrams.node") (m:="siftwall.diagram") (t:=263) (c:=106) (by kernel_rfl) (by kernel_rfl) (by kernel_rfl) (nv fun zz zz=>by kernel_rfl)
theorem CM {P:Params} {h:Heap} (X:(fr P).In h):DefK h 114 ⟨2,4,b_level⟩:=
 bU X (s:=u0 5) (q:="Diagrams.level") (m:="siftwall.diagram") (t:=263) (c:=113) (by kernel_rfl) (by kernel_rfl) (by kernel_rfl) (nv fun zz zz=>by kernel_rfl)
theorem CL {P:Params} {h:Heap} (X:(fr P).In h):DefK h 128 ⟨3,5,b_parts_at⟩:=
 bU X (s:=gb 8) (q:="parts_at") (m:="siftwall.diagram") (t:=263) (c:=127) (by kernel_rfl) (by kernel_rfl) (by kernel_rfl) (uE fun zz zz zz=>by kernel_rfl)
theorem CK {P:Params} {h:Heap} (X:(fr P).In h):DefK h 133 ⟨2,13,b_split⟩:=
 bU X (s:=gb 9) (q:="split") (m:="siftwall.diagram") (t:=263) (c:=132) (by kernel_rfl) (by kernel_rfl) (by kernel_rfl) (nv fun zz zz=>by kernel_rfl)
theorem CJ {P:Params} {h:Heap} (X:(fr P).In h):DefK h 140 ⟨5,13,b_test⟩:=
 bU X (s:=gb 10) (q:="test") (m:="siftwall.diagram") (t:=263) (c:=139) (by kernel_rfl) (by kernel_rfl) (by kernel_rfl) (B7 fun zz zz zz zz zz=>by kernel_rfl)
theorem AH {P:Params} {h:Heap} (X:(fr P).In h):DefK h 145 ⟨4,11,b_choose⟩:=
 bU X (s:=gb 11) (q:="choose") (m:="siftwall.diagram") (t:=263) (c:=144) (by kernel_rfl) (by kernel_rfl) (by kernel_rfl) (wj fun zz zz zz zz=>by kernel_rfl)
theorem AG {P:Params} {h:Heap} (X:(fr P).In h):DefK h 152 ⟨2,9,b_size_of_diagram⟩:=
 bU X (s:=gb 12) (q:="size_of_diagram") (m:="siftwall.diagram") (t:=263) (c:=151) (by kernel_rfl) (by kernel_rfl) (by kernel_rfl) (nv fun zz zz=>by kernel_rfl)
theorem AF {P:Params} {h:Heap} (X:(fr P).In h):DefK h 159 ⟨3,15,b_ways⟩:=
 bU X (s:=gb 13) (q:="ways") (m:="siftwall.diagram") (t:=263) (c:=158) (by kernel_rfl) (by kernel_rfl) (by kernel_rfl) (uE fun zz zz zz=>by kernel_rfl)
theorem AE {P:Params} {h:Heap} (X:(fr P).In h):DefK h 164 ⟨1,4,b_ldrawn⟩:=
 bU X (s:=gb 15) (q:="_law_drawn") (m:="law_pq1074_01") (t:=416) (c:=163) (by kernel_rfl) (by kernel_rfl) (by kernel_rfl) (len1 fun zz=>by kernel_rfl)
theorem AD {P:Params} {h:Heap} (X:(fr P).In h):DefK h 171 ⟨2,7,b_lspans⟩:=
 bU X (s:=gb 16) (q:="_law_spans") (m:="law_pq1074_01") (t:=416) (c:=170) (by kernel_rfl) (by kernel_rfl) (by kernel_rfl) (nv fun zz zz=>by kernel_rfl)
theorem AC {P:Params} {h:Heap} (X:(fr P).In h):DefK h 178 ⟨1,1,b_lverdict⟩:=
 bU X (s:=gb 17) (q:="_law_verdict") (m:="law_pq1074_01") (t:=416) (c:=177) (by kernel_rfl) (by kernel_rfl) (by kernel_rfl) (len1 fun zz=>by kernel_rfl)
theorem AB {P:Params} {h:Heap} (X:(fr P).In h):DefK h 185 ⟨1,1,b_lsequence⟩:=
 bU X (s:=gb 18) (q:="_law_sequence") (m:="law_pq1074_01") (t:=416) (c:=184) (by kernel_rfl) (by kernel_rfl) (by kernel_rfl) (len1 fun zz=>by kernel_rfl)
theorem AA {P:Params} {h:Heap} (X:(fr P).In h):DefK h 190 ⟨2,8,b_lrules⟩:=
 bU X (s:=gb 19) (q:="_law_rules") (m:="law_pq1074_01") (t:=416) (c:=189) (by kernel_rfl) (by kernel_rfl) (by kernel_rfl) (nv fun zz zz=>by kernel_rfl)
theorem Az {P:Params} {h:Heap} (X:(fr P).In h):DefK h 197 ⟨2,4,b_lholds⟩:=
 bU X (s:=gb 20) (q:="_law_holds") (m:="law_pq1074_01") (t:=416) (c:=196) (by kernel_rfl) (by kernel_rfl) (by kernel_rfl) (nv fun zz zz=>by kernel_rfl)
theorem Ay {P:Params} {h:Heap} (X:(fr P).In h):DefK h 202 ⟨3,5,b_lsaid⟩:=
 bU X (s:=gb 21) (q:="_law_said") (m:="law_pq1074_01") (t:=416) (c:=201) (by kernel_rfl) (by kernel_rfl) (by kernel_rfl) (uE fun zz zz zz=>by kernel_rfl)
theorem Ax {P:Params} {h:Heap} (X:(fr P).In h):DefK h 207 ⟨1,2,b_lcells⟩:=
 bU X (s:=gb 22) (q:="_law_cells") (m:="law_pq1074_01") (t:=416) (c:=206) (by kernel_rfl) (by kernel_rfl) (by kernel_rfl) (len1 fun zz=>by kernel_rfl)
theorem Aw {P:Params} {h:Heap} (X:(fr P).In h):DefK h 214 ⟨5,11,b_ltable⟩:=
 bU X (s:=gb 23) (q:="_law_table") (m:="law_pq1074_01") (t:=416) (c:=213) (by kernel_rfl) (by kernel_rfl) (by kernel_rfl) (B7 fun zz zz zz zz zz=>by kernel_rfl)
theorem Av {P:Params} {h:Heap} (X:(fr P).In h):DefK h 219 ⟨4,13,b_lway⟩:=
 bU X (s:=gb 24) (q:="_law_way") (m:="law_pq1074_01") (t:=416) (c:=218) (by kernel_rfl) (by kernel_rfl) (by kernel_rfl) (wj fun zz zz zz zz=>by kernel_rfl)
theorem Au {P:Params} {h:Heap} (X:(fr P).In h):DefK h 226 ⟨4,12,b_lis_shown⟩:=
 bU X (s:=gb 25) (q:="_law_is_shown") (m:="law_pq1074_01") (t:=416) (c:=225) (by kernel_rfl) (by kernel_rfl) (by kernel_rfl) (wj fun zz zz zz zz=>by kernel_rfl)
theorem At {P:Params} {h:Heap} (X:(fr P).In h):DefK h 233 ⟨4,14,b_lbuilt⟩:=
 bU X (s:=gb 26) (q:="_law_built") (m:="law_pq1074_01") (t:=416) (c:=232) (by kernel_rfl) (by kernel_rfl) (by kernel_rfl) (wj fun zz zz zz zz=>by kernel_rfl)
theorem As {P:Params} {h:Heap} (X:(fr P).In h):DefK h 238 ⟨3,6,b_lfixed⟩:=
 bU X (s:=gb 27) (q:="_law_fixed") (m:="law_pq1074_01") (t:=416) (c:=237) (by kernel_rfl) (by kernel_rfl) (by kernel_rfl) (uE fun zz zz zz=>by kernel_rfl)
theorem Ar {P:Params} {h:Heap} (X:(fr P).In h):DefK h 243 ⟨1,29,b_law⟩:=
 bU X (s:=gb 28) (q:="law") (m:="law_pq1074_01") (t:=416) (c:=242) (by kernel_rfl) (by kernel_rfl) (by kernel_rfl) (len1 fun zz=>by kernel_rfl)
noncomputable def yA:Nat→Addr
 | 0=>65 | 1=>79 | 2=>86 | 3=>93 | 4=>100 | 5=>107 | 6=>114 | 7=>128 | 8=>133 | 9=>140 | 10=>145 | 11=>152 | 12=>159
 | 13=>164 | 14=>171 | 15=>178 | 16=>185 | 17=>190 | 18=>197 | 19=>202 | 20=>207 | 21=>214 | 22=>219 | 23=>226 | 24=>233 | 25=>238 | _=>243
section
variable {pr:Program} {w:World} {h:Heap} {loose:List Str} {mean:ExcName→Option Value} {mg mb:Str→Option Value}
noncomputable abbrev Cr (pr:Program) (w:World) (h:Heap) (loose:List Str) (mean:ExcName→Option Value) (mg mb:Str→Option Value):Gl:=
 { prog:=pr,w:=w,K:=fr w.params,base:=h,top:=view,loose:=loose,mean:=mean,mg:=mg,mb:=mb,C:=117,FA:=yA,P:=prog,W:=10000 }
noncomputable def w6 (h:Heap):List FD→Nat→Prop
 | [],_=>True
 | fd :: r,i=>DefK h (yA i) fd∧w6 h r (i + 1)
theorem w6.get {h:Heap} {fd:FD}:∀ {l:List FD} {i f:Nat},w6 h l i→l[f]?=some fd→DefK h (yA (i + f)) fd
 | [],_,_,_,e=>nomatch e
 | x :: l,i,0,a,e=>by induction Option.some.inj e; exact a.1
 | x :: l,i,f + 1,a,e=>by
  have:=w6.get (l:=l) (i:=i + 1) (f:=f) a.2 e
  rwa [Nat.add_right_comm,Nat.add_assoc] at this
noncomputable def AM (P:Params) (f:Nat) (x:Str):Bool:=match nsIn (fr P) mainGlobals x with
 | some (some (.ref a))=>a == yA f
 | _=>false
set_option tactic.hygienic true in
theorem yv {P:Params} {f:Nat} {x:Str} (h:AM P f x=true):nsIn (fr P) mainGlobals x=some (some (.ref (yA f))):=by
 unfold AM at h
 split at h
 ·rename_i a e; rw [e,beq_iff_eq.mp h]
 ·exact fT h
noncomputable def AL (P:Params) (f:Nat) (m:Str):Bool:=f == 1 || (plainGet (fr P) 117 m && isFn (fr P) (.ref (yA f)) && (match findIn (fr P) (.ref 117) m with
 | some (some (.ref a))=>a == yA f
 | _=>false))
set_option tactic.hygienic true in
theorem yu {P:Params} {f:Nat} {m:Str} (h:AL P f m=true) (h1:f≠1):plainGet (fr P) 117 m=true∧findIn (fr P) (.ref 117) m=some (some (.ref (yA f)))∧isFn (fr P) (.ref (yA f))=true:=by
 unfold AL at h
 rw [Bool.or_eq_true,Bool.and_eq_true,Bool.and_eq_true] at h
 rcases h with h | ⟨⟨a,b⟩,c⟩
 ·exact absurd (beq_iff_eq.mp h) h1
 ·refine (cw a ?_ b)
  split at c
  ·rename_i q e; rw [e,beq_iff_eq.mp c]
  ·exact fT c
theorem E7 (X:(fr w.params).In h) (T:Top view loose mean mg mb h):GlOk (Cr pr w h loose mean mg mb) where
 X:=X
 T:=T
 fn:=fun f fd e=>by
  have:=w6.get (i:=0) (l:=prog) ⟨CV X,CU X,CR X,CQ X,CP X,CN X,CM X,CL X,CK X,CJ X,AH X,AG X,AF X,AE X,AD X,AC X,AB X,AA X,Az X,Ay X,Ax X,Aw X,Av X,Au X,At X,As X,Ar X,trivial⟩ e
  rwa [Nat.zero_add] at this
 glob:=fun f x e=>by
  exact mg_of X T.g (yv (ki (p:=AM w.params) (by kernel_rfl) e))
 cls:=mg_of X T.g rfl
 makes:=rfl
 init:=rfl
 initT:=rfl
 meth:=fun f m e h1=>yu (ki (p:=AL w.params) (by kernel_rfl) e) h1
 clsNo:=fun x hx=>by
  refine mg_none_of X T.g ?_
  simp only [List.mem_cons,List.not_mem_nil,or_false] at hx
  rcases hx with rfl | rfl | rfl | rfl | rfl | rfl | rfl <;> rfl
 attr:=fun k a e=>by
  match k,e with
  | 0,e=>simp only [cr,List.getElem?_cons_zero,Option.some.injEq] at e; subst e; exact ⟨rfl,rfl,rfl⟩
  | 1,e=>simp only [cr,List.getElem?_cons_zero,List.getElem?_cons_succ,Option.some.injEq] at e; subst e; exact ⟨rfl,rfl,rfl⟩
  | 2,e=>simp only [cr,List.getElem?_cons_zero,List.getElem?_cons_succ,Option.some.injEq] at e; subst e; exact ⟨rfl,rfl,rfl⟩
  | 3,e=>simp only [cr,List.getElem?_cons_zero,List.getElem?_cons_succ,Option.some.injEq] at e; subst e; exact ⟨rfl,rfl,rfl⟩
  | k + 4,e=>simp [cr] at e
 hasDict:=rfl
 setter:=rfl
 plain:=rfl
 low:=Nat.lt_trans (by decide:sysModules < 117) (Heap.lt_size (X 117 _ rfl))
 nolim:=T.nolimit
 keepC:=rfl
end
theorem ni {P:Params} {h:Heap}:∀ {vs:List Value} {xs:List Int},WellAll P h vs (ofPys (xs.map .int))→RdAll h vs (xs.map .int)
 | _,[],w=>by simp only [List.map_nil,ofPys] at w; cases w; rfl
 | _,x :: xs,w=>by
  simp only [List.map_cons,ofPys] at w
  cases w with
  | cons a b=>
   simp only [ofPy] at a
   cases a
   simp only [List.map_cons,RdAll]
   exact (dr _ _ rfl ⟨_,rfl⟩ (ni b))
theorem xy {P:Params} {h:Heap} {v:Value} {xs:List Int} (w:Well P h v (ofPy (.list (xs.map .int)))):Rd h v (.list (xs.map .int)):=by
 simp only [ofPy] at w
 cases w with
 | list a b=>exact (k9 _ _ _ rfl a (by simpa using ni b))
section
variable {G:Gl} {s:Shared} {A:Around} {n:Nat} {σ':AS}
noncomputable abbrev nilFm:Fm:=⟨env00,[],[],[],[]⟩
 where env00:Env:={ scope:={ kind:=.function,names:=[],isGenerator:=false,isCoroutine:=false },locals:=0,globals:=0,cells:=[],builtins:=0 }
theorem xx (K:GlOk G) {f:Nat} {ps:List AV} {res:PyData} {vs:List Value} (hs:s.heap=G.base) (hv:VRelAll G.base [] vs ps) (hA:AOk A (n + 1))
  (he:callF G.P G.W (n + 1) f ps ⟨[],[],[]⟩=some (.d res,σ')) {R:Result→Shared→Prop}
  (hR:∀ v h' tk,(∀ b o,G.base.get? b=some o→h'.get? b=some o)→Rd h' v res→R (.ok (.ret v)) { s with heap:=h',toks:=tk }):
  codeAny (model G.prog G.w) A (.call (.ref (G.FA f)) ⟨vs,[]⟩) R s:=by
 refine fq (jj he) fun fd hf hnp he=>?_
 obtain ⟨o,name,qual,params,body,scope,dV,kV,doc,pm,cdv,ct,an,ho,hdt,hcd,hbind,hk,hco,hgen,nd,hnl,hle,hpk,nf,hcs⟩:=K.fn f fd hf
 have hvl:vs.length=fd.np:=by rw [hv.length,hnp]
 have hkindp:∀ x∈((scope.names.take fd.np).map (·.1)).zip vs,scope.names.lookup x.1=some .local∨(scope.names.lookup x.1=some .cell∧((cellsFrom (s.heap.objs.size + 1) scope.names []).lookup x.1).isSome=true):=by
  intro x hx
  have h1:=(List.of_mem_zip hx).1
  refine aB (List.mem_map.mp h1) fun y hy e=>?_
  have hy':y∈scope.names:=List.mem_of_mem_take hy
  have hl:scope.names.lookup y.1=some y.2:=dX nd hy'
  rw [← e]
  rcases hpk y hy with q | q
  ·exact .inl (hl.trans (by rw [q]))
  ·refine .inr ⟨hl.trans (by rw [q]),?_⟩
   obtain ⟨c,hc⟩:=c9 (n:=s.heap.objs.size + 1) (acc:=[]) (show (y.1,NameKind.cell)∈scope.names by rw [← q]; exact hy')
   rw [hc]; rfl
 refine codeAny_call_cells (fd:=fnX name qual params body scope [] dV kV doc pm an cdv ct) hA.room (hs▸ho) hdt (hs▸K.nolim) (hs▸hcd) rfl (hbind vs hvl) rfl hkindp (fun ac x=>?_) hco hgen hk
 have k:=x.toInCall.keep
 have nm:∀ {l:List (Str×NameKind)},l=scope.names→True:=fun zz=>trivial
 have O1:FmOk G.base (calleeFm nilFm (fnX name qual params body scope [] dV kV doc pm an cdv ct) s.heap.objs.size (G.FA f)):={
  kind:=hk
  glob:=rfl
  blt:=rfl
  names:=(pF nf).symm
  defn:=fun zz=>nf
  nodup:=nd
  above:=by show G.base.objs.size≤s.heap.objs.size; rw [hs]; exact Nat.le_refl _
  frL:=.head _
  cell:=fun y hy=>by
   obtain ⟨c,hc⟩:=c9 (n:=s.heap.objs.size + 1) (acc:=[]) (mem_of_lookup hy)
   have hm:=mem_of_lookup hc
   exact (dT c hc (.tail _ (List.mem_append_left _ (List.mem_map_of_mem (f:=(·.2)) hm))) (Nat.ne_of_gt (x.above _ _ hm)))
  apart:=fun y z c h1 h2=>name_of_addr x.apart (mem_of_lookup h1) (mem_of_lookup h2)
  gdFr:=fun b hb=>by exact (List.not_mem_nil hb).elim
  locN:=fun m=>by exact (List.not_mem_nil m).elim
  cellN:=fun y c zz zz m=>by exact (List.not_mem_nil m).elim
  outG:=fun y c hy zz zz=>absurd rfl (nf _ (mem_of_lookup hy)) }
 have hlen:=hv.length
 let oe:AS:={ loc:=ps.map some++List.replicate (fd.nl - fd.np) none,out:=[],heap:=[] }
 have hU:∀ b,b∈UU (calleeFm nilFm (fnX name qual params body scope [] dV kV doc pm an cdv ct) s.heap.objs.size (G.FA f)) [] oe→s.heap.objs.size≤b∧∃ o,ac.heap.get? b=some o:=fun b m=>by
  rcases List.mem_append.mp m with m | m
  ·simp [live] at m
  ·rcases List.mem_cons.mp m with q | m
   ·refine dB x.toInCall.ns fun o es ep e zz=>?_
    exact ⟨q▸Nat.le_refl _,⟨o,q▸e⟩⟩
   ·rcases List.mem_append.mp m with m | m
    ·refine aB (List.mem_map.mp m) fun p hp e_1=>?_; subst e_1
     refine ⟨Nat.le_of_lt (x.above p.1 p.2 hp),?_⟩
     have hc:(callEnvC (fnX name qual params body scope [] dV kV doc pm an cdv ct) s.heap.objs.size (G.FA f)).cells.lookup p.1=some p.2:=dX (eh nd (by simp) (by simp)) hp
     refine aB (x.cell _ _ hc) fun o ho zz=>?_
     exact ⟨o,ho⟩
    ·exact (List.not_mem_nil m).elim
 have hide:∀ b o,G.base.get? b=some o→(hideAll ac.heap (UU (calleeFm nilFm (fnX name qual params body scope [] dV kV doc pm an cdv ct) s.heap.objs.size (G.FA f)) [] oe)).get? b=some o:=fun b o e=>by
  refine hideAll_get _ (k b o (hs▸e)) fun m=>?_
  have h1:=(hU b m).1
  have h2:b < G.base.objs.size:=Heap.lt_size e
  rw [hs] at h1
  exact absurd h2 (Nat.not_lt_of_le h1)
 have hn:(UU (calleeFm nilFm (fnX name qual params body scope [] dV kV doc pm an cdv ct) s.heap.objs.size (G.FA f)) [] oe).Nodup:=by
  refine List.nodup_append.mpr (cw (by simp [live]) ?_ (fun y m=>by simp [live] at m))
  refine List.nodup_cons.mpr ⟨fun m=>?_,List.nodup_append.mpr (cw ?_ List.nodup_nil (fun y m z n=>by exact (List.not_mem_nil n).elim))⟩
  ·rcases List.mem_append.mp m with m | m
   ·refine aB (List.mem_map.mp m) fun p hp e=>?_
    have h1:s.heap.objs.size < p.2:=x.above p.1 p.2 hp
    exact absurd e (Nat.ne_of_gt h1)
   ·cases m
  ·have:=x.apart
   rw [List.nodup_iff_pairwise_ne,List.pairwise_map]
   exact this
 have S1:StG G (calleeFm nilFm (fnX name qual params body scope [] dV kV doc pm an cdv ct) s.heap.objs.size (G.FA f)) [] oe ac.heap:=by
  refine ⟨rfl,hide,hn,fun b m=>⟨by have:=(hU b m).1; rw [hs] at this; exact this,(hU b m).2⟩,fun j p o e1 zz=>by simp at e1,?_⟩
  have hkl:((scope.names.take fd.np).map (·.1)).length=vs.length:=by simp [hvl]; lia
  have hkd:((((scope.names.take fd.np).map (·.1)).zip vs).map (·.1)).Nodup:=by
   rw [mO hkl,List.map_take]
   exact nd.sublist (List.take_sublist _ _)
  have key:∀ (i:Nat) (y:Str) (kd:NameKind),scope.names[i]?=some (y,kd)→∀ v,(ps.map some++List.replicate (fd.nl - fd.np) none)[i]?=some (some v)→∃ val,(y,val)∈((scope.names.take fd.np).map (·.1)).zip vs∧VRel G.base [] val v:=by
   intro i y kd hy v hi
   have hin:i < ps.length:=by
    refine Nat.lt_of_not_le fun hge=>?_
    rw [List.getElem?_append_right (by simpa using hge),List.getElem?_replicate] at hi
    split at hi <;> cases hi
   rw [List.getElem?_append_left (by simpa using hin),List.getElem?_map] at hi
   refine aB (Option.map_eq_some_iff.mp hi) fun v' hv' e=>?_
   induction Option.some.inj e
   refine aB (hv.get hv') fun val h1 h2=>?_
   refine (m1a2 val (jB (i:=i) ?_ h1) h2)
   rw [List.getElem?_map,List.getElem?_take_of_lt (by exact Bq ‹_› ‹_›),hy]; rfl
  have hlk:∀ (i:Nat) (y:Str) (kd:NameKind),scope.names[i]?=some (y,kd)→(callEnvC (fnX name qual params body scope [] dV kV doc pm an cdv ct) s.heap.objs.size (G.FA f)).kindOf y=some kd:=fun i y kd hy=>fe nd hy
  have sub:Sub G.base (hideAll ac.heap (UU (calleeFm nilFm (fnX name qual params body scope [] dV kV doc pm an cdv ct) s.heap.objs.size (G.FA f)) [] oe)):=Sub.of hide
  refine ⟨?_,(m1a2 _ x.toInCall.ns (fun i y hy v hi=>?_)),fun i y hy=>?_,fun i y hy zz=>absurd rfl (nf _ (mem_of_lookup hy))⟩
  ·show (ps.map some++List.replicate (fd.nl - fd.np) none).length=scope.names.length
   simp; lia
  ·refine aB (key i y _ hy v hi) fun val h1 h2=>?_
   exact (m1a2 val (lq (hlk i y _ hy) hkd h1) (h2.mono sub (de.refl _)))
  ·obtain ⟨c,hc⟩:=c9 (n:=s.heap.objs.size + 1) (acc:=[]) (List.mem_of_getElem? hy)
   refine (dr c _ hc (x.cell y c hc) (fun v hi=>?_))
   refine aB (key i y _ hy v hi) fun val h1 h2=>?_
   exact (m1a2 val (lr (by rw [hlk i y _ hy]; simp) hkd h1) (h2.mono sub (de.refl _)))
 have he':∃ fl aa,Dg.execs G.P G.W n fd.body oe=some (fl,aa)∧((∃ y,fl=.ret (.d y)∧res=y)∨(fl=.next∧res=.none)):=by
  refine cu he fun fl aa h1 hfl zz=>?_; clear he
  refine (g8 fl aa h1 ?_)
  rcases hfl with ⟨x,e1,e2⟩ | ⟨e1,e2⟩
  ·exact .inl (m1a2 x e1 (CW e2))
  ·exact .inr ⟨e1,CW e2⟩
 refine eW he' fun fl aa h1 hfl=>?_; clear he'
 refine (all K n).ss (calleeFm nilFm (fnX name qual params body scope [] dV kV doc pm an cdv ct) s.heap.objs.size (G.FA f)) body fd.body _ fl aa [] ac _ O1 rfl hcs h1 S1 hA.deeper _ _ fun f' s' ρ' st r=>?_
 refine eW x.done fun il yH e1 kk=>?_
 refine cG st.same fun sn sW e2=>?_
 have hs':s'={ s with heap:=s'.heap,toks:=s'.toks }:=by rw [e2,e1]
 have kb:∀ b o,G.base.get? b=some o→s'.heap.get? b=some o:=st.st.baseH
 have sub:Sub (gr (calleeFm nilFm (fnX name qual params body scope [] dV kV doc pm an cdv ct) s.heap.objs.size (G.FA f)) ρ' aa s'.heap) s'.heap:=Sub.of fun b o e=>st.st.grH b o e
 rcases hfl with ⟨y,rfl,rfl⟩ | ⟨rfl,rfl⟩
 ·cases f' with
  | ret u=>rw [hs']; exact hR _ _ _ kb (Rd.mono sub r)
  | _=>exact r.elim
 ·cases f' with
  | next=>rw [hs']; exact hR _ _ _ kb (by simp [Rd])
  | _=>exact r.elim
end
end Dg
end
section
open PySem
namespace Dg
section
variable {γ:Type}
noncomputable def mM (r:Option (AV×AS)) (f:AV→AS→Option γ):Option γ:=match r with | some (v,σ)=>f v σ | none=>none
theorem aE {v:AV} {s:AS} {f:AV→AS→Option γ}:mM (some (v,s)) f=f v s:=rfl
noncomputable def y0 (r:Option (List AV×AS)) (f:List AV→AS→Option γ):Option γ:=match r with | some (v,σ)=>f v σ | none=>none
theorem aP {v:List AV} {s:AS} {f:List AV→AS→Option γ}:y0 (some (v,s)) f=f v s:=rfl
noncomputable def Bf (r:Option (PyData×AS)) (f:PyData→AS→Option γ):Option γ:=match r with | some (v,σ)=>f v σ | none=>none
theorem bJ {v:PyData} {s:AS} {f:PyData→AS→Option γ}:Bf (some (v,s)) f=f v s:=rfl
noncomputable def yZ (r:Option (List PyData×AS)) (f:List PyData→AS→Option γ):Option γ:=match r with | some (v,σ)=>f v σ | none=>none
theorem aW {v:List PyData} {s:AS} {f:List PyData→AS→Option γ}:yZ (some (v,s)) f=f v s:=rfl
noncomputable def FY (r:Option (Bool×AS)) (f:Bool→AS→Option γ):Option γ:=match r with | some (v,σ)=>f v σ | none=>none
theorem rj {v:Bool} {s:AS} {f:Bool→AS→Option γ}:FY (some (v,s)) f=f v s:=rfl
noncomputable def Bg (r:Option (Bool)) (f:Bool→Option γ):Option γ:=match r with | some v=>f v | none=>none
theorem aV {v:Bool} {f:Bool→Option γ}:Bg (some v) f=f v:=rfl
noncomputable def uX (r:Option (PyData)) (f:PyData→Option γ):Option γ:=match r with | some v=>f v | none=>none
theorem aY {v:PyData} {f:PyData→Option γ}:uX (some v) f=f v:=rfl
noncomputable def AQ (r:Option (AS)) (f:AS→Option γ):Option γ:=match r with | some v=>f v | none=>none
theorem aL {v:AS} {f:AS→Option γ}:AQ (some v) f=f v:=rfl
noncomputable def F3 (r:Option (AV)) (f:AV→Option γ):Option γ:=match r with | some v=>f v | none=>none
theorem fA {v:AV} {f:AV→Option γ}:F3 (some v) f=f v:=rfl
noncomputable def Ff (r:Option (List PyData)) (f:List PyData→Option γ):Option γ:=match r with | some v=>f v | none=>none
theorem gP {v:List PyData} {f:List PyData→Option γ}:Ff (some v) f=f v:=rfl
noncomputable def F0 (r:Option (Int)) (f:Int→Option γ):Option γ:=match r with | some v=>f v | none=>none
theorem y2 {v:Int} {f:Int→Option γ}:F0 (some v) f=f v:=rfl
noncomputable def FZ (r:Option (List Int)) (f:List Int→Option γ):Option γ:=match r with | some v=>f v | none=>none
theorem y1 {v:List Int} {f:List Int→Option γ}:FZ (some v) f=f v:=rfl
noncomputable def bK (r:Option (AV×AS)) (f:Nat→AS→Option γ):Option γ:=match r with | some (.o v,σ)=>f v σ | _=>none
theorem cM {v:Nat} {s:AS} {f:Nat→AS→Option γ}:bK (some (.o v,s)) f=f v s:=rfl
noncomputable def bD (r:Option (AV×AS)) (f:PyData→AS→Option γ):Option γ:=match r with | some (.d v,σ)=>f v σ | _=>none
theorem bZ {v:PyData} {s:AS} {f:PyData→AS→Option γ}:bD (some (.d v,s)) f=f v s:=rfl
noncomputable def bI (r:Option (AV×AS)) (f:Int→AS→Option γ):Option γ:=match r with | some (.d (.int v),σ)=>f v σ | _=>none
theorem ie {v:Int} {s:AS} {f:Int→AS→Option γ}:bI (some (.d (.int v),s)) f=f v s:=rfl
noncomputable def bL (r:Option (AV×AS)) (f:List PyData→AS→Option γ):Option γ:=match r with | some (.d (.list v),σ)=>f v σ | _=>none
theorem yz {v:List PyData} {s:AS} {f:List PyData→AS→Option γ}:bL (some (.d (.list v),s)) f=f v s:=rfl
noncomputable def oL (r:Option AO) (f:List PyData→Option γ):Option γ:=match r with | some (.list v)=>f v | _=>none
theorem dW {v:List PyData} {f:List PyData→Option γ}:oL (some (.list v)) f=f v:=rfl
noncomputable def oD (r:Option AO) (f:List (PyData×PyData)→Option γ):Option γ:=match r with | some (.dict v)=>f v | _=>none
theorem Et {v:List (PyData×PyData)} {f:List (PyData×PyData)→Option γ}:oD (some (.dict v)) f=f v:=rfl
noncomputable def oN (r:Option AO) (f:List AV→Option γ):Option γ:=match r with | some (.inst v)=>f v | _=>none
theorem eM {v:List AV} {f:List AV→Option γ}:oN (some (.inst v)) f=f v:=rfl
noncomputable def oo (r:Option (Option AV)) (f:AV→Option γ):Option γ:=match r with | some (some v)=>f v | _=>none
theorem aR {v:AV} {f:AV→Option γ}:oo (some (some v)) f=f v:=rfl
noncomputable def FF (r:Option (Option AV)) (f:PyData→Option γ):Option γ:=match r with | some (some (.d v))=>f v | _=>none
theorem yL {v:PyData} {f:PyData→Option γ}:FF (some (some (.d v))) f=f v:=rfl
noncomputable def F4 (r:Option PyData) (f:List PyData→Option γ):Option γ:=match r with | some (.list v)=>f v | _=>none
theorem wR {v:List PyData} {f:List PyData→Option γ}:F4 (some (.list v)) f=f v:=rfl
noncomputable def bB (r:Option (Bool×AS)) (f g:AS→Option γ):Option γ:=match r with | some (true,σ)=>f σ | some (false,σ)=>g σ | none=>none
theorem cU {s:AS} {f g:AS→Option γ}:bB (some (true,s)) f g=f s:=rfl
theorem db {s:AS} {f g:AS→Option γ}:bB (some (false,s)) f g=g s:=rfl
noncomputable def bC (r:Option (AV×AS)) (f:AS→Option (AV×AS)):Option (AV×AS):=match r with | some (.d (.bool true),σ)=>f σ | some (.d (.bool false),σ)=>some (.d (.bool false),σ) | _=>none
theorem Fj {s:AS} {f:AS→Option (AV×AS)}:bC (some (.d (.bool true),s)) f=f s:=rfl
noncomputable def bT (r:Option (Bool×AS)) (f:AS→Option (Bool×AS)):Option (Bool×AS):=match r with | some (true,σ)=>f σ | r=>r
theorem kI {s:AS} {f:AS→Option (Bool×AS)}:bT (some (true,s)) f=f s:=rfl
theorem ri {s:AS} {f:AS→Option (Bool×AS)}:bT (some (false,s)) f=some (false,s):=rfl
noncomputable def bX (r:Option (Fl×AS)) (f:AS→Option (Fl×AS)):Option (Fl×AS):=match r with | some (.next,σ)=>f σ | r=>r
theorem bG {s:AS} {f:AS→Option (Fl×AS)}:bX (some (.next,s)) f=f s:=rfl
theorem cT {s:AS} {v:AV} {f:AS→Option (Fl×AS)}:bX (some (.ret v,s)) f=some (.ret v,s):=rfl
noncomputable def bN (r:Option (AV×AS)) (f:AS→Option γ):Option γ:=match r with | some (.d .none,σ)=>f σ | _=>none
theorem C0 {s:AS} {f:AS→Option γ}:bN (some (.d .none,s)) f=f s:=rfl
noncomputable def bE (r q:Option AO) (f:List PyData→List PyData→Option γ):Option γ:=match r,q with | some (.list xs),some (.list ys)=>f xs ys | _,_=>none
theorem Fh {x y:List PyData} {f:List PyData→List PyData→Option γ}:bE (some (.list x)) (some (.list y)) f=f x y:=rfl
noncomputable def Dv (r:Option (AV×AS)):Option (AV×AS):=match r with | some (.o k,aa)=>(match aa.heap[k]? with | some (.list xs)=>if xs.length≤dz then some (.d (.int xs.length),aa) else none | some (.dict es)=>if es.length≤dz && dJ (.int 0) es then some (.d (.int es.length),aa) else none | _=>none) | some (.d (.list xs),aa)=>if xs.length≤dz then some (.d (.int xs.length),aa) else none | some (.d (.tuple xs),aa)=>if xs.length≤dz then some (.d (.int xs.length),aa) else none | _=>none
noncomputable def Er (r:Option AO) (aa:AS):Option (AV×AS):=match r with | some (.list xs)=>if xs.length≤dz then some (.d (.int xs.length),aa) else none | some (.dict es)=>if es.length≤dz && dJ (.int 0) es then some (.d (.int es.length),aa) else none | _=>none
theorem iU {k:Nat} {s:AS}:Dv (some (.o k,s))=Er (s.heap[k]?) s:=rfl
theorem mf {xs:List PyData} {s:AS}:Dv (some (.d (.list xs),s))=if xs.length≤dz then some (.d (.int xs.length),s) else none:=rfl
theorem C1 {xs:List PyData} {s:AS}:Dv (some (.d (.tuple xs),s))=if xs.length≤dz then some (.d (.int xs.length),s) else none:=rfl
theorem jr {xs:List PyData} {s:AS}:Er (some (.list xs)) s=if xs.length≤dz then some (.d (.int xs.length),s) else none:=rfl
theorem BT {es:List (PyData×PyData)} {s:AS}:Er (some (.dict es)) s=if es.length≤dz && dJ (.int 0) es then some (.d (.int es.length),s) else none:=rfl
noncomputable def bR (r:Option (PyData×AS)) (f:List PyData→AS→Option γ):Option γ:=match r with | some (.list xs,σ)=>f xs σ | _=>none
theorem Fd {x:List PyData} {s:AS} {f:List PyData→AS→Option γ}:bR (some (.list x,s)) f=f x s:=rfl
noncomputable def Fg (r:Option (PyData×AS)):Option (List PyData×AS):=match r with | some (.list xs,σ)=>some (xs,σ) | some (.tuple xs,σ)=>some (xs,σ) | _=>none
theorem ef {x:List PyData} {s:AS}:Fg (some (.list x,s))=some (x,s):=rfl
theorem nT {x:List PyData} {s:AS}:Fg (some (.tuple x,s))=some (x,s):=rfl
noncomputable def Fk (r:Option Bool) (f:Unit→Option γ) (g:Option γ):Option γ:=match r with | some true=>f () | some false=>g | none=>none
theorem y4 {f:Unit→Option γ} {g:Option γ}:Fk (some true) f g=f ():=rfl
theorem C3 {f:Unit→Option γ} {g:Option γ}:Fk (some false) f g=g:=rfl
noncomputable def F5 (x y:PyData) (f:Int→Int→Option γ):Option γ:=match x,y with | .int a,.int b=>f a b | _,_=>none
theorem y3 {a b:Int} {f:Int→Int→Option γ}:F5 (.int a) (.int b) f=f a b:=rfl
noncomputable def FX (r:Option PyData) (f:Int→Option γ):Option γ:=match r with | some (.int x)=>f x | _=>none
theorem CZ {a:Int} {f:Int→Option γ}:FX (some (.int a)) f=f a:=rfl
noncomputable def Fc (r:Option (AV×AS)):Option (Fl×AS):=match r with | some (.d x,aa)=>some (.ret (.d x),aa) | some (.o k,aa)=>(Bf (aa.freeze (.o k)) fun x ah=>some (.ret (.d x),ah)) | none=>none
theorem cn {x:PyData} {s:AS}:Fc (some (.d x,s))=some (.ret (.d x),s):=rfl
theorem nR {k:Nat} {s:AS}:Fc (some (.o k,s))=Bf (s.freeze (.o k)) fun x ah=>some (.ret (.d x),ah):=rfl
noncomputable def bA (r:Option (Option AV)) (f:Option γ):Option γ:=match r with | some _=>f | none=>none
theorem bf {x:Option AV} {f:Option γ}:bA (some x) f=f:=rfl
noncomputable def oZ (r:Option AO) (f:PyData→Option γ):Option γ:=match r with | some (.list [z])=>f z | _=>none
theorem Ep {z:PyData} {f:PyData→Option γ}:oZ (some (.list [z])) f=f z:=rfl
noncomputable def rn (op:BO) (x y:AV) (ah:AS):Option (AV×AS):=match op,x,y with | .mul,.o k,.d (.int m)=>(oZ (ah.heap[k]?) fun z=>if 0≤m∧m≤cB then some (ah.alloc (.list (List.replicate m.toNat z))) else none) | op,.d x,.d y=>(uX (binD op x y) fun z=>some (.d z,ah)) | _,_,_=>none
theorem AR {k:Nat} {m:Int} {s:AS}:rn .mul (.o k) (.d (.int m)) s=oZ (s.heap[k]?) fun z=>if 0≤m∧m≤cB then some (s.alloc (.list (List.replicate m.toNat z))) else none:=rfl
theorem cV {x y:PyData} {s:AS}:rn .add (.d x) (.d y) s=uX (binD .add x y) fun z=>some (.d z,s):=rfl
theorem sI {x y:PyData} {s:AS}:rn .sub (.d x) (.d y) s=uX (binD .sub x y) fun z=>some (.d z,s):=rfl
theorem AT {x y:PyData} {s:AS}:rn .mul (.d x) (.d y) s=uX (binD .mul x y) fun z=>some (.d z,s):=rfl
theorem iV {x y:PyData} {s:AS}:rn .fdiv (.d x) (.d y) s=uX (binD .fdiv x y) fun z=>some (.d z,s):=rfl
theorem gw {x y:PyData} {s:AS}:rn .mod (.d x) (.d y) s=uX (binD .mod x y) fun z=>some (.d z,s):=rfl
theorem wU {x y:PyData} {s:AS}:rn .pow (.d x) (.d y) s=uX (binD .pow x y) fun z=>some (.d z,s):=rfl
noncomputable def Fe (r:Option Nat) (f:Nat→Option γ):Option γ:=match r with | some v=>f v | none=>none
theorem tS {v:Nat} {f:Nat→Option γ}:Fe (some v) f=f v:=rfl
noncomputable def Fi (r:Option (Fl×AS)) (f:PyData→AS→Option γ):Option γ:=match r with | some (.ret (.d x),aa)=>f x aa | some (.next,aa)=>f .none aa | _=>none
theorem cj {x:PyData} {s:AS} {f:PyData→AS→Option γ}:Fi (some (.ret (.d x),s)) f=f x s:=rfl
theorem C2 {s:AS} {f:PyData→AS→Option γ}:Fi (some (.next,s)) f=f .none s:=rfl
noncomputable def oS (r:Option AO) (j:PyData):Option PyData:=match r with | some (.list xs)=>(match j with | .int i=>itemAt xs i | _=>none) | some (.dict es)=>if dj j es then findKey j es else none | _=>none
theorem bz {s:AS} {xs:List PyData} {i:Int}:qb s (.d (.tuple xs)) (.int i)=itemAt xs i:=rfl
theorem dp {s:AS} {xs:List PyData} {i:Int}:qb s (.d (.list xs)) (.int i)=itemAt xs i:=rfl
theorem eO {s:AS} {k:Nat} {j:PyData}:qb s (.o k) j=oS (s.heap[k]?) j:=rfl
theorem jK {xs:List PyData} {i:Int}:oS (some (.list xs)) (.int i)=itemAt xs i:=rfl
theorem xG {es:List (PyData×PyData)} {j:PyData}:oS (some (.dict es)) j=if dj j es then findKey j es else none:=rfl
noncomputable def oT (r:Option AO) (i v:PyData) (σ:AS) (k:Nat):Option AS:=match r with | some (.list xs)=>(match i with | .int i=>(Fe (eP xs.length i) fun p=>some (σ.put k (.list (xs.set p v)))) | _=>none) | some (.dict es)=>if dj i es && decide (es.length < cB) then some (σ.put k (.dict (putKey i v es))) else none | _=>none
theorem mZ {s:AS} {k:Nat} {i v:PyData}:iY s (.o k) i v=oT (s.heap[k]?) i v s k:=rfl
theorem xF {xs:List PyData} {i:Int} {v:PyData} {s:AS} {k:Nat}:oT (some (.list xs)) (.int i) v s k=Fe (eP xs.length i) fun p=>some (s.put k (.list (xs.set p v))):=rfl
theorem zH {es:List (PyData×PyData)} {i v:PyData} {s:AS} {k:Nat}:oT (some (.dict es)) i v s k=if dj i es && decide (es.length < cB) then some (s.put k (.dict (putKey i v es))) else none:=rfl
noncomputable def oI (r:Option AO) (x:PyData):Option Bool:=match r with | some (.dict es)=>if dj x es then some (findKey x es).isSome else none | some (.list xs)=>if ez x && g7 xs then some (xs.any fun y=>PyData.eqv y x) else none | _=>none
theorem sm {s:AS} {k:Nat} {x:PyData}:isIn s x (.o k)=oI (s.heap[k]?) x:=rfl
theorem ux {es:List (PyData×PyData)} {x:PyData}:oI (some (.dict es)) x=if dj x es then some (findKey x es).isSome else none:=rfl
theorem Es {xs:List PyData} {x:PyData}:oI (some (.list xs)) x=if ez x && g7 xs then some (xs.any fun y=>PyData.eqv y x) else none:=rfl
theorem vz {s:AS} {b:Bool}:truthV s (.d (.bool b))=some b:=rfl
theorem yo {s:AS} {x y:PyData}:cmpV s .eq (.d x) (.d y)=if ez x && ez y then some (PyData.eqv x y) else none:=rfl
theorem yn {s:AS} {x y:PyData}:cmpV s .ne (.d x) (.d y)=if ez x && ez y then some (!PyData.eqv x y) else none:=rfl
theorem cX {σ:AS} {x:PyData} {c:AV}:cmpV σ .notin (.d x) c=(isIn σ x c).map (!·):=rfl
end
section
variable {P:List FD} {W n:Nat} {σ:AS}
theorem ay {i:Int}:ar P W (n + 1) (.int i) σ=(some (.d (.int i),σ)):=rfl
theorem cC {s:Str}:ar P W (n + 1) (.str s) σ=(some (.d (.str s),σ)):=rfl
theorem c7 {b:Bool}:ar P W (n + 1) (.bool b) σ=(some (.d (.bool b),σ)):=rfl
theorem dO {e:E}:ar P W (n + 1) (.neg e) σ=((bI (ar P W n e σ) fun i aa=>some (.d (.int (-i)),aa))):=rfl
theorem af {i:Nat}:ar P W (n + 1) (.loc i) σ=((oo (σ.loc[i]?) fun v=>some (v,σ))):=rfl
theorem bM {i:Nat}:ar P W (n + 1) (.out i) σ=((oo (σ.out[i]?) fun v=>some (v,σ))):=rfl
theorem bl {e:E} {a:Nat}:ar P W (n + 1) (.attr e a) σ=((bK (ar P W n e σ) fun k aa=>(oN (aa.heap[k]?) fun fs=>(F3 (fs[a]?) fun v=>some (v,aa))))):=rfl
theorem aQ {op:BO} {a:E} {b:E}:ar P W (n + 1) (.bin op a b) σ=((mM (ar P W n a σ) fun x aa=>(mM (ar P W n b aa) fun y ah=>rn op x y ah))):=rfl
theorem uP {op:CO} {a:E} {b:E}:ar P W (n + 1) (.cmp op a b) σ=((mM (ar P W n a σ) fun x aa=>(mM (ar P W n b aa) fun y ah=>(Bg (cmpV ah op x y) fun r=>some (.d (.bool r),ah))))):=rfl
theorem sx {a:E} {b:E}:ar P W (n + 1) (.conj a b) σ=bC (ar P W n a σ) fun aa=>ar P W n b aa:=rfl
theorem cW {t:E} {a:E} {b:E}:ar P W (n + 1) (.ife t a b) σ=((bB (dg P W n t σ) (fun aa=>ar P W n a aa) fun aa=>ar P W n b aa)):=rfl
theorem aM {f:Nat} {as:List E}:ar P W (n + 1) (.call f as) σ=((y0 (c6 P W n as σ) fun vs aa=>callF P W n f vs aa)):=rfl
theorem o8 {as:List E}:ar P W (n + 1) (.new as) σ=((y0 (c6 P W n as σ) fun vs aa=>bN (callF P W n 1 ((aa.alloc (.inst [])).1 :: vs) (aa.alloc (.inst [])).2) fun ah=>some ((aa.alloc (.inst [])).1,ah))):=rfl
theorem bF {f:Nat} {e:E} {as:List E}:ar P W (n + 1) (.meth f e as) σ=((bK (ar P W n e σ) fun k aa=>(oN (aa.heap[k]?) fun zz=>(y0 (c6 P W n as aa) fun vs ah=>callF P W n f (.o k :: vs) ah)))):=rfl
theorem aH {e:E} {x:E}:ar P W (n + 1) (.append e x) σ=((bK (ar P W n e σ) fun k aa=>(oL (aa.heap[k]?) fun zz=>(mM (ar P W n x aa) fun v ah=>(Bf (ah.freeze v) fun y bi=>(oL (bi.heap[k]?) fun xs=>if xs.length < cB then some (.d .none,bi.put k (.list (xs++[y]))) else none)))))):=rfl
theorem jg {e:E}:ar P W (n + 1) (.pop e) σ=((bK (ar P W n e σ) fun k aa=>(oL (aa.heap[k]?) fun xs=>(uX (xs.getLast?) fun y=>if xs.length≤dz then some (.d y,aa.put k (.list xs.dropLast)) else none)))):=rfl
theorem jv {e:E}:ar P W (n + 1) (.reverse e) σ=((bK (ar P W n e σ) fun k aa=>(oL (aa.heap[k]?) fun xs=>if xs.length≤dz then some (.d .none,aa.put k (.list xs.reverse)) else none))):=rfl
theorem kD {e:E} {x:E}:ar P W (n + 1) (.extend e x) σ=((bK (ar P W n e σ) fun k aa=>(oL (aa.heap[k]?) fun zz=>(bK (ar P W n x aa) fun j ah=>bE (ah.heap[k]?) (ah.heap[j]?) fun xs ys=>if j≠k∧xs.length + ys.length≤cB then some (.d .none,ah.put k (.list (xs++ys))) else none)))):=rfl
theorem uO {e:E} {k:E} {x:E}:ar P W (n + 1) (.get e k x) σ=((bK (ar P W n e σ) fun j aa=>(oD (aa.heap[j]?) fun zz=>(bI (ar P W n k aa) fun i ah=>(bD (ar P W n x ah) fun dv bi=>(oD (bi.heap[j]?) fun es=>if dj (.int i) es then some (.d ((findKey (.int i) es).getD dv),bi) else none)))))):=rfl
theorem br {e:E}:ar P W (n + 1) (.len e) σ=Dv (ar P W n e σ):=rfl
theorem nF {e:E}:ar P W (n + 1) (.min1 e) σ=((bL (ar P W n e σ) fun xs aa=>(FZ (lh xs) fun is=>(F0 (qG is) fun m=>some (.d (.int m),aa))))):=rfl
theorem eA {a:E} {b:E}:ar P W (n + 1) (.min2 a b) σ=((bI (ar P W n a σ) fun x aa=>(bI (ar P W n b aa) fun y ah=>some (.d (.int (if y < x then y else x)),ah)))):=rfl
theorem nG {a:E} {b:E}:ar P W (n + 1) (.max2 a b) σ=((bI (ar P W n a σ) fun x aa=>(bI (ar P W n b aa) fun y ah=>some (.d (.int (if x < y then y else x)),ah)))):=rfl
theorem iM {e:E}:ar P W (n + 1) (.tuple e) σ=((mM (ar P W n e σ) fun v aa=>(F4 (aa.look v) fun xs=>if xs.length≤dz then some (.d (.tuple xs),aa) else none))):=rfl
theorem pH {e:E}:ar P W (n + 1) (.sorted e) σ=((bL (ar P W n e σ) fun xs aa=>(Ff (qf xs) fun ys=>some (.d (.list ys),aa)))):=rfl
theorem aD {a:E} {i:E}:ar P W (n + 1) (.sub a i) σ=((mM (ar P W n a σ) fun x aa=>(bD (ar P W n i aa) fun j ah=>(uX (qb ah x j) fun r=>some (.d r,ah))))):=rfl
theorem qX {a:E} {lo:E} {hi:E}:ar P W (n + 1) (.slice a lo hi) σ=((bD (ar P W n a σ) fun x aa=>(bD (ar P W n lo aa) fun i ah=>(bD (ar P W n hi ah) fun j bi=>(uX (kS x i j) fun r=>some (.d r,bi)))))):=rfl
theorem uN {a:E}:ar P W (n + 1) (.rev a) σ=((mM (ar P W n a σ) fun v aa=>bR (aa.freeze v) fun xs ah=>if xs.length≤dz then some (.d (.list xs.reverse),ah) else none)):=rfl
theorem aG {es:List E}:ar P W (n + 1) (.tup es) σ=((y0 (c6 P W n es σ) fun vs aa=>(yZ (aa.freezeAll vs) fun xs ah=>some (.d (.tuple xs),ah)))):=rfl
theorem bg {es:List E}:ar P W (n + 1) (.list es) σ=((y0 (c6 P W n es σ) fun vs aa=>(yZ (aa.freezeAll vs) fun xs ah=>some (ah.alloc (.list xs))))):=rfl
theorem lV :ar P W (n + 1) .dict0 σ=(some (σ.alloc (.dict []))):=rfl
theorem lU {k:E} {v:E}:ar P W (n + 1) (.dict1 k v) σ=((bI (ar P W n k σ) fun i aa=>(bD (ar P W n v aa) fun x ah=>some (ah.alloc (.dict [(.int i,x)]))))):=rfl
theorem bu {m:Nat} {elt:E} {t:T} {it:Nat×List E} {ifs:List E} {more:List (T×(Nat×List E)×List E)}:ar P W (n + 1) (.comp m elt ((t,it,ifs) :: more)) σ=(yZ (iL P W n it σ) fun xs aa=>(yZ (compItems (compTurn P W n elt t ifs more) xs [] { aa with loc:=List.replicate m none,out:=aa.loc }) fun acc ah=>some (.d (.list acc),{ ah with loc:=aa.loc,out:=aa.out }))):=rfl
theorem fH {e:E}:dg P W (n + 1) (.not e) σ=((FY (dg P W n e σ) fun r aa=>some (!r,aa))):=rfl
theorem aC {op:CO} {a:E} {b:E}:dg P W (n + 1) (.cmp op a b) σ=((mM (ar P W n a σ) fun x aa=>(mM (ar P W n b aa) fun y ah=>(Bg (cmpV ah op x y) fun r=>some (r,ah))))):=rfl
theorem jR {op1:CO} {op2:CO} {a:E} {b:E} {c:E}:dg P W (n + 1) (.cmp2 op1 op2 a b c) σ=((mM (ar P W n a σ) fun x aa=>(mM (ar P W n b aa) fun y ah=>Fk (cmpV ah op1 x y) (fun zz=>(mM (ar P W n c ah) fun z bi=>(Bg (cmpV bi op2 y z) fun r=>some (r,bi)))) (some (false,ah))))):=rfl
theorem b8 {a:E} {b:E}:dg P W (n + 1) (.conj a b) σ=bT (dg P W n a σ) fun aa=>dg P W n b aa:=rfl
theorem av {t:T} {e:E}:Dg.exec P W (n + 1) (.assign t e) σ=((mM (ar P W n e σ) fun v aa=>(AQ (ds n t v aa) fun ah=>some (.next,ah)))):=rfl
theorem bw {a:E} {i:E} {e:E}:Dg.exec P W (n + 1) (.setSub a i e) σ=((mM (ar P W n e σ) fun v aa=>(mM (ar P W n a aa) fun x ah=>(bD (ar P W n i ah) fun j bi=>(Bf (bi.freeze v) fun y dt=>(AQ (iY dt x j y) fun eN=>some (.next,eN))))))):=rfl
theorem pG {a:E} {k:Nat} {e:E}:Dg.exec P W (n + 1) (.setAttr a k e) σ=((mM (ar P W n e σ) fun v aa=>(bK (ar P W n a aa) fun j ah=>(oN (ah.heap[j]?) fun fs=>if fs.length=k then some (.next,ah.put j (.inst (fs++[v]))) else none)))):=rfl
theorem lT {i:Nat} {op:BO} {e:E}:Dg.exec P W (n + 1) (.augLoc i op e) σ=((FF (σ.loc[i]?) fun x=>(bD (ar P W n e σ) fun y aa=>F5 x y fun a b=>(uX (binD op (.int a) (.int b)) fun z=>some (.next,aa.setLoc i (.d z)))))):=rfl
theorem qW {a:E} {i:E} {op:BO} {e:E}:Dg.exec P W (n + 1) (.augSub a i op e) σ=((bK (ar P W n a σ) fun k aa=>(bD (ar P W n i aa) fun j ah=>FX (qb ah (.o k) j) fun x=>(bI (ar P W n e ah) fun y bi=>(uX (binD op (.int x) (.int y)) fun z=>(AQ (iY bi (.o k) j z) fun dt=>some (.next,dt))))))):=rfl
theorem aS {e:E}:Dg.exec P W (n + 1) (.expr e) σ=((mM (ar P W n e σ) fun zz aa=>some (.next,aa))):=rfl
theorem aK {t:E} {a:List S} {b:List S}:Dg.exec P W (n + 1) (.ite t a b) σ=((bB (dg P W n t σ) (fun aa=>Dg.execs P W n a aa) fun aa=>Dg.execs P W n b aa)):=rfl
theorem aO {e:E}:Dg.exec P W (n + 1) (.ret e) σ=Fc (ar P W n e σ):=rfl
noncomputable def forTurn (P:List FD) (W n:Nat) (t:T) (b:List S) (x:PyData) (σ:AS):Option (Fl×AS):=AQ (ds n t (.d x) σ) fun ah=>Dg.execs P W n b ah
theorem bm {t:T} {it:I} {b:List S}:Dg.exec P W (n + 1) (.for t it b) σ=(yZ (iL P W n it σ) fun xs aa=>forItems (forTurn P W n t b) xs aa):=rfl
noncomputable def whTest (P:List FD) (W n:Nat) (t:E) (σ:AS):Option (Bool×AS):=dg P W n t σ
noncomputable def whBody (P:List FD) (W n:Nat) (b:List S) (σ:AS):Option (Fl×AS):=Dg.execs P W n b σ
theorem eI {t:E} {b:List S}:Dg.exec P W (n + 1) (.while t b) σ=whileIt (whTest P W n t) (whBody P W n b) W σ:=rfl
theorem xP {k:Nat}:AS.look σ (.o k)=(oL (σ.heap[k]?) fun xs=>some (.list xs)):=rfl
theorem dN {k:Nat}:AS.freeze σ (.o k)=(oL (σ.heap[k]?) fun xs=>some (.list xs,σ.put k .dead)):=rfl
theorem az {x:PyData}:AS.freeze σ (.d x)=some (x,σ):=rfl
theorem wi {x:PyData}:AS.look σ (.d x)=some x:=rfl
theorem qU {k:Nat} {xs:List PyData} (h:σ.heap[k]?=some (.list xs)):AS.freeze σ (.o k)=some (.list xs,σ.put k .dead):=by simp only [AS.freeze,h]
theorem fP:Dg.exec P W (n + 1) .raise σ=none:=rfl
theorem jf {i:Nat}:dg P W (n + 1) (.loc i) σ=(mM (ar P W n (.loc i) σ) fun v aa=>(Bg (truthV aa v) fun r=>some (r,aa))):=rfl
theorem ff {f:Nat} {as:List E}:dg P W (n + 1) (.call f as) σ=(mM (ar P W n (.call f as) σ) fun v aa=>(Bg (truthV aa v) fun r=>some (r,aa))):=rfl
theorem ai:c6 P W (n + 1) [] σ=some ([],σ):=rfl
theorem ag {e:E} {es:List E}:c6 P W (n + 1) (e :: es) σ=(mM (ar P W n e σ) fun v aa=>(y0 (c6 P W n es aa) fun vs ah=>some (v :: vs,ah))):=rfl
theorem bb:hY P W (n + 1) [] σ=some (true,σ):=rfl
theorem cI {e:E} {es:List E}:hY P W (n + 1) (e :: es) σ=bT (dg P W n e σ) fun aa=>hY P W n es aa:=rfl
theorem bq {e:E}:iL P W (n + 1) (0,[e]) σ=(mM (ar P W n e σ) fun v aa=>Fg (aa.freeze v)):=rfl
theorem eg {es:List E}:iL P W (n + 1) (1,es) σ=(y0 (c6 P W n es σ) fun vs aa=>(yZ (aa.freezeAll vs) fun xs ah=>(Ff (gX xs) fun ys=>some (ys,ah)))):=rfl
theorem ya {e:E}:iL P W (n + 1) (2,[e]) σ=(bL (ar P W n e σ) fun xs aa=>if xs.length≤dz then some (kE 0 xs,aa) else none):=rfl
theorem aq:Dg.execs P W (n + 1) [] σ=some (.next,σ):=rfl
theorem am {s:S} {ss:List S}:Dg.execs P W (n + 1) (s :: ss) σ=bX (Dg.exec P W n s σ) fun aa=>Dg.execs P W n ss aa:=rfl
theorem ae {i:Nat} {v:AV}:ds (n + 1) (.loc i) v σ=bA (σ.loc[i]?) (some (σ.setLoc i v)):=rfl
theorem aA {ts:List T} {xs:List PyData}:ds (n + 1) (.tup ts) (.d (.tuple xs)) σ=eU n ts xs σ:=rfl
theorem ax:eU (n + 1) [] [] σ=some σ:=rfl
theorem au {t:T} {ts:List T} {x:PyData} {xs:List PyData}:eU (n + 1) (t :: ts) (x :: xs) σ=(AQ (ds n t (.d x) σ) fun aa=>eU n ts xs aa):=rfl
theorem bd {elt:E} {t:T} {ifs:List E} {more:List (T×(Nat×List E)×List E)} {x:PyData} {acc:List PyData}:Dg.compTurn P W (n + 1) elt t ifs more x acc σ=(AQ (ds n t (.d x) σ) fun aa=>(bB (hY P W n ifs aa) (fun ah=>(match more with | []=>(mM (ar P W n elt ah) fun v bi=>(Bf (bi.freeze v) fun y dt=>if acc.length < cB then some (acc++[y],dt) else none)) | (t',it',ifs') :: more'=>(yZ (iL P W n it' ah) fun xs bi=>compItems (Dg.compTurn P W n elt t' ifs' more') xs acc bi))) fun ah=>some (acc,ah))):=rfl
theorem bh {f:Nat} {vs:List AV} {fd:FD} (hf:P[f]?=some fd) (hl:vs.length=fd.np):callF P W (n + 1) f vs σ=
  Fi (Dg.execs P W n fd.body { loc:=vs.map some++List.replicate (fd.nl - fd.np) none,out:=[],heap:=σ.heap }) fun x aa=>some (.d x,{ loc:=σ.loc,out:=σ.out,heap:=fV σ.heap.length aa.heap }):=by
 show (match P[f]? with | some fd=>_ | none=>none)=_
 rw [hf]
 exact if_pos hl
end
theorem cf (H:List AO):fV H.length H=H:=by
 unfold fV; split <;> simp
theorem di {H T:List AO} (h:aI H=true):fV H.length (H++T)=H:=by
 unfold fV; simp [h]
theorem gN {H T:List AO} {k:Nat} (h:aI H=true) (hk:k=H.length):fV k (H++T)=H:=by
 subst hk; exact di h
set_option genCtorIdx true in
inductive Nd where
 | leaf (v:PyData)
 | inner (x:Nat) (ps:List (Nat×Nat))
structure Dia where
 tops:List Nat
 nodes:List Nd
 memo:List ((Nat×Nat×Nat)×Nat)
noncomputable abbrev iD (n:Nat):PyData:=.int (n:Int)
noncomputable abbrev cJ:PyData:=.str (Str.ofString "leaf")
noncomputable def partD (p:Nat×Nat):PyData:=.tuple [iD p.1,iD p.2]
noncomputable def Nd.enc:Nd→PyData
 | .leaf v=>.tuple [cJ,v]
 | .inner x ps=>.tuple [iD x,.tuple (ps.map partD)]
noncomputable def topsD (ts:List Nat):PyData:=.tuple (ts.map iD)
noncomputable def nodesD (ns:List Nd):List PyData:=ns.map Nd.enc
noncomputable def bookFrom:Nat→List Nd→List (PyData×PyData)
 | _,[]=>[]
 | i,nd :: r=>(nd.enc,iD i) :: bookFrom (i + 1) r
noncomputable def hO (k:Nat×Nat×Nat):PyData:=.tuple [iD k.1,iD k.2.1,iD k.2.2]
noncomputable def memoD (m:List ((Nat×Nat×Nat)×Nat)):List (PyData×PyData):=m.map fun e=>(hO e.1,iD e.2)
structure HoldsAt (b:Nat) (D:Dia) (H:List AO):Prop where
 self:H[b]?=some (.inst [.d (topsD D.tops),.o (b + 1),.o (b + 2),.o (b + 3)])
 nodes:H[b + 1]?=some (.list (nodesD D.nodes))
 book:H[b + 2]?=some (.dict (bookFrom 0 D.nodes))
 memo:H[b + 3]?=some (.dict (memoD D.memo))
noncomputable def bQ (b:Nat) (D:Dia) (H:List AO):List AO:=((H.set (b + 1) (.list (nodesD D.nodes))).set (b + 2) (.dict (bookFrom 0 D.nodes))).set (b + 3) (.dict (memoD D.memo))
noncomputable def Nd.lev:Nd→Nat
 | .leaf _=>3
 | .inner x _=>x
noncomputable def Dia.lev (D:Dia) (i:Nat):Nat:=match D.nodes[i]? with
 | some nd=>nd.lev
 | none=>3
structure Fits (D:Dia):Prop where
 tops:∃ a b c,D.tops=[a,b,c]∧a≤4∧b≤4∧c≤4
 len:D.nodes.length≤9000
 memo:D.memo.length≤9000
open scoped Classical
theorem iO {x y:PyData} (hx:okd x=true) (hy:okd y=true):PyData.eqv x y=decide (x=y):=tJ hx hy
theorem fM:ez cJ=true:=by decide +kernel
theorem iG (i:Int):ez (.int i)=true:=rfl
theorem iR {σ:AS} {x y:PyData} (hx:ez x=true) (hy:ez y=true):cmpV σ .eq (.d x) (.d y)=some (decide (x=y)):=by
 have h1:okd x=true:=by unfold ez at hx; simp at hx; exact hx.1
 have h2:okd y=true:=by unfold ez at hy; simp at hy; exact hy.1
 simp only [yo,hx,hy,Bool.and_self,if_true,iO h1 h2]
theorem pM {σ:AS} {x y:PyData} (hx:ez x=true) (hy:ez y=true):cmpV σ .ne (.d x) (.d y)=some (!decide (x=y)):=by
 have h1:okd x=true:=by unfold ez at hx; simp at hx; exact hx.1
 have h2:okd y=true:=by unfold ez at hy; simp at hy; exact hy.1
 simp only [yn,hx,hy,Bool.and_self,if_true,iO h1 h2]
theorem gq {σ:AS}:cmpV σ .eq (.d cJ) (.d cJ)=some true:=by refine (iR fM fM).trans ?_; simp
theorem fE {σ:AS} {i:Int}:cmpV σ .eq (.d (.int i)) (.d cJ)=some false:=by refine (iR (iG i) fM).trans ?_; simp
theorem nO {σ:AS}:cmpV σ .ne (.d cJ) (.d cJ)=some false:=by refine (pM fM fM).trans ?_; simp
theorem oa {σ:AS} {i:Int}:cmpV σ .ne (.d (.int i)) (.d cJ)=some true:=by refine (pM (iG i) fM).trans ?_; simp
theorem tO {σ:AS} {i j:Int}:cmpV σ .eq (.d (.int i)) (.d (.int j))=some (decide (i=j)):=by refine (iR (iG i) (iG j)).trans ?_; simp
theorem q8 {σ:AS} {i j:Int}:cmpV σ .ne (.d (.int i)) (.d (.int j))=some (!decide (i=j)):=by refine (pM (iG i) (iG j)).trans ?_; simp
theorem z9 {a:PyData}:itemAt [a] 0=some a:=rfl
theorem sj {a b:PyData}:itemAt [a,b] 0=some a:=rfl
theorem si {a b:PyData}:itemAt [a,b] 1=some b:=rfl
theorem qR {a b c:PyData}:itemAt [a,b,c] 0=some a:=rfl
theorem it31 {a b c:PyData}:itemAt [a,b,c] 1=some b:=rfl
theorem it32 {a b c:PyData}:itemAt [a,b,c] 2=some c:=rfl
theorem dy {xs:List PyData} {i:Nat} {x:PyData} (h:xs[i]?=some x) (hl:xs.length≤1000000):itemAt xs (i:Int)=some x:=by
 unfold itemAt
 rw [if_pos (by unfold dz; exact zb1 ‹_› rfl),if_pos (by exact Br)]
 simpa using h
theorem gL {xs:List PyData} {x:PyData} (hl:xs.length≤900000):itemAt (xs++[x]) (-1)=some x:=by
 unfold itemAt
 rw [if_pos (by simp [dz]; exact zb1 ‹_› rfl),if_neg (by decide),if_pos (by simp; lia)]
 have:(-1 + (↑(xs++[x]).length:Int)).toNat=xs.length:=by simp; lia
 rw [this]; simp
theorem nt {D:Dia} {i:Nat} {nd:Nd} (F:Fits D) (hn:D.nodes[i]?=some nd):itemAt (nodesD D.nodes) (i:Int)=some nd.enc:=by
 unfold itemAt
 have h1:=F.len
 rw [if_pos (by simp [nodesD,dz]; exact zb1 ‹_› rfl),if_pos (by exact Br)]
 simp [nodesD,hn]
section
variable {W n b:Nat} {σ:AS} {D:Dia} {i:Nat} {nd:Nd}
theorem eL (h:HoldsAt b D σ.heap) (F:Fits D) (hn:D.nodes[i]?=some nd):callF prog W (n + 8) 5 [.o b,.d (iD i)] σ=some (.d nd.enc,σ):=by
 refine (bh (fd:=⟨2,2,b_node⟩) rfl rfl).trans ?_
 simp only [b_node,aq,am,aO,af,bl,aD,aE,aY,fA,cM,bZ,eM,aR,cT,cn,cj,List.getElem?_cons_zero,List.getElem?_cons_succ,List.map_cons,List.map_nil,List.cons_append,List.nil_append,List.replicate,Nat.reduceSub,h.self,h.nodes,eO,jK,nt F hn,cf]
theorem iI (h:HoldsAt b D σ.heap) (F:Fits D) (hn:D.nodes[i]?=some nd):callF prog W (n + 12) 6 [.o b,.d (iD i)] σ=some (.d (iD nd.lev),σ):=by
 refine dB F.tops fun ta tb tc ht zz=>?_
 refine (bh (fd:=⟨2,4,b_level⟩) rfl rfl).trans ?_
 induction nd using Nd.casesOn with
 | leaf v=>
  simp only [b_level,aq,am,av,aO,ay,cC,af,bl,cW,br,aD,aC,ae,aE,aV,aY,aL,fA,cM,bZ,eM,aR,cU,bG,cT,C1,cn,bf,cj,AS.setLoc,List.getElem?_cons_zero,List.getElem?_cons_succ,List.set_cons_zero,List.set_cons_succ,List.length_cons,List.length_nil,List.map_cons,List.map_nil,List.cons_append,List.nil_append,List.replicate,Nat.reduceAdd,Nat.reduceSub,if_true,h.self,h.nodes,bz,eO,jK,nt F hn,cf,Nd.enc,sj,gq,topsD,ht,List.map_cons,dz,Nat.reduceLeDiff]
  rfl
 | inner x ps=>
  simp only [b_level,aq,am,av,aO,ay,cC,af,bl,cW,br,aD,aC,ae,aE,aV,aY,aL,fA,cM,bZ,eM,aR,db,bG,cT,cn,bf,cj,AS.setLoc,List.getElem?_cons_zero,List.getElem?_cons_succ,List.set_cons_zero,List.set_cons_succ,List.map_cons,List.map_nil,List.cons_append,List.nil_append,List.replicate,Nat.reduceSub,h.self,h.nodes,bz,eO,jK,nt F hn,cf,Nd.enc,sj,fE,Nd.lev]
end
noncomputable def Ok (k:Nat) (x:PyData):Prop:=okd x=true∧x.depth≤k
noncomputable def Kk (k:Nat) (x:PyData):Prop:=okk x=true∧x.depth≤k
theorem Kk.ok {k:Nat} {x:PyData} (h:Kk k x):Ok k x:=⟨dq h.1,h.2⟩
theorem Ok.le {k m:Nat} {x:PyData} (h:Ok k x) (l:k≤m):Ok m x:=⟨h.1,Nat.le_trans h.2 l⟩
theorem Kk.le {k m:Nat} {x:PyData} (h:Kk k x) (l:k≤m):Kk m x:=⟨h.1,Nat.le_trans h.2 l⟩
theorem Ok.int {k:Nat} {i:Int}:Ok k (.int i):=⟨rfl,Nat.zero_le _⟩
theorem Kk.int {k:Nat} {i:Int}:Kk k (.int i):=⟨rfl,Nat.zero_le _⟩
theorem eJ {k:Nat}:∀ {xs:List PyData},(∀ x∈xs,x.depth≤k)→PyData.depthAll xs≤k
 | [],_=>by simp [PyData.depthAll]
 | x :: xs,h=>by
  simp only [PyData.depthAll]
  exact Nat.max_le.mpr ⟨h x (.head _),eJ fun y m=>h y (.tail _ m)⟩
theorem gG:∀ {xs:List PyData},(∀ x∈xs,okd x=true)→g7 xs=true
 | [],_=>rfl
 | x :: xs,h=>by simp only [g7,Bool.and_eq_true]; exact ⟨h x (.head _),gG fun y m=>h y (.tail _ m)⟩
theorem qE:∀ {xs:List PyData},(∀ x∈xs,okk x=true)→okks xs=true
 | [],_=>rfl
 | x :: xs,h=>by simp only [okks,Bool.and_eq_true]; exact ⟨h x (.head _),qE fun y m=>h y (.tail _ m)⟩
theorem Ok.tup {k:Nat} {xs:List PyData} (h:∀ x∈xs,Ok k x):Ok (k + 1) (.tuple xs):=
 ⟨gG fun x m=>(h x m).1,by simp only [PyData.depth]; exact Nat.succ_le_succ (eJ fun x m=>(h x m).2)⟩
theorem Ok.list {k:Nat} {xs:List PyData} (h:∀ x∈xs,Ok k x):Ok (k + 1) (.list xs):=
 ⟨gG fun x m=>(h x m).1,by simp only [PyData.depth]; exact Nat.succ_le_succ (eJ fun x m=>(h x m).2)⟩
theorem Kk.tup {k:Nat} {xs:List PyData} (h:∀ x∈xs,Kk k x):Kk (k + 1) (.tuple xs):=
 ⟨qE fun x m=>(h x m).1,by simp only [PyData.depth]; exact Nat.succ_le_succ (eJ fun x m=>(h x m).2)⟩
theorem Ok.eq {x:PyData} {k:Nat} (h:Ok k x) (l:k≤20:=by decide):ez x=true:=by
 unfold ez; simp [h.1]; exact Nat.le_trans h.2 l
theorem Kk.key {x:PyData} {k:Nat} (h:Kk k x) (l:k≤7:=by decide):okkey x=true:=by
 unfold okkey; simp [h.1]; exact Nat.le_trans h.2 l
noncomputable def Val (v:PyData):Prop:=Kk 0 v
noncomputable def Nd.Ok:Nd→Prop
 | .leaf v=>Val v
 | .inner _ _=>True
theorem wk {k:Nat}:Kk k cJ:=⟨by decide +kernel,Nat.zero_le _⟩
theorem vZ {k:Nat} (p:Nat×Nat):Kk (k + 1) (partD p):=Kk.tup fun x m=>by
 simp at m; rcases m with rfl | rfl <;> exact Kk.int
theorem Nd.kk {nd:Nd} (h:nd.Ok):Kk 3 nd.enc:=by
 induction nd using Nd.casesOn with
 | leaf v=>
  exact Kk.tup fun x m=>by
   simp at m; rcases m with rfl | rfl
   ·exact wk
   ·exact Kk.le h (by decide)
 | inner x ps=>
  exact Kk.tup fun y m=>by
   simp at m; rcases m with rfl | rfl
   ·exact Kk.int
   ·exact Kk.tup fun z q=>by refine aB (List.mem_map.mp q) fun p zz e_1=>?_; subst e_1; exact vZ p
theorem uv {p q:Nat×Nat} (h:partD p=partD q):p=q:=by
 simp only [partD,PyData.tuple.injEq,List.cons.injEq,PyData.int.injEq,and_true] at h
 exact Prod.ext (by lia) (by lia)
theorem pz {α β:Type} {f:α→β} (hf:∀ a b,f a=f b→a=b):∀ {xs ys:List α},xs.map f=ys.map f→xs=ys
 | [],[],_=>rfl
 | x :: xs,y :: ys,h=>by simp at h; rw [hf _ _ h.1,pz hf (xs:=xs) (ys:=ys) (by simpa using h.2)]
 | [],_ :: _,h=>by simp at h
 | _ :: _,[],h=>by simp at h
theorem Nd.enc_inj:∀ {a b:Nd},a.enc=b.enc→a=b
 | .leaf v,.leaf w,h=>by simp [Nd.enc] at h; rw [h]
 | .inner x ps,.inner y qs,h=>by
  simp only [Nd.enc,PyData.tuple.injEq,List.cons.injEq,PyData.int.injEq,and_true] at h
  rw [pz (fun zz zz=>uv) h.2,show x=y by lia]
 | .leaf v,.inner y qs,h=>by simp [Nd.enc] at h
 | .inner x ps,.leaf w,h=>by simp [Nd.enc] at h
noncomputable def mo (D:Dia):Prop:=∀ nd∈D.nodes,nd.Ok
theorem o7 {nd:Nd} (h:nd.Ok):∀ {ns:List Nd} {k:Nat},(∀ m∈ns,m.Ok)→findKey nd.enc (bookFrom k ns)=(ns.findIdx? (fun m=>decide (m=nd))).map fun i=>iD (k + i)
 | [],k,_=>rfl
 | m :: ns,k,hm=>by
  have ih:=o7 h (ns:=ns) (k:=k + 1) fun x q=>hm x (.tail _ q)
  unfold findKey at ih ⊢
  simp only [bookFrom,List.find?_cons,List.findIdx?_cons]
  rw [iO (Nd.kk (hm m (.head _))).ok.1 (Nd.kk h).ok.1]
  by_cases e:m=nd
  ·subst e; simp
  ·have:¬ m.enc=nd.enc:=fun q=>e (Nd.enc_inj q)
   simp only [this,decide_false,e]
   refine (ih).trans ?_
   induction (ns.findIdx? fun m=>decide (m=nd)) using Option.casesOn with
   | none=>rfl
   | some i=>simp; lia
theorem uF {nd:Nd}:∀ {ns:List Nd} {k:Nat},dJ nd.enc (bookFrom k ns)=true
 | ns,k=>by
  have:∀ (ns:List Nd) (k:Nat),(bookFrom k ns).all (fun e=>match e.1 with | .tuple _=>true | _=>false)=true:=by
   intro ns
   induction ns with
   | nil=>intro k; rfl
   | cons m ns ih=>intro k; simp only [bookFrom,List.all_cons,ih,Bool.and_true]; induction m <;> rfl
  induction nd <;> exact this ns k
theorem rA {nd:Nd} {ns:List Nd} (h:nd.Ok):dj nd.enc (bookFrom 0 ns)=true:=by
 unfold dj; rw [uF,(Nd.kk h).key]; rfl
theorem pu {k v:PyData}:∀ {es:List (PyData×PyData)},findKey k es=none→putKey k v es=es++[(k,v)]
 | [],_=>rfl
 | e :: es,h=>by
  unfold findKey at h
  simp only [List.find?_cons,Option.map_eq_none_iff] at h
  induction q:PyData.eqv e.1 k using Bool.casesOn with
  | true=>rw [q] at h; simp at h
  | false=>
   rw [q] at h
   dsimp only at h
   simp only [putKey,q]
   rw [pu (by unfold findKey; rw [h]; rfl)]
   rfl
theorem jA (nd:Nd):∀ (ns:List Nd) (k:Nat),bookFrom k (ns++[nd])=bookFrom k ns++[(nd.enc,iD (k + ns.length))]
 | [],k=>by simp [bookFrom]
 | m :: ns,k=>by
  simp only [List.cons_append,bookFrom,jA nd ns (k + 1),List.length_cons]
  congr 4
  simp; lia
theorem kF:∀ (ns:List Nd) (k:Nat),(bookFrom k ns).length=ns.length
 | [],_=>rfl
 | _ :: ns,k=>by simp [bookFrom,kF ns (k + 1)]
noncomputable def Dia.keep (D:Dia) (nd:Nd):Dia×Nat:=match D.nodes.findIdx? (fun m=>decide (m=nd)) with
 | some i=>(D,i)
 | none=>({ D with nodes:=D.nodes++[nd] },D.nodes.length)
theorem fU {H:List AO} {i j:Nat} {x:AO} (h:i≠j):(H.set i x)[j]?=H[j]?:=List.getElem?_set_ne h
theorem fX {H:List AO} {i:Nat} {x y:AO} (h:H[i]?=some y):(H.set i x)[i]?=some x:=by
 have:=(List.getElem?_eq_some_iff.mp h).1
 simp [this]
theorem gF {H:List AO} {i:Nat} {x:AO} (h:H[i]?=some x):H.set i x=H:=by
 have ⟨h1,h2⟩:=List.getElem?_eq_some_iff.mp h
 rw [← h2]; exact List.set_getElem_self h1
section
variable {b:Nat} {D D':Dia} {H:List AO}
theorem fJ:(bQ b D H).length=H.length:=by simp [bQ]
theorem HoldsAt.upd (h:HoldsAt b D H) (ht:D'.tops=D.tops):HoldsAt b D' (bQ b D' H):=by
 refine ⟨?_,?_,?_,?_⟩ <;> unfold bQ
 ·rw [fU (by exact F6),fU (by exact Dx),fU (by exact zn7),h.self,ht]
 ·rw [fU (by exact Dx),fU (by exact zn7),fX h.nodes]
 ·refine (fU (by exact zn7)).trans ?_; exact fX (y:=.dict (bookFrom 0 D.nodes)) (by rw [fU (by lia),h.book])
 ·exact fX (y:=.dict (memoD D.memo)) (by rw [fU (by lia),fU (by lia),h.memo])
theorem HoldsAt.upd_self (h:HoldsAt b D H):bQ b D H=H:=by
 unfold bQ
 rw [gF h.nodes,gF h.book,gF h.memo]
theorem dL:bQ b D' (bQ b D H)=bQ b D' H:=by
 unfold bQ
 apply List.ext_getElem?
 intro i
 simp only [List.getElem?_set]
 by_cases h1:b + 1=i <;> by_cases h2:b + 2=i <;> by_cases h3:b + 3=i <;> simp [h1,h2,h3]
theorem rM {c:Nat} (h:HoldsAt c D' H) (hc:c + 4≤b∨b + 4≤c):HoldsAt c D' (bQ b D H):=by
 refine ⟨?_,?_,?_,?_⟩ <;> unfold bQ <;> rw [fU (by lia),fU (by lia),fU (by lia)]
 ·exact h.self
 ·exact h.nodes
 ·exact h.book
 ·exact h.memo
end
theorem gM {n:Nat} {H:List AO} (h:H.length=n):fV n H=H:=by subst h; exact cf H
noncomputable def plainO:AO→Bool
 | .inst _=>false
 | _=>true
theorem closed_set {H:List AO} {i:Nat} {x:AO} (hx:plainO x=true) (h:aI H=true):aI (H.set i x)=true:=by
 unfold aI at h ⊢
 rw [List.all_eq_true] at h ⊢
 intro o m
 rcases List.mem_or_eq_of_mem_set m with m | rfl
 ·have:=h o m
  simpa using this
 ·induction o using AO.casesOn with
  | inst _=>exact fT hx
  | _=>rfl
theorem b9 {b:Nat} {D:Dia} {H:List AO} (h:aI H=true):aI (bQ b D H)=true:=
 closed_set rfl (closed_set rfl (closed_set rfl h))
section
variable {W n b:Nat} {σ:AS} {D:Dia} {nd:Nd}
theorem oQ (h:HoldsAt b D σ.heap) (F:Fits D) (O:mo D) (ho:nd.Ok):callF prog W (n + 12) 2 [.o b,.d nd.enc] σ=some (.d (iD (D.keep nd).2),{ σ with heap:=bQ b (D.keep nd).1 σ.heap }):=by
 have hl:=F.len
 have hb:∀ (ns:List Nd),(∀ m∈ns,m.Ok)→findKey nd.enc (bookFrom 0 ns)=(ns.findIdx? (fun m=>decide (m=nd))).map fun i=>iD (0 + i):=fun ns q=>o7 ho q
 rw [bh (fd:=⟨2,3,b_kept⟩) rfl rfl]
 unfold Dia.keep
 induction e:D.nodes.findIdx? (fun m=>decide (m=nd)) using Option.casesOn with
 | some i=>
  have e1:=hb D.nodes O
  rw [e] at e1
  simp only [b_kept,aq,am,bw,aS,aK,aO,af,bl,aH,br,aD,aC,aE,aV,aY,fA,cM,bZ,eM,aR,db,bG,cT,cn,cj,AS.put,List.getElem?_cons_zero,List.getElem?_cons_succ,List.map_cons,List.map_nil,List.cons_append,List.nil_append,List.replicate,Nat.reduceSub,if_true,h.self,h.book,cX,sm,ux,rA ho,e1,Option.map_some,Option.isSome_some,Bool.not_true,eO,xG,cf,h.upd_self,Nat.zero_add]
 | none=>
  have e1:=hb D.nodes O
  rw [e] at e1
  have e2:(D.nodes++[nd]).findIdx? (fun m=>decide (m=nd))=some D.nodes.length:=by
   rw [List.findIdx?_append,e]; simp
  have e3:=hb (D.nodes++[nd]) (fun m q=>by rcases List.mem_append.mp q with q | q; exact O m q; simp at q; rw [q]; exact ho)
  rw [e2] at e3
  have e4:putKey nd.enc (iD D.nodes.length) (bookFrom 0 D.nodes)=bookFrom 0 (D.nodes++[nd]):=by rw [pu e1,jA]; simp
  have g1:(σ.heap.set (b + 2) (.dict (bookFrom 0 (D.nodes++[nd]))))[b]?=some (.inst [.d (topsD D.tops),.o (b + 1),.o (b + 2),.o (b + 3)]):=by rw [fU (by exact Dx),h.self]
  have g2:(σ.heap.set (b + 2) (.dict (bookFrom 0 (D.nodes++[nd]))))[b + 1]?=some (.list (nodesD D.nodes)):=by rw [fU (by exact zn7),h.nodes]
  have g3:((σ.heap.set (b + 2) (.dict (bookFrom 0 (D.nodes++[nd])))).set (b + 1) (.list (nodesD D.nodes++[nd.enc])))[b]?=some (.inst [.d (topsD D.tops),.o (b + 1),.o (b + 2),.o (b + 3)]):=by rw [fU (by exact zn7),g1]
  have g4:((σ.heap.set (b + 2) (.dict (bookFrom 0 (D.nodes++[nd])))).set (b + 1) (.list (nodesD D.nodes++[nd.enc])))[b + 2]?=some (.dict (bookFrom 0 (D.nodes++[nd]))):=by rw [fU (by lia),fX h.book]
  have h2:HoldsAt b { D with nodes:=D.nodes++[nd] } (bQ b { D with nodes:=D.nodes++[nd] } σ.heap):=h.upd rfl
  have l1:(nodesD D.nodes).length=D.nodes.length:=by simp [nodesD]
  have l2:(nodesD D.nodes).length≤dz:=by rw [l1]; unfold dz; exact zb1 ‹_› rfl
  have l3:(nodesD D.nodes).length < cB:=by rw [l1]; unfold cB; exact og ‹_› rfl
  have l4:(bookFrom 0 D.nodes).length < cB:=by rw [kF]; unfold cB; exact og ‹_› rfl
  have fin:(σ.heap.set (b + 2) (.dict (bookFrom 0 (D.nodes++[nd])))).set (b + 1) (.list (nodesD D.nodes++[nd.enc]))=bQ b { D with nodes:=D.nodes++[nd] } σ.heap:=by
   unfold bQ
   have:nodesD (D.nodes++[nd])=nodesD D.nodes++[nd.enc]:=by simp [nodesD]
   rw [this,List.set_comm _ _ (by exact zn7:b + 2≠b + 1)]
   refine (gF ?_).symm
   rw [fU (by lia),fU (by lia),h.memo]
  simp only [b_kept,aq,am,bw,aS,aK,aO,af,bl,aH,br,aD,aC,aE,bJ,aV,aY,aL,fA,cM,bZ,dW,eM,aR,cU,bG,cT,iU,jr,cn,cj,az,AS.put,List.getElem?_cons_zero,List.getElem?_cons_succ,List.map_cons,List.map_nil,List.cons_append,List.nil_append,List.replicate,Nat.reduceSub,if_true,h.self,h.nodes,h.book,cX,sm,ux,rA ho,e1,Option.map_none,Option.isSome_none,Bool.not_false,mZ,zH,l4,l1▸l2,l1,decide_true,Bool.and_self,e4,g1,g2,l1▸l3,eO,xG,e3,Option.map_some,Nat.zero_add,fin,h2.self,h2.book,gM fJ]
end
theorem eS {K:List AO} {x:AO}:(K++[x])[K.length]?=some x:=by simp
theorem gW {K:List AO} {x y:AO}:(K++[x]).set K.length y=K++[y]:=by simp
theorem kA {K T:List AO} {i:Nat} {x:AO} (h:K[i]?=some x):(K++T)[i]?=some x:=by
 rw [List.getElem?_append_left (List.getElem?_eq_some_iff.mp h).1,h]
theorem yK {K T:List AO} {i:Nat} {x y:AO} (h:K[i]?=some x):(K++T).set i y=K.set i y++T:=by
 rw [List.set_append_left _ _ (List.getElem?_eq_some_iff.mp h).1]
theorem HoldsAt.app {b:Nat} {D:Dia} {K:List AO} (h:HoldsAt b D K) (T:List AO):HoldsAt b D (K++T):=
 ⟨kA h.self,kA h.nodes,kA h.book,kA h.memo⟩
theorem HoldsAt.lt {b:Nat} {D:Dia} {K:List AO} (h:HoldsAt b D K):b + 3 < K.length:=(List.getElem?_eq_some_iff.mp h.memo).1
theorem mR {b:Nat} {D D':Dia} {K:List AO} (h:HoldsAt b D K) (T:List AO):bQ b D' (K++T)=bQ b D' K++T:=by
 have:=h.lt
 unfold bQ
 rw [List.set_append_left _ _ (by lia),List.set_append_left _ _ (by simp; lia),List.set_append_left _ _ (by simp; assumption)]
theorem oA {k:Nat} (h:k≤900000):eP (k + 1) (-1)=some k:=by
 unfold eP
 rw [if_pos (by unfold dz; exact tX ‹_› rfl),if_neg (by decide),if_pos (by lia)]
 congr 1; lia
theorem qj {α β:Type} {f:α→β} {l:List α} {x y:β}:(l.map f++[x]).set l.length y=l.map f++[y]:=by simp
theorem nP {σ:AS} {x y:Int}:cmpV σ .gt (.d (.int x)) (.d (.int y))=some (decide (x > y)):=rfl
theorem sD {σ:AS} {x y:Int}:cmpV σ .lt (.d (.int x)) (.d (.int y))=some (decide (x < y)):=rfl
theorem wM {σ:AS} {x y:Int}:cmpV σ .le (.d (.int x)) (.d (.int y))=some (decide (x≤y)):=rfl
theorem EQ {σ:AS}:cmpV σ .gt (.d (.int ((0:Nat):Int))) (.d (.int 0))=some false:=rfl
theorem B6 {σ:AS} {k:Nat}:cmpV σ .gt (.d (.int ((k + 1:Nat):Int))) (.d (.int 0))=some true:=by rw [nP]; simp
theorem su {σ:AS} {x y:Int} (h:x > y):cmpV σ .gt (.d (.int x)) (.d (.int y))=some true:=by rw [nP]; simp [h]
theorem Cq {σ:AS} {x y:Int} (h:¬ x > y):cmpV σ .gt (.d (.int x)) (.d (.int y))=some false:=by rw [nP]; simp; exact Bn ‹_›
theorem z5 {σ:AS} {x y:Int} (h:x < y):cmpV σ .lt (.d (.int x)) (.d (.int y))=some true:=by rw [sD]; simp [h]
theorem B5 {σ:AS} {x y:Int} (h:¬ x < y):cmpV σ .lt (.d (.int x)) (.d (.int y))=some false:=by rw [sD]; simp; exact Bn ‹_›
theorem qN {σ:AS} {x y:Int} (h:x≤y):cmpV σ .le (.d (.int x)) (.d (.int y))=some true:=by rw [wM]; simp [h]
theorem sg {σ:AS} {x y:Int} (h:¬ x≤y):cmpV σ .le (.d (.int x)) (.d (.int y))=some false:=by rw [wM]; simp; exact ze ‹_›
theorem mD {σ:AS} {x y:Int} (h:x=y):cmpV σ .eq (.d (.int x)) (.d (.int y))=some true:=by rw [tO]; simp [h]
theorem li {σ:AS} {x y:Int} (h:x≠y):cmpV σ .eq (.d (.int x)) (.d (.int y))=some false:=by rw [tO]; simp [h]
theorem Eu {σ:AS} {x y:Int} (h:x≠y):cmpV σ .ne (.d (.int x)) (.d (.int y))=some true:=by rw [q8]; simp [h]
theorem zK {σ:AS} {x y:Int} (h:x=y):cmpV σ .ne (.d (.int x)) (.d (.int y))=some false:=by rw [q8]; simp [h]
theorem cg {x y:Int}:binD .add (.int x) (.int y)=some (.int (x + y)):=rfl
theorem mL {x y:Int}:binD .sub (.int x) (.int y)=some (.int (x - y)):=rfl
section
variable {W n b:Nat} {σ:AS} {D:Dia} {nd:Nd}
theorem jb {v:PyData} (h:HoldsAt b D σ.heap) (F:Fits D) (O:mo D) (hv:Val v):callF prog W (n + 16) 3 [.o b,.d v] σ=some (.d (iD (D.keep (.leaf v)).2),{ σ with heap:=bQ b (D.keep (.leaf v)).1 σ.heap }):=by
 rw [bh (fd:=⟨2,2,b_leaf⟩) rfl rfl]
 have k:=@oQ W n b { loc:=[some (.o b),some (.d v)],out:=[],heap:=σ.heap } D (.leaf v) h F O hv
 simp only [Nd.enc,cJ] at k
 simp only [b_leaf,aq,am,aO,cC,af,bF,aG,ai,ag,aE,aP,aW,cM,eM,aR,cT,cn,cj,az,AS.freezeAll,List.getElem?_cons_zero,List.getElem?_cons_succ,List.map_cons,List.map_nil,List.cons_append,List.nil_append,List.replicate,Nat.reduceSub,h.self,k,gM fJ]
noncomputable def joinStep (acc:List (Nat×Nat)) (p:Nat×Nat):List (Nat×Nat):=match acc.getLast? with
 | some q=>if q.2=p.2 then acc.dropLast++[p] else acc++[p]
 | none=>acc++[p]
noncomputable def aZ:Int→List (Nat×Nat)→Prop
 | _,[]=>True
 | a,p :: ps=>a < p.1∧aZ p.1 ps
noncomputable def aN:Int→List (Nat×Nat)→Int
 | a,[]=>a
 | _,p :: ps=>aN p.1 ps
noncomputable def Dia.make (D:Dia) (x:Nat) (ps:List (Nat×Nat)):Dia×Nat:=match ps.foldl joinStep [] with
 | [q]=>(D,q.2)
 | js=>D.keep (.inner x js)
noncomputable def lN (b x:Nat) (pv:AV) (top:Nat) (K:List AO) (a:Int) (h6 h7:Option AV) (acc:List (Nat×Nat)):AS:=
 { loc:=[some (.o b),some (.d (iD x)),some pv,some (.o K.length),some (.d (iD top)),some (.d (.int a)),h6,h7,none,none,none],out:=[],heap:=K++[.list (acc.map partD)] }
theorem uz {x:Nat} {pv:AV} {top:Nat} {K:List AO} {a:Int} {h6 h7:Option AV} {acc:List (Nat×Nat)} {p:Nat×Nat} (ha:a < p.1) (hl:acc.length≤100):
  forTurn prog W (n + 12) (.tup [.loc 6,.loc 7]) [.assign (.loc 5) (.ife (.cmp .gt (.loc 6) (.loc 5)) (.loc 6) (.bin .add (.loc 4) (.int 1))),
   .ite (.conj (.cmp .gt (.len (.loc 3)) (.int 0)) (.cmp .eq (.sub (.sub (.loc 3) (.neg (.int 1))) (.int 1)) (.loc 7)))
    [.setSub (.loc 3) (.neg (.int 1)) (.tup [(.loc 6),(.loc 7)])]
    [.expr (.append (.loc 3) (.tup [(.loc 6),(.loc 7)]))]] (partD p) (lN b x pv top K a h6 h7 acc)=some (.next,lN b x pv top K p.1 (some (.d (iD p.1))) (some (.d (iD p.2))) (joinStep acc p)):=by
 have h1:(p.1:Int) > a:=ha
 rcases List.eq_nil_or_concat acc with rfl | ⟨l,q,rfl⟩
 ·simp only [forTurn,lN,partD,joinStep,aq,am,av,bw,aS,aK,ay,dO,af,aQ,cW,aH,br,aD,aG,aC,b8,ai,ag,ae,aA,ax,au,aE,aP,bJ,aW,aV,aL,cM,bZ,ie,dW,aR,cU,db,ri,bG,iU,jr,bf,AS.setLoc,az,AS.freezeAll,AS.put,List.getElem?_cons_zero,List.getElem?_cons_succ,List.set_cons_zero,List.set_cons_succ,List.length_nil,List.map_cons,List.map_nil,List.nil_append,Nat.reduceLT,if_true,EQ,su h1,eS,gW,dz,cB,List.getLast?_nil,Nat.zero_le]
 ·simp only [List.concat_eq_append] at hl ⊢
  have l0:l.length≤100:=by simp at hl; exact zb1 ‹_› rfl
  have l1:l.length + 1≤2000000:=by exact tX ‹_› rfl
  have l2:l.length + 1 < 1000000:=by exact y8 ‹_› rfl
  have l3:(l.map partD).length≤900000:=by simp; exact zb1 ‹_› rfl
  by_cases e:q.2=p.2
  ·simp only [forTurn,lN,joinStep,aq,am,av,bw,aS,aK,ay,dO,af,aQ,cW,aH,br,aD,aG,aC,b8,ai,ag,ae,aA,ax,au,aE,aP,bJ,aW,aV,aY,aL,bZ,ie,aR,cU,kI,bG,iU,jr,bf,tS,AS.setLoc,az,AS.freezeAll,AS.put,List.getElem?_cons_zero,List.getElem?_cons_succ,List.set_cons_zero,List.set_cons_succ,List.length_cons,List.length_nil,List.map_cons,List.map_nil,Nat.reduceAdd,if_true,mD (show (p.2:Int)=p.2 from rfl),qj,B6,su h1,eS,gW,dz,cB,List.getLast?_append,List.getLast?_singleton,Option.some_or,e,List.dropLast_concat,bz,eO,jK,List.map_append,List.length_append,List.length_map,l1,gL l3,partD,si,mZ,xF,oA (by exact zb1 ‹_› rfl:l.length≤900000)]
  ·simp only [forTurn,lN,joinStep,aq,am,av,bw,aS,aK,ay,dO,af,aQ,cW,aH,br,aD,aG,aC,b8,ai,ag,ae,aA,ax,au,aE,aP,bJ,aW,aV,aY,aL,cM,bZ,ie,dW,aR,cU,db,kI,bG,iU,jr,bf,AS.setLoc,az,AS.freezeAll,AS.put,List.getElem?_cons_zero,List.getElem?_cons_succ,List.set_cons_zero,List.set_cons_succ,List.length_cons,List.length_nil,List.map_cons,List.map_nil,Nat.reduceAdd,if_true,reduceIte,li (show (q.2:Int)≠p.2 by exact uZ ‹_›),B6,su h1,eS,gW,dz,cB,List.getLast?_append,List.getLast?_singleton,Option.some_or,e,List.dropLast_concat,bz,eO,jK,List.map_append,List.length_append,List.length_map,l1,l2,gL l3,partD,si]
theorem ku {acc:List (Nat×Nat)} {p:Nat×Nat}:(joinStep acc p).length≤acc.length + 1:=by
 unfold joinStep
 split
 ·split
  ·simp
  ·simp
 ·simp
theorem oU:∀ {ps acc:List (Nat×Nat)},(ps.foldl joinStep acc).length≤acc.length + ps.length
 | [],_=>by simp
 | p :: ps,acc=>by
  have h1:=oU (ps:=ps) (acc:=joinStep acc p)
  have h2:=ku (acc:=acc) (p:=p)
  simp only [List.foldl_cons,List.length_cons]; lia
theorem lP {acc:List (Nat×Nat)} {p:Nat×Nat}:joinStep acc p≠[]:=by
 unfold joinStep
 split
 ·split <;> simp
 ·simp
theorem qQ:∀ {ps acc:List (Nat×Nat)},acc≠[]→ps.foldl joinStep acc≠[]
 | [],_,h=>h
 | p :: ps,acc,h=>qQ (ps:=ps) lP
theorem oO {x:Nat} {pv:AV} {top:Nat} {K:List AO}:∀ {ps:List (Nat×Nat)} {a:Int} {h6 h7:Option AV} {acc:List (Nat×Nat)},aZ a ps→acc.length + ps.length≤100→
  ∃ h6' h7',forItems (forTurn prog W (n + 12) (.tup [.loc 6,.loc 7]) [.assign (.loc 5) (.ife (.cmp .gt (.loc 6) (.loc 5)) (.loc 6) (.bin .add (.loc 4) (.int 1))),
   .ite (.conj (.cmp .gt (.len (.loc 3)) (.int 0)) (.cmp .eq (.sub (.sub (.loc 3) (.neg (.int 1))) (.int 1)) (.loc 7)))
    [.setSub (.loc 3) (.neg (.int 1)) (.tup [(.loc 6),(.loc 7)])]
    [.expr (.append (.loc 3) (.tup [(.loc 6),(.loc 7)]))]]) (ps.map partD) (lN b x pv top K a h6 h7 acc)=some (.next,lN b x pv top K (aN a ps) h6' h7' (ps.foldl joinStep acc))
 | [],a,h6,h7,acc,_,_=>(bV h6 h7 rfl)
 | p :: ps,a,h6,h7,acc,hr,hl=>by
  simp only [List.length_cons] at hl
  refine cG (oO (x:=x) (pv:=pv) (top:=top) (K:=K) (ps:=ps) (a:=p.1) (h6:=some (.d (iD p.1))) (h7:=some (.d (iD p.2))) (acc:=joinStep acc p) hr.2 (by have:=ku (acc:=acc) (p:=p); exact DM ‹_› ‹_›)) fun u v e=>?_
  refine (bV u v ?_)
  simp only [List.map_cons,forItems,uz hr.1 (show acc.length≤100 by exact lC ‹_›),List.foldl_cons,aN]
  exact e
theorem qI {x:Nat} {pv:AV} {top:Nat} {K:List AO} {ps:List (Nat×Nat)} (h:HoldsAt b D σ.heap) (hK:HoldsAt b D K) (hlen:K.length=σ.heap.length) (hc:aI K=true) (F:Fits D) (O:mo D)
  (hfr:∀ (loc out:List (Option AV)) (T:List AO),AS.freeze { loc:=loc,out:=out,heap:=σ.heap++T } pv=some (.list (ps.map partD),{ loc:=loc,out:=out,heap:=K++T }))
  (ht:D.tops[x]?=some top) (hr:aZ (-1) ps) (hlast:aN (-1) ps=top) (hl:ps.length≤100):
  callF prog W (n + 24) 4 [.o b,.d (iD x),pv] σ=some (.d (iD (D.make x ps).2),{ σ with heap:=bQ b (D.make x ps).1 K }):=by
 rw [bh (fd:=⟨3,11,b_make⟩) rfl rfl]
 have h0:=h.app [.list []]
 have it:itemAt (D.tops.map iD) (x:Int)=some (iD top):=by
  refine dB F.tops fun ta tb tc e zz=>?_
  refine dy (by simp [ht]) (by rw [e]; simp)
 refine cG (oO (W:=W) (n:=n + 6) (b:=b) (x:=x) (pv:=pv) (top:=top) (K:=K) (h6:=none) (h7:=none) (acc:=[]) hr (by simp; exact hl)) fun u v loop=>?_
 have h2:=hK.app [.list ((ps.foldl joinStep []).map partD)]
 have jl:(ps.foldl joinStep []).length≤100:=Nat.le_trans oU (by simp; exact hl)
 simp only [lN,List.map_nil,hlast] at loop
 simp only [hlen] at loop
 have gA:(K++[AO.list ((ps.foldl joinStep []).map partD)])[σ.heap.length]?=some (.list ((ps.foldl joinStep []).map partD)):=by rw [← hlen]; exact eS
 simp only [b_make,aq,am,av,aK,bm,aO,fP,ay,dO,af,bl,bF,br,iM,aD,aG,bg,aC,ai,ag,bq,ae,aE,aP,aW,aY,aL,fA,cM,bZ,ie,eM,aR,bG,ef,bf,AS.setLoc,AS.freezeAll,AS.alloc,List.getElem?_cons_zero,List.getElem?_cons_succ,List.set_cons_zero,List.set_cons_succ,List.map_cons,List.map_nil,List.cons_append,List.nil_append,List.replicate,Nat.reduceSub,h0.self,bz,topsD,it,hfr,loop]
 simp only [aE,aV,aR,db,bG,iU,jr,List.getElem?_cons_zero,List.getElem?_cons_succ,zK (show (top:Int)=top from rfl),gA,List.length_map,dz,if_pos (show (ps.foldl joinStep []).length≤2000000 by exact zb1 ‹_› rfl)]
 unfold Dia.make
 induction hj:ps.foldl joinStep [] using List.casesOn with
 | nil=>
  exfalso
  induction ps using List.casesOn with
  | nil=>simp only [aN] at hlast; lia
  | cons p ps=>exact qQ (ps:=ps) (lP (acc:=[]) (p:=p)) hj
 | cons q r=>
  rw [hj] at jl
  simp only [hj] at h2 gA
  induction r using List.casesOn with
  | nil=>
   have e1:(((0 + 1:Nat):Int))=1:=rfl
   simp only [List.map_cons,List.map_nil,partD] at gA
   simp only [aE,aV,aY,aR,cU,cT,cn,cj,List.getElem?_cons_zero,List.getElem?_cons_succ,List.length_cons,List.length_nil,List.map_cons,List.map_nil,Nat.reduceAdd,mD e1,gA,bz,eO,jK,z9,partD,si]
   rw [gN hc hlen.symm,hK.upd_self]
  | cons q' r=>
   have e1:((r.length + 1 + 1:Nat):Int)≠1:=by lia
   simp only [List.length_cons] at jl
   have hk:(Nd.inner x (q :: q' :: r)).Ok:=trivial
   have k:=@oQ W (n + 2) b { loc:=[some (.o b),some (.d (iD x)),some pv,some (.o σ.heap.length),some (.d (iD top)),some (.d (iD top)),u,v,none,none,none],out:=[],heap:=K++[.list ((q :: q' :: r).map partD)] } D (.inner x (q :: q' :: r)) h2 F O hk
   simp only [Nd.enc,List.map_cons] at k
   simp only [List.map_cons] at gA h2
   simp only [aE,aP,aW,aV,cM,dW,eM,aR,wR,db,bG,cT,cn,cj,az,xP,AS.freezeAll,List.getElem?_cons_zero,List.getElem?_cons_succ,List.length_cons,List.map_cons,li e1,gA,h2.self,List.length_map,if_pos (show r.length + 1 + 1≤2000000 by exact zb1 ‹_› rfl),k]
   rw [mR hK,gN (b9 hc) (by rw [fJ]; exact hlen.symm)]
theorem qJ {x top:Nat} {ps:List (Nat×Nat)} (h:HoldsAt b D σ.heap) (hc:aI σ.heap=true) (F:Fits D) (O:mo D)
  (ht:D.tops[x]?=some top) (hr:aZ (-1) ps) (hlast:aN (-1) ps=top) (hl:ps.length≤100):
  callF prog W (n + 24) 4 [.o b,.d (iD x),.d (.list (ps.map partD))] σ=some (.d (iD (D.make x ps).2),{ σ with heap:=bQ b (D.make x ps).1 σ.heap }):=
 qI h h rfl hc F O (fun zz zz zz=>rfl) ht hr hlast hl
theorem lM {x top k:Nat} {ps:List (Nat×Nat)} (h:HoldsAt b D σ.heap) (hc:aI σ.heap=true) (F:Fits D) (O:mo D) (hk:σ.heap[k]?=some (.list (ps.map partD))) (hb:b + 4≤k)
  (ht:D.tops[x]?=some top) (hr:aZ (-1) ps) (hlast:aN (-1) ps=top) (hl:ps.length≤100):
  callF prog W (n + 24) 4 [.o b,.d (iD x),.o k] σ=some (.d (iD (D.make x ps).2),{ σ with heap:=bQ b (D.make x ps).1 (σ.heap.set k .dead) }):=by
 refine qI h ⟨?_,?_,?_,?_⟩ (by simp) (closed_set rfl hc) F O (fun loc out T=>?_) ht hr hlast hl
 ·rw [fU (by exact Dz ‹_›),h.self]
 ·rw [fU (by lia),h.nodes]
 ·rw [fU (by lia),h.book]
 ·rw [fU (by lia),h.memo]
 ·rw [qU (show ({ loc:=loc,out:=out,heap:=σ.heap++T }:AS).heap[k]?=_ from kA hk)]
  simp only [AS.put,yK hk]
end
noncomputable def qe:List (Nat×Nat)→List (Nat×Nat)
 | [x,y]=>if y.1 < x.1∨(y.1=x.1∧y.2 < x.2) then [y,x] else [x,y]
 | xs=>xs
noncomputable def du (found:List (Nat×Nat)) (p:Nat×Nat):List (Nat×Nat):=match found.getLast? with
 | some q=>if p.1≤q.2 + 1 then (if p.2 > q.2 then found.dropLast++[(q.1,p.2)] else found) else found++[p]
 | none=>[p]
noncomputable def tidyP (sp:List (Nat×Nat)):List (Nat×Nat):=(qe sp).foldl du []
theorem ow:∀ (sp:List (Nat×Nat)),(qe sp).length=sp.length
 | []=>rfl
 | [_]=>rfl
 | [x,y]=>by
  show (if y.1 < x.1∨(y.1=x.1∧y.2 < x.2) then [y,x] else [x,y]).length=2
  split <;> rfl
 | _ :: _ :: _ :: _=>rfl
theorem xo {sp:List (Nat×Nat)} (h:sp.length=1∨sp.length=2):qf (sp.map partD)=some ((qe sp).map partD):=by
 match sp,h with
 | [x],_=>rfl
 | [x,y],_=>
  show (match (some (decide ((y.1:Int) < x.1∨((y.1:Int)=x.1∧(y.2:Int) < x.2))):Option Bool) with | some true=>some [partD y,partD x] | some false=>some [partD x,partD y] | none=>none)=some ((if y.1 < x.1∨(y.1=x.1∧y.2 < x.2) then [y,x] else [x,y]).map partD)
  by_cases e:y.1 < x.1∨(y.1=x.1∧y.2 < x.2)
  ·have:decide ((y.1:Int) < x.1∨((y.1:Int)=x.1∧(y.2:Int) < x.2))=true:=decide_eq_true (e.imp Int.ofNat_lt.mpr fun h=>⟨congrArg _ h.1,Int.ofNat_lt.mpr h.2⟩)
   rw [this,if_pos e]; rfl
  ·have:decide ((y.1:Int) < x.1∨((y.1:Int)=x.1∧(y.2:Int) < x.2))=false:=decide_eq_false fun h=>e (h.imp Int.ofNat_lt.mp fun h=>⟨Int.ofNat_inj.mp h.1,Int.ofNat_lt.mp h.2⟩)
   rw [this,if_neg e]; rfl
 | [],h=>simp at h
 | _ :: _ :: _ :: _,h=>simp at h
section
variable {W n b:Nat} {σ:AS} {D:Dia} {nd:Nd}
noncomputable def jZ (sv:AV) (K:List AO) (h2 h3:Option AV) (acc:List (Nat×Nat)):AS:=
 { loc:=[some sv,some (.o K.length),h2,h3,none],out:=[],heap:=K++[.list (acc.map partD)] }
theorem vx {σ:AS} {k:Nat} (h:σ.heap[k]?=some (.list [])):truthV σ (.o k)=some false:=by
 unfold truthV; simp only [AS.look,h]; rfl
theorem vw {σ:AS} {k:Nat} {xs:List PyData} {x:PyData} (h:σ.heap[k]?=some (.list (xs++[x]))) (hl:xs.length≤100000):truthV σ (.o k)=some true:=by
 unfold truthV; simp only [AS.look,h]; refine (if_pos (by simp [dz]; exact zb1 ‹_› rfl)).trans ?_; simp
theorem ub {sv:AV} {K:List AO} {h2 h3:Option AV} {acc:List (Nat×Nat)} {p:Nat×Nat} (hl:acc.length≤100):
  forTurn prog W (n + 12) (.tup [(.loc 2),(.loc 3)]) [.ite (.conj (.loc 1) (.cmp .le (.loc 2) (.bin .add (.sub (.sub (.loc 1) (.neg (.int 1))) (.int 1)) (.int 1))))
    [.ite (.cmp .gt (.loc 3) (.sub (.sub (.loc 1) (.neg (.int 1))) (.int 1)))
      [.setSub (.loc 1) (.neg (.int 1)) (.tup [(.sub (.sub (.loc 1) (.neg (.int 1))) (.int 0)),(.loc 3)])]
      []]
    [.expr (.append (.loc 1) (.tup [(.loc 2),(.loc 3)]))]] (partD p) (jZ sv K h2 h3 acc)=some (.next,jZ sv K (some (.d (iD p.1))) (some (.d (iD p.2))) (du acc p)):=by
 rcases List.eq_nil_or_concat acc with rfl | ⟨l,q,rfl⟩
 ·have tt:∀ loc,truthV { loc:=loc,out:=[],heap:=K++[AO.list []] } (.o K.length)=some false:=fun loc=>vx eS
  simp only [forTurn,jZ,partD,du,aq,am,bw,aS,aK,ay,dO,af,aQ,aH,aD,aG,aC,b8,jf,ai,ag,ae,aA,ax,au,aE,aP,bJ,aW,aV,aL,cM,bZ,ie,dW,aR,db,ri,bG,bf,AS.setLoc,az,AS.freezeAll,AS.put,List.getElem?_cons_zero,List.getElem?_cons_succ,List.set_cons_zero,List.set_cons_succ,List.length_nil,List.map_cons,List.map_nil,List.nil_append,Nat.reduceLT,if_true,eS,gW,cB,List.getLast?_nil,tt]
 ·simp only [List.concat_eq_append] at hl ⊢
  have l0:l.length≤100:=by simp at hl; exact zb1 ‹_› rfl
  have l2:l.length + 1 < 1000000:=by exact y8 ‹_› rfl
  have l3:(l.map partD).length≤900000:=by simp; exact zb1 ‹_› rfl
  have tt:∀ loc,truthV { loc:=loc,out:=[],heap:=K++[AO.list (l.map partD++[partD q])] } (.o K.length)=some true:=fun loc=>vw eS (by simp; exact zb1 ‹_› rfl)
  simp only [partD] at tt
  by_cases e:p.1≤q.2 + 1
  ·have e1:(p.1:Int)≤(q.2:Int) + 1:=by lia
   by_cases e':p.2 > q.2
   ·have e2:(p.2:Int) > q.2:=by exact Bs ‹_›
    simp only [forTurn,jZ,partD,du,aq,am,bw,aS,aK,ay,dO,af,aQ,aH,aD,aG,aC,b8,jf,ai,ag,ae,aA,ax,au,aE,aP,bJ,aW,aV,aY,aL,bZ,ie,aR,cU,kI,bG,bf,cV,tS,AS.setLoc,az,AS.freezeAll,AS.put,List.getElem?_cons_zero,List.getElem?_cons_succ,List.set_cons_zero,List.set_cons_succ,List.length_cons,List.length_nil,List.map_cons,List.map_nil,Nat.reduceAdd,if_true,eS,gW,cB,List.getLast?_append,List.getLast?_singleton,Option.some_or,e,e',List.dropLast_concat,bz,eO,jK,List.map_append,List.length_append,List.length_map,gL l3,sj,si,tt,qN e1,su e2,cg,mZ,xF,oA (by exact zb1 ‹_› rfl:l.length≤900000),qj]
   ·have e2:¬ (p.2:Int) > q.2:=by lia
    simp only [forTurn,jZ,partD,du,aq,am,bw,aS,aK,ay,dO,af,aQ,aH,aD,aG,aC,b8,jf,ai,ag,ae,aA,ax,au,aE,aP,aV,aY,aL,bZ,ie,aR,cU,db,kI,bG,bf,cV,AS.setLoc,AS.put,List.getElem?_cons_zero,List.getElem?_cons_succ,List.set_cons_zero,List.set_cons_succ,List.map_cons,List.map_nil,if_true,reduceIte,eS,cB,List.getLast?_append,List.getLast?_singleton,Option.some_or,e,e',List.dropLast_concat,bz,eO,jK,List.map_append,gL l3,si,tt,qN e1,Cq e2,cg]
  ·have e1:¬ (p.1:Int)≤(q.2:Int) + 1:=by lia
   simp only [forTurn,jZ,partD,du,aq,am,bw,aS,aK,ay,dO,af,aQ,aH,aD,aG,aC,b8,jf,ai,ag,ae,aA,ax,au,aE,aP,bJ,aW,aV,aY,aL,cM,bZ,ie,dW,aR,db,kI,bG,bf,cV,AS.setLoc,az,AS.freezeAll,AS.put,List.getElem?_cons_zero,List.getElem?_cons_succ,List.set_cons_zero,List.set_cons_succ,List.length_cons,List.length_nil,List.map_cons,List.map_nil,Nat.reduceAdd,if_true,reduceIte,eS,gW,cB,List.getLast?_append,List.getLast?_singleton,Option.some_or,e,List.dropLast_concat,bz,eO,jK,List.map_append,List.length_append,List.length_map,l2,gL l3,si,tt,sg e1,cg]
theorem jY {acc:List (Nat×Nat)} {p:Nat×Nat}:(du acc p).length≤acc.length + 1:=by
 unfold du
 split
 ·split
  ·split
   ·simp
   ·simp
  ·simp
 ·simp
theorem oq {sv:AV} {K:List AO}:∀ {ps:List (Nat×Nat)} {h2 h3:Option AV} {acc:List (Nat×Nat)},acc.length + ps.length≤100→
  ∃ h2' h3',forItems (forTurn prog W (n + 12) (.tup [(.loc 2),(.loc 3)]) [.ite (.conj (.loc 1) (.cmp .le (.loc 2) (.bin .add (.sub (.sub (.loc 1) (.neg (.int 1))) (.int 1)) (.int 1))))
    [.ite (.cmp .gt (.loc 3) (.sub (.sub (.loc 1) (.neg (.int 1))) (.int 1)))
      [.setSub (.loc 1) (.neg (.int 1)) (.tup [(.sub (.sub (.loc 1) (.neg (.int 1))) (.int 0)),(.loc 3)])]
      []]
    [.expr (.append (.loc 1) (.tup [(.loc 2),(.loc 3)]))]]) (ps.map partD) (jZ sv K h2 h3 acc)=some (.next,jZ sv K h2' h3' (ps.foldl du acc))
 | [],h2,h3,acc,_=>(bV h2 h3 rfl)
 | p :: ps,h2,h3,acc,hl=>by
  simp only [List.length_cons] at hl
  refine cG (oq (sv:=sv) (K:=K) (ps:=ps) (h2:=some (.d (iD p.1))) (h3:=some (.d (iD p.2))) (acc:=du acc p) (by have:=jY (acc:=acc) (p:=p); exact DM ‹_› ‹_›)) fun u v e=>?_
  refine (bV u v ?_)
  simp only [List.map_cons,forItems,ub (show acc.length≤100 by exact lC ‹_›),List.foldl_cons]
  exact e
theorem uc {sp:List (Nat×Nat)} (hc:aI σ.heap=true) (hs:sp.length=1∨sp.length=2):callF prog W (n + 24) 0 [.d (.list (sp.map partD))] σ=some (.d (.list ((tidyP sp).map partD)),σ):=by
 rw [bh (fd:=⟨1,5,b_tidy⟩) rfl rfl]
 refine cG (oq (W:=W) (n:=n + 8) (sv:=.d (.list (sp.map partD))) (K:=σ.heap) (ps:=qe sp) (h2:=none) (h3:=none) (acc:=[]) (by rw [ow]; simp; lia)) fun u v loop=>?_
 simp only [jZ,List.map_nil] at loop
 simp only [b_tidy,aq,am,av,bm,aO,af,pH,bg,ai,bq,ae,aE,aP,bJ,aW,aL,gP,yz,dW,aR,bG,cT,ef,nR,bf,cj,AS.setLoc,az,dN,AS.freezeAll,AS.put,AS.alloc,List.getElem?_cons_zero,List.getElem?_cons_succ,List.set_cons_zero,List.set_cons_succ,List.map_cons,List.map_nil,List.cons_append,List.nil_append,List.replicate,Nat.reduceSub,xo hs,loop,eS,gW,di hc]
 rfl
noncomputable def testStep (top yes no:Nat) (s:List (Nat×Nat)×Nat) (p:Nat×Nat):List (Nat×Nat)×Nat:=
 if p.1≤top then ((if p.1 > s.2 then s.1++[(p.1 - 1,no)] else s.1)++[(min p.2 top,yes)],p.2 + 1) else s
noncomputable def testParts (top yes no:Nat) (sp:List (Nat×Nat)):List (Nat×Nat):=
 let s:=(tidyP sp).foldl (testStep top yes no) ([],0)
 if s.2≤top then s.1++[(top,no)] else s.1
noncomputable def lE (b x yes no top:Nat) (sv:AV) (K:List AO) (h8 h9:Option AV) (s:List (Nat×Nat)×Nat):AS:=
 { loc:=[some (.o b),some (.d (iD x)),some sv,some (.d (iD yes)),some (.d (iD no)),some (.d (iD top)),some (.o K.length),some (.d (iD s.2)),h8,h9,none,none,none],out:=[],heap:=K++[.list (s.1.map partD)] }
theorem iZ (a b:Nat):(if (b:Int) < a then (b:Int) else a)=((min a b:Nat):Int):=by
 split <;> lia
theorem pw {a:Nat} (h:a > 0):((a:Int) - 1)=((a - 1:Nat):Int):=by lia
theorem ud {x yes no top:Nat} {sv:AV} {K:List AO} {h8 h9:Option AV} {s:List (Nat×Nat)×Nat} {p:Nat×Nat} (hl:s.1.length≤100):
  ∃ h8' h9',forTurn prog W (n + 12) (.tup [(.loc 8),(.loc 9)]) [.ite (.cmp .le (.loc 8) (.loc 5))
    [.ite (.cmp .gt (.loc 8) (.loc 7))
      [.expr (.append (.loc 6) (.tup [(.bin .sub (.loc 8) (.int 1)),(.loc 4)]))]
      [],
     .expr (.append (.loc 6) (.tup [(.min2 (.loc 9) (.loc 5)),(.loc 3)])),
     .assign (.loc 7) (.bin .add (.loc 9) (.int 1))]
    []] (partD p) (lE b x yes no top sv K h8 h9 s)=some (.next,lE b x yes no top sv K h8' h9' (testStep top yes no s p)):=by
 refine (bV (some (.d (iD p.1))) (some (.d (iD p.2))) ?_)
 by_cases e:p.1≤top
 ·have e1:(p.1:Int)≤top:=by exact xb ‹_›
  by_cases e':p.1 > s.2
  ·have e2:(p.1:Int) > s.2:=by exact Bs ‹_›
   simp only [forTurn,lE,partD,testStep,aq,am,av,aS,aK,ay,af,aQ,aH,eA,aG,aC,ai,ag,ae,aA,ax,au,aE,aP,bJ,aW,aV,aY,aL,cM,ie,dW,aR,cU,bG,bf,cV,sI,AS.setLoc,az,AS.freezeAll,AS.put,List.getElem?_cons_zero,List.getElem?_cons_succ,List.set_cons_zero,List.set_cons_succ,List.length_cons,List.length_nil,List.map_cons,List.map_nil,Nat.reduceAdd,if_true,eS,gW,cB,List.map_append,List.length_append,List.length_map,qN e1,su e2,e,e',mL,cg,iZ,pw (show p.1 > 0 by exact DP ‹_›),if_pos (show s.1.length < 1000000 by exact og ‹_› rfl),if_pos (show s.1.length + 1 < 1000000 by exact y8 ‹_› rfl)]
   rfl
  ·have e2:¬ (p.1:Int) > s.2:=by lia
   simp only [forTurn,lE,partD,testStep,aq,am,av,aS,aK,ay,af,aQ,aH,eA,aG,aC,ai,ag,ae,aA,ax,au,aE,aP,bJ,aW,aV,aY,aL,cM,ie,dW,aR,cU,db,bG,bf,cV,AS.setLoc,az,AS.freezeAll,AS.put,List.getElem?_cons_zero,List.getElem?_cons_succ,List.set_cons_zero,List.set_cons_succ,List.map_cons,List.map_nil,if_true,reduceIte,eS,gW,cB,List.map_append,List.length_map,qN e1,Cq e2,e,e',cg,iZ,if_pos (show s.1.length < 1000000 by exact og ‹_› rfl)]
   rfl
 ·have e1:¬ (p.1:Int)≤top:=by exact Dh ‹_›
  simp only [forTurn,lE,partD,testStep,aq,am,av,aS,aK,ay,af,aQ,aH,eA,aG,aC,ai,ag,ae,aA,ax,au,aE,aP,aV,aL,aR,db,bG,bf,AS.setLoc,AS.put,List.getElem?_cons_zero,List.getElem?_cons_succ,List.set_cons_zero,List.set_cons_succ,reduceIte,cB,sg e1,e]
theorem j0 {top yes no:Nat} {s:List (Nat×Nat)×Nat} {p:Nat×Nat}:(testStep top yes no s p).1.length≤s.1.length + 2:=by
 unfold testStep
 split
 ·split <;> simp
 ·simp
theorem ou {x yes no top:Nat} {sv:AV} {K:List AO}:∀ {ps:List (Nat×Nat)} {h8 h9:Option AV} {s:List (Nat×Nat)×Nat},s.1.length + 2 * ps.length≤100→
  ∃ h8' h9',forItems (forTurn prog W (n + 12) (.tup [(.loc 8),(.loc 9)]) [.ite (.cmp .le (.loc 8) (.loc 5))
    [.ite (.cmp .gt (.loc 8) (.loc 7))
      [.expr (.append (.loc 6) (.tup [(.bin .sub (.loc 8) (.int 1)),(.loc 4)]))]
      [],
     .expr (.append (.loc 6) (.tup [(.min2 (.loc 9) (.loc 5)),(.loc 3)])),
     .assign (.loc 7) (.bin .add (.loc 9) (.int 1))]
    []]) (ps.map partD) (lE b x yes no top sv K h8 h9 s)=some (.next,lE b x yes no top sv K h8' h9' (ps.foldl (testStep top yes no) s))
 | [],h8,h9,s,_=>(bV h8 h9 rfl)
 | p :: ps,h8,h9,s,hl=>by
  simp only [List.length_cons] at hl
  refine cG (ud (W:=W) (n:=n) (b:=b) (x:=x) (yes:=yes) (no:=no) (top:=top) (sv:=sv) (K:=K) (h8:=h8) (h9:=h9) (p:=p) (show s.1.length≤100 by exact lC ‹_›)) fun u v t=>?_
  refine cG (ou (x:=x) (yes:=yes) (no:=no) (top:=top) (sv:=sv) (K:=K) (ps:=ps) (h8:=u) (h9:=v) (s:=testStep top yes no s p) (by have:=j0 (top:=top) (yes:=yes) (no:=no) (s:=s) (p:=p); lia)) fun u' v' e=>?_
  refine (bV u' v' ?_)
  simp only [List.map_cons,forItems,t,List.foldl_cons]
  exact e
theorem c8 {H T:List AO} (h:aI H=true) (ht:∀ o∈T,plainO o=true):aI (H++T)=true:=by
 unfold aI at h ⊢
 rw [List.all_eq_true] at h ⊢
 intro o m
 rcases List.mem_append.mp m with m | m
 ·have:=h o m
  induction o using AO.casesOn with
  | inst fs=>
   simp only [List.all_eq_true] at this ⊢
   intro f hf
   have:=this f hf
   induction f using AV.casesOn with
   | d _=>rfl
   | o k=>simp at this ⊢; exact Fy ‹_›
  | _=>rfl
 ·have:=ht o m
  induction o using AO.casesOn with
  | inst _=>exact fT this
  | _=>rfl
theorem ot {sp:List (Nat×Nat)}:(tidyP sp).length≤sp.length:=by
 have:∀ (ps acc:List (Nat×Nat)),(ps.foldl du acc).length≤acc.length + ps.length:=by
  intro ps
  induction ps with
  | nil=>intro acc; simp
  | cons p ps ih=>intro acc; have h1:=ih (du acc p); have h2:=jY (acc:=acc) (p:=p); simp only [List.foldl_cons,List.length_cons]; lia
 have:=this (qe sp) []
 rw [ow] at this
 simpa [tidyP] using this
theorem ue {x yes no top:Nat} {ny nn:Nd} {sp:List (Nat×Nat)} (h:HoldsAt b D σ.heap) (hc:aI σ.heap=true) (F:Fits D) (O:mo D) (hs:sp.length=1∨sp.length=2)
  (hy:D.nodes[yes]?=some ny) (hn:D.nodes[no]?=some nn) (ly:x < ny.lev) (ln:x < nn.lev) (ht:D.tops[x]?=some top)
  (hr:aZ (-1) (testParts top yes no sp)) (hlast:aN (-1) (testParts top yes no sp)=top):
  callF prog W (n + 40) 9 [.o b,.d (iD x),.d (.list (sp.map partD)),.d (iD yes),.d (iD no)] σ=some (.d (iD (D.make x (testParts top yes no sp)).2),{ σ with heap:=bQ b (D.make x (testParts top yes no sp)).1 σ.heap }):=by
 refine (bh (fd:=⟨5,13,b_test⟩) rfl rfl).trans ?_
 have it:itemAt (D.tops.map iD) (x:Int)=some (iD top):=by
  refine dB F.tops fun ta tb tc e zz=>?_
  refine dy (by simp [ht]) (by rw [e]; simp)
 have hy':∀ (loc:List (Option AV)) (m:Nat),callF prog W (m + 12) 6 [.o b,.d (iD yes)] { loc:=loc,out:=[],heap:=σ.heap }=some (.d (iD ny.lev),{ loc:=loc,out:=[],heap:=σ.heap }):=fun loc m=>iI (σ:={ loc:=loc,out:=[],heap:=σ.heap }) h F hy
 have hn':∀ (loc:List (Option AV)) (m:Nat),callF prog W (m + 12) 6 [.o b,.d (iD no)] { loc:=loc,out:=[],heap:=σ.heap }=some (.d (iD nn.lev),{ loc:=loc,out:=[],heap:=σ.heap }):=fun loc m=>iI (σ:={ loc:=loc,out:=[],heap:=σ.heap }) h F hn
 have hle:¬ (((min ny.lev nn.lev:Nat):Int)≤(x:Int)):=by lia
 have hc1:aI (σ.heap++[AO.list []])=true:=c8 hc (by simp [plainO])
 have h0:=h.app [.list []]
 have ht':∀ (loc:List (Option AV)) (m:Nat),callF prog W (m + 24) 0 [.d (.list (sp.map partD))] { loc:=loc,out:=[],heap:=σ.heap++[AO.list []] }=some (.d (.list ((tidyP sp).map partD)),{ loc:=loc,out:=[],heap:=σ.heap++[AO.list []] }):=fun loc m=>uc (σ:={ loc:=loc,out:=[],heap:=σ.heap++[AO.list []] }) hc1 hs
 refine cG (ou (W:=W) (n:=n + 21) (b:=b) (x:=x) (yes:=yes) (no:=no) (top:=top) (sv:=.d (.list (sp.map partD))) (K:=σ.heap) (ps:=tidyP sp) (h8:=none) (h9:=none) (s:=([],0)) (by have:=ot (sp:=sp); simp; lia)) fun u v loop=>?_
 simp only [lE,List.map_nil] at loop
 have z0:iD 0=.int 0:=rfl
 simp only [z0] at loop
 have fl:∀ (ps:List (Nat×Nat)) (s:List (Nat×Nat)×Nat),(ps.foldl (testStep top yes no) s).1.length≤s.1.length + 2 * ps.length:=by
  intro ps
  induction ps with
  | nil=>intro s; simp
  | cons p ps ih=>intro s; have h1:=ih (testStep top yes no s p); have h2:=j0 (top:=top) (yes:=yes) (no:=no) (s:=s) (p:=p); simp only [List.foldl_cons,List.length_cons]; lia
 have fl':=fl (tidyP sp) ([],0)
 have tl:=ot (sp:=sp)
 unfold testParts at hr hlast ⊢
 generalize (tidyP sp).foldl (testStep top yes no) ([],0)=s at *
 simp only [List.length_nil] at fl'
 by_cases e:s.2≤top
 ·have e1:(s.2:Int)≤top:=by exact xb ‹_›
  simp only [e,if_true] at hr hlast ⊢
  have h2:=h.app [.list (s.1.map partD++[partD (top,no)])]
  have hc2:aI (σ.heap++[.list (s.1.map partD++[partD (top,no)])])=true:=c8 hc (by simp [plainO])
  have k:=fun (loc:List (Option AV)) (m:Nat)=>lM (W:=W) (n:=m) (σ:={ loc:=loc,out:=[],heap:=σ.heap++[.list (s.1.map partD++[partD (top,no)])] }) (x:=x) (k:=σ.heap.length) (ps:=s.1++[(top,no)]) h2 hc2 F O (by refine (eS).trans ?_; simp) (by have:=h.lt; exact yF ‹_›) ht hr hlast (by simp; lia)
  simp only [partD] at k h2
  have sd:∀ (y:AO),(σ.heap++[y]).set σ.heap.length .dead=σ.heap++[.dead]:=fun y=>gW
  simp only [b_test,aq,am,av,aS,aK,bm,aO,fP,ay,af,bl,aM,bF,aH,eA,aD,aG,bg,aC,ai,ag,bq,ae,aE,aP,bJ,aW,aV,aY,aL,fA,cM,bZ,ie,dW,eM,aR,cU,db,bG,cT,ef,cn,bf,cj,AS.setLoc,az,AS.freezeAll,AS.put,AS.alloc,List.getElem?_cons_zero,List.getElem?_cons_succ,List.set_cons_zero,List.set_cons_succ,List.map_cons,List.map_nil,List.cons_append,List.nil_append,List.replicate,Nat.reduceSub,h.self,h2.self,hy',hn',iZ,sg hle,qN e1,bz,topsD,it,ht',loop,eS,gW,cB,List.length_map,if_pos (show s.1.length < 1000000 by lia),k,sd]
  rw [mR h,gN (b9 hc) (by rw [fJ])]
 ·have e1:¬ (s.2:Int)≤top:=by exact Dh ‹_›
  simp only [e,if_false] at hr hlast ⊢
  have h2:=h.app [.list (s.1.map partD)]
  have hc2:aI (σ.heap++[.list (s.1.map partD)])=true:=c8 hc (by simp [plainO])
  have k:=fun (loc:List (Option AV)) (m:Nat)=>lM (W:=W) (n:=m) (σ:={ loc:=loc,out:=[],heap:=σ.heap++[.list (s.1.map partD)] }) (x:=x) (k:=σ.heap.length) (ps:=s.1) h2 hc2 F O (eS) (by have:=h.lt; exact yF ‹_›) ht hr hlast (by lia)
  have sd:∀ (y:AO),(σ.heap++[y]).set σ.heap.length .dead=σ.heap++[.dead]:=fun y=>gW
  simp only [b_test,aq,am,av,aS,aK,bm,aO,fP,ay,af,bl,aM,bF,aH,eA,aD,aG,bg,aC,ai,ag,bq,ae,aE,aP,aW,aV,aY,aL,fA,cM,bZ,ie,eM,aR,db,bG,cT,ef,cn,bf,cj,AS.setLoc,az,AS.freezeAll,AS.put,AS.alloc,List.getElem?_cons_zero,List.getElem?_cons_succ,List.set_cons_zero,List.set_cons_succ,List.map_cons,List.map_nil,List.cons_append,List.nil_append,List.replicate,Nat.reduceSub,h.self,h2.self,hy',hn',iZ,sg hle,sg e1,bz,topsD,it,ht',loop,k,sd]
  rw [mR h,gN (b9 hc) (by rw [fJ])]
end
theorem ej {test:AS→Option (Bool×AS)} {body:AS→Option (Fl×AS)} {k:Nat} {σ aa ah:AS} (ht:test σ=some (true,aa)) (hb:body aa=some (.next,ah)):whileIt test body (k + 1) σ=whileIt test body k ah:=by
 simp only [whileIt,ht,hb]
theorem eB {test:AS→Option (Bool×AS)} {body:AS→Option (Fl×AS)} {k:Nat} {σ aa:AS} (ht:test σ=some (false,aa)):whileIt test body (k + 1) σ=some (.next,aa):=by
 simp only [whileIt,ht]
theorem pN {σ:AS} {i:Int}:cmpV σ .eq (.d cJ) (.d (.int i))=some false:=by refine (iR fM (iG i)).trans ?_; simp
noncomputable def Nd.side (nd:Nd) (i x top:Nat):List (Nat×Nat):=match nd with
 | .inner y ps=>if y=x then ps else [(top,i)]
 | .leaf _=>[(top,i)]
section
variable {W n b:Nat} {σ:AS} {D:Dia} {nd:Nd}
theorem jH {i x top:Nat} (h:HoldsAt b D σ.heap) (F:Fits D) (hn:D.nodes[i]?=some nd) (ht:D.tops[x]?=some top):callF prog W (n + 20) 7 [.o b,.d (iD i),.d (iD x)] σ=some (.d (.tuple ((nd.side i x top).map partD)),σ):=by
 refine (bh (fd:=⟨3,5,b_parts_at⟩) rfl rfl).trans ?_
 have it:itemAt (D.tops.map iD) (x:Int)=some (iD top):=by
  refine dB F.tops fun ta tb tc e zz=>?_
  refine dy (by simp [ht]) (by rw [e]; simp)
 have k:∀ (loc:List (Option AV)) (m:Nat),callF prog W (m + 8) 5 [.o b,.d (iD i)] { loc:=loc,out:=[],heap:=σ.heap }=some (.d nd.enc,{ loc:=loc,out:=[],heap:=σ.heap }):=fun loc m=>eL (σ:={ loc:=loc,out:=[],heap:=σ.heap }) h F hn
 induction nd using Nd.casesOn with
 | leaf v=>
  simp only [Nd.enc] at k
  have c:∀ σ:AS,cmpV σ .eq (.d cJ) (.d (iD x))=some false:=fun σ=>pN
  simp only [cJ] at c k
  simp only [b_parts_at,aq,am,av,aK,aO,af,bl,bF,aD,aG,aC,ai,ag,ae,aA,ax,au,aE,aP,aW,aV,aY,aL,fA,cM,bZ,eM,aR,db,bG,cT,cn,bf,cj,AS.setLoc,az,AS.freezeAll,List.getElem?_cons_zero,List.getElem?_cons_succ,List.set_cons_zero,List.set_cons_succ,List.map_cons,List.map_nil,List.cons_append,List.nil_append,List.replicate,Nat.reduceSub,h.self,k,c,bz,topsD,it,Nd.side,cf,partD]
 | inner y ps=>
  simp only [Nd.enc] at k
  by_cases e:y=x
  ·subst e
   simp only [b_parts_at,aq,am,av,aK,aO,af,bl,bF,aD,aG,aC,ai,ag,ae,aA,ax,au,aE,aP,aV,aL,cM,eM,aR,cU,bG,cT,cn,bf,cj,AS.setLoc,List.getElem?_cons_zero,List.getElem?_cons_succ,List.set_cons_zero,List.set_cons_succ,List.map_cons,List.map_nil,List.cons_append,List.nil_append,List.replicate,Nat.reduceSub,if_true,h.self,k,mD (show (y:Int)=y from rfl),topsD,Nd.side,cf]
  ·simp only [b_parts_at,aq,am,av,aK,aO,af,bl,bF,aD,aG,aC,ai,ag,ae,aA,ax,au,aE,aP,aW,aV,aY,aL,fA,cM,bZ,eM,aR,db,bG,cT,cn,bf,cj,AS.setLoc,az,AS.freezeAll,List.getElem?_cons_zero,List.getElem?_cons_succ,List.set_cons_zero,List.set_cons_succ,List.map_cons,List.map_nil,List.cons_append,List.nil_append,List.replicate,Nat.reduceSub,reduceIte,h.self,k,li (show (y:Int)≠x by exact uZ ‹_›),bz,topsD,it,Nd.side,cf,e,partD]
noncomputable def pieceD (p:Nat×Nat×Nat×Nat):PyData:=.tuple [iD p.1,.list [iD p.2.1,iD p.2.2.1,iD p.2.2.2]]
noncomputable def rH (h:Nat) (q:Nat×Nat) (t:List (Nat×Nat)):List (Nat×Nat):=if q.1=h then t else q :: t
noncomputable def mergeP:Nat→List (Nat×Nat)→List (Nat×Nat)→List (Nat×Nat)→List (Nat×Nat×Nat×Nat)
 | f + 1,bp :: be,bn :: ba,bk :: aX=>
  let h:=min (min bp.1 bn.1) bk.1
  (h,bp.2,bn.2,bk.2) :: mergeP f (rH h bp be) (rH h bn ba) (rH h bk aX)
 | _,_,_,_=>[]
theorem xK {a b c:List (Nat×Nat)}:mergeP 0 a b c=[]:=rfl
theorem xJ {f:Nat} {b c:List (Nat×Nat)}:mergeP (f + 1) [] b c=[]:=rfl
theorem Dp {f:Nat} {p q r:Nat×Nat} {a b c:List (Nat×Nat)}:mergeP (f + 1) (p :: a) (q :: b) (r :: c)=(min (min p.1 q.1) r.1,p.2,q.2,r.2) :: mergeP f (rH (min (min p.1 q.1) r.1) p a) (rH (min (min p.1 q.1) r.1) q b) (rH (min (min p.1 q.1) r.1) r c):=rfl
theorem tx (a b c:Nat):qG [(a:Int),(b:Int),(c:Int)]=some ((min (min a b) c:Nat):Int):=by
 simp only [qG,List.foldl_cons,List.foldl_nil]
 congr 1
 repeat' split
 all_goals lia
theorem yQ (a b c:Int):lh [.int a,.int b,.int c]=some [a,b,c]:=rfl
noncomputable def splitS (b x:Nat) (kv:AV) (sv:PyData) (K:List AO) (a:Int) (h7 h8 h9:Option AV) (g5 gZ gY:Nat) (acc:List (Nat×Nat×Nat×Nat)):AS:=
 { loc:=[some (.o b),some kv,some (.d (iD x)),some (.d sv),some (.o (K.length + 1)),some (.o (K.length + 2)),some (.d (.int a)),h7,h8,h9,none,none,none],out:=[],heap:=K++[.list [.int 0],.list [iD g5,iD gZ,iD gY],.list (acc.map pieceD)] }
theorem Cu {K:List AO} {x y z:AO}:(K++[x,y,z])[K.length + 1]?=some y:=by refine (List.getElem?_append_right (by exact rF)).trans ?_; simp
theorem Ct {K:List AO} {x y z:AO}:(K++[x,y,z])[K.length + 2]?=some z:=by refine (List.getElem?_append_right (by exact rF)).trans ?_; simp
theorem El {K:List AO} {x y z w:AO}:(K++[x,y,z]).set (K.length + 1) w=K++[x,w,z]:=by refine (List.set_append_right _ _ (by exact rF)).trans ?_; simp
theorem BM {K:List AO} {x y z w:AO}:(K++[x,y,z]).set (K.length + 2) w=K++[x,y,w]:=by refine (List.set_append_right _ _ (by exact rF)).trans ?_; simp
theorem BQ:eP 3 0=some 0:=rfl
theorem BP:eP 3 1=some 1:=rfl
theorem BN:eP 3 2=some 2:=rfl
noncomputable def splitBody:List S:=[.assign (.loc 8) (.comp 4 (.sub (.loc 2) (.sub (.out 4) (.loc 1))) [((.tup [(.loc 1),(.loc 2)]),(2,[(.loc 3)]),[])]),
   .assign (.loc 6) (.min1 (.comp 2 (.sub (.loc 1) (.int 0)) [((.loc 1),(0,[(.loc 8)]),[])])),
   .expr (.append (.loc 5) (.tup [(.loc 6),(.comp 2 (.sub (.loc 1) (.int 1)) [((.loc 1),(0,[(.loc 8)]),[])])])),
   .for (.tup [(.loc 7),(.loc 9)]) (2,[(.loc 8)])
    [.ite (.cmp .eq (.sub (.loc 9) (.int 0)) (.loc 6))
      [.augSub (.loc 4) (.loc 7) .add (.int 1)]
      []]]
theorem iX (p:Nat):((p:Int) + 1)=((p + 1:Nat):Int):=by exact rfl
theorem rR {x:Nat} {kv:AV} {K:List AO} {a:Int} {h7 h8 h9:Option AV} {aw ac ao:List (Nat×Nat)} {g5 gZ gY:Nat} {bp bn bk:Nat×Nat} {acc:List (Nat×Nat×Nat×Nat)}
  (Fa:aw[g5]?=some bp) (E9:ac[gZ]?=some bn) (E8:ao[gY]?=some bk) (B4:aw.length≤100) (B3:ac.length≤100) (B2:ao.length≤100) (hl:acc.length≤100):
  ∃ h7' h8' h9',whBody prog W (n + 20) splitBody (splitS b x kv (.list [.tuple (aw.map partD),.tuple (ac.map partD),.tuple (ao.map partD)]) K a h7 h8 h9 g5 gZ gY acc)=
   some (.next,splitS b x kv (.list [.tuple (aw.map partD),.tuple (ac.map partD),.tuple (ao.map partD)]) K ((min (min bp.1 bn.1) bk.1:Nat):Int) h7' h8' h9'
    (if bp.1=min (min bp.1 bn.1) bk.1 then g5 + 1 else g5) (if bn.1=min (min bp.1 bn.1) bk.1 then gZ + 1 else gZ) (if bk.1=min (min bp.1 bn.1) bk.1 then gY + 1 else gY)
    (acc++[(min (min bp.1 bn.1) bk.1,bp.2,bn.2,bk.2)])):=by
 refine (pC (some (.d (.int 2))) (some (.d (.list [partD bp,partD bn,partD bk]))) (some (.d (partD bk))) ?_)
 have ET:itemAt (aw.map partD) (g5:Int)=some (partD bp):=dy (by simp [Fa]) (by simp; exact zb1 ‹_› rfl)
 have ES:itemAt (ac.map partD) (gZ:Int)=some (partD bn):=dy (by simp [E9]) (by simp; exact zb1 ‹_› rfl)
 have ER:itemAt (ao.map partD) (gY:Int)=some (partD bk):=dy (by simp [E8]) (by simp; exact zb1 ‹_› rfl)
 generalize hm:min (min bp.1 bn.1) bk.1=h
 simp only [whBody,splitBody,splitS,aq,am,av,aS,bm,ay,af,bM,aH,nF,aD,aG,bu,bb,ai,ag,bq,ya,ae,aA,ax,au,aE,aP,bJ,aW,aY,aL,bZ,yz,aR,cU,bG,ef,bf,AS.setLoc,az,AS.put,List.getElem?_cons_zero,List.getElem?_cons_succ,List.set_cons_zero,List.set_cons_succ,List.length_cons,List.length_nil,List.cons_append,List.nil_append,List.replicate,Nat.reduceAdd,Nat.reduceLT,if_true,dz,cB,Nat.reduceLeDiff,compItems,bd,kE,Int.reduceAdd,Int.zero_add,dz,cB,Nat.reduceLeDiff,ET,ES,ER,bz,eO,jK,Cu,qR,it31,it32]
 have dh:∀ σ,cmpV σ .eq (.d (.int h)) (.d (.int h))=some true:=fun σ=>mD rfl
 have dn:∀ q:Nat,¬ q=h→∀ σ,cmpV σ .eq (.d (.int q)) (.d (.int h))=some false:=fun q e σ=>li (by exact uZ ‹_›)
 simp only [partD,sj,si,ay,af,aD,bb,ae,aE,aP,bJ,aW,aY,aL,y2,y1,cM,bZ,yz,dW,aR,cU,bG,ef,bf,AS.setLoc,az,AS.freezeAll,List.getElem?_cons_zero,List.getElem?_cons_succ,List.set_cons_zero,List.set_cons_succ,List.length_cons,List.length_nil,List.map_cons,List.map_nil,List.cons_append,List.nil_append,Nat.reduceAdd,Nat.reduceLT,if_true,cB,Nat.reduceLeDiff,yQ,tx,hm,Ct,BM,List.length_map,if_pos (show acc.length < 1000000 by exact og ‹_› rfl),pieceD,List.map_append,compItems,bd,bz,kE,Int.reduceAdd,Int.zero_add,Nat.reduceLeDiff]
 by_cases bj:bp.1=h <;> by_cases bx:bn.1=h <;> by_cases bH:bk.1=h <;>
  simp only [forItems,forTurn,bj,bx,bH,not_false_eq_true,dh,dn,sj,qR,it31,it32,aq,am,qW,aK,ay,af,aD,aC,ae,aA,ax,au,aE,aV,aY,aL,cM,bZ,ie,aR,cU,db,bG,CZ,bf,tS,AS.setLoc,AS.put,List.getElem?_cons_zero,List.getElem?_cons_succ,List.set_cons_zero,List.set_cons_succ,List.length_cons,List.length_nil,Nat.reduceAdd,if_true,bz,eO,jK,Cu,El,mZ,xF,BQ,BP,BN,cg,iX,if_false]
theorem fu:∀ {ps:List (Nat×Nat)} {a:Int},aZ a ps→a≤aN a ps
 | [],a,_=>Int.le_refl a
 | p :: ps,a,h=>by have:=fu h.2; have h1:=h.1; simp only [aN]; lia
theorem cz {p:Nat×Nat} {ps:List (Nat×Nat)} {a:Int} (h:aZ a (p :: ps)):(p.1:Int)≤aN a (p :: ps):=fu h.2
theorem mJ {α:Type} {s t:List α} {p:Nat} {q:α} (h:s.drop p=q :: t):s[p]?=some q∧s.drop (p + 1)=t:=by
 constructor
 ·have:=List.getElem?_drop (xs:=s) (i:=p) (j:=0)
  rw [h] at this; simpa using this.symm
 ·rw [← List.drop_drop,h]; rfl
theorem fi {h:Nat} {q:Nat×Nat} {t:List (Nat×Nat)} {a:Int} (hr:aZ a (q :: t)) (hh:h≤q.1):aZ h (rH h q t):=by
 unfold rH
 split
 ·rename_i e; rw [← e]; exact hr.2
 ·exact ⟨by lia,hr.2⟩
theorem gQ {h top:Nat} {q:Nat×Nat} {t:List (Nat×Nat)} {a:Int} (hl:aN a (q :: t)=top):aN h (rH h q t)=top:=by
 unfold rH
 split
 ·rename_i e; rw [← e]; exact hl
 ·exact hl
theorem nV {h:Nat} {s t:List (Nat×Nat)} {q:Nat×Nat} {p:Nat} (e:s.drop p=q :: t):s.drop (if q.1=h then p + 1 else p)=rH h q t:=by
 unfold rH
 split
 ·exact (mJ e).2
 ·exact e
noncomputable def splitTest:E:=.cmp .lt (.loc 6) (.sub (.attr (.loc 0) 0) (.loc 2))
theorem jD {x top:Nat} {kv:AV} {sv:PyData} {K:List AO} {a:Int} {h7 h8 h9:Option AV} {g5 gZ gY:Nat} {acc:List (Nat×Nat×Nat×Nat)} (h:HoldsAt b D K) (F:Fits D) (ht:D.tops[x]?=some top):
  whTest prog W (n + 8) splitTest (splitS b x kv sv K a h7 h8 h9 g5 gZ gY acc)=some (decide (a < top),splitS b x kv sv K a h7 h8 h9 g5 gZ gY acc):=by
 have it:itemAt (D.tops.map iD) (x:Int)=some (iD top):=by
  refine dB F.tops fun ta tb tc e zz=>?_
  refine dy (by simp [ht]) (by rw [e]; simp)
 have h1:=h.app [.list [.int 0],.list [iD g5,iD gZ,iD gY],.list (acc.map pieceD)]
 simp only [whTest,splitTest,splitS,af,bl,aD,aC,aE,aV,aY,fA,cM,bZ,eM,aR,List.getElem?_cons_zero,List.getElem?_cons_succ,h1.self,bz,topsD,it,sD]
theorem rS {x top:Nat} {kv:AV} {K:List AO} {aw ac ao:List (Nat×Nat)} (h:HoldsAt b D K) (F:Fits D) (ht:D.tops[x]?=some top) (B4:aw.length≤100) (B3:ac.length≤100) (B2:ao.length≤100):
  ∀ (f:Nat) {a:Int} {fL eX gi:List (Nat×Nat)} {g5 gZ gY:Nat} {acc:List (Nat×Nat×Nat×Nat)} {h7 h8 h9:Option AV} (k:Nat),aw.drop g5=fL→ac.drop gZ=eX→ao.drop gY=gi→aZ a fL→aZ a eX→aZ a gi→
   aN a fL=top→aN a eX=top→aN a gi=top→(top:Int) - a≤f→acc.length + f≤100→
   ∃ ti th tg h7' h8' h9',whileIt (whTest prog W (n + 20) splitTest) (whBody prog W (n + 20) splitBody) (k + f + 1) (splitS b x kv (.list [.tuple (aw.map partD),.tuple (ac.map partD),.tuple (ao.map partD)]) K a h7 h8 h9 g5 gZ gY acc)=
    some (.next,splitS b x kv (.list [.tuple (aw.map partD),.tuple (ac.map partD),.tuple (ao.map partD)]) K top h7' h8' h9' ti th tg (acc++mergeP f fL eX gi)):=by
 intro f
 induction f with
 | zero=>
  intro a fL eX gi g5 gZ gY acc h7 h8 h9 k Aq Ap Ao kP sM sL sQ sP sO hf hl
  have ha:=fu kP
  have e:a=top:=by lia
  subst e
  refine (pA g5 gZ gY h7 h8 h9 ?_)
  refine (eB ((jD (n:=n + 12) h F ht).trans (by simp; rfl))).trans ?_
  simp [xK,xJ,Dp]
 | succ f ih=>
  intro a fL eX gi g5 gZ gY acc h7 h8 h9 k Aq Ap Ao kP sM sL sQ sP sO hf hl
  by_cases e:a=top
  ·subst e
   refine (pA g5 gZ gY h7 h8 h9 ?_)
   refine (eB ((jD (n:=n + 12) h F ht).trans (by simp; rfl))).trans ?_
   have:fL=[]:=by
    induction fL using List.casesOn with
    | nil=>rfl
    | cons q t=>have:=cz kP; have h1:=kP.1; lia
   subst this
   simp [xK,xJ,Dp]
  ·have ha:=fu kP
   induction fL using List.casesOn with
   | nil=>simp only [aN] at sQ; lia
   | cons bp be=>induction eX using List.casesOn with
   | nil=>simp only [aN] at sP; lia
   | cons bn ba=>induction gi using List.casesOn with
   | nil=>simp only [aN] at sO; lia
   | cons bk aX=>
    refine bc fun hn=>?_
    refine n5 (rR (W:=W) (n:=n) (b:=b) (x:=x) (kv:=kv) (K:=K) (a:=a) (h7:=h7) (h8:=h8) (h9:=h9) (acc:=acc) (mJ Aq).1 (mJ Ap).1 (mJ Ao).1 B4 B3 B2 (by exact lC ‹_›)) fun u v w t=>?_
    have zN:min (min bp.1 bn.1) bk.1≤bp.1:=by exact zd
    have zM:min (min bp.1 bn.1) bk.1≤bn.1:=by exact Bl
    have zL:min (min bp.1 bn.1) bk.1≤bk.1:=by exact Dd
    have E6:=kP.1
    have E5:=sM.1
    have E4:=sL.1
    refine vf (ih (h7:=u) (h8:=v) (h9:=w) (acc:=acc++[(min (min bp.1 bn.1) bk.1,bp.2,bn.2,bk.2)]) k (nV Aq) (nV Ap) (nV Ao) (fi kP zN) (fi sM zM) (fi sL zL) (gQ sQ) (gQ sP) (gQ sO) (by lia) (by simp; exact yE ‹_›)) fun ti th tg h7' h8' h9' z=>?_
    refine hn ?_
    refine (pA ti th tg h7' h8' h9' ?_)
    have e1:k + (f + 1) + 1=(k + f + 1) + 1:=by exact rfl
    rw [e1,ej ((jD (n:=n + 12) h F ht).trans (by rw [decide_eq_true (by lia)])) t,z]
    simp [xK,xJ,Dp]
theorem rT {c y m nc ny nm x top:Nat} {Nc Ny Nm:Nd} (h:HoldsAt b D σ.heap) (hc:aI σ.heap=true) (F:Fits D) (hW:100≤W) (gc:D.nodes[c]?=some Nc) (gy:D.nodes[y]?=some Ny) (gm:D.nodes[m]?=some Nm)
  (hx:min (min Nc.lev Ny.lev) Nm.lev=x) (ht:D.tops[x]?=some top)
  (rc:aZ (-1) (Nc.side c x top)) (ry:aZ (-1) (Ny.side y x top)) (rm:aZ (-1) (Nm.side m x top)) (tc:aN (-1) (Nc.side c x top)=top) (ty:aN (-1) (Ny.side y x top)=top) (tm:aN (-1) (Nm.side m x top)=top)
  (lc:(Nc.side c x top).length≤100) (ly:(Ny.side y x top).length≤100) (lm:(Nm.side m x top).length≤100):
  callF prog W (n + 40) 8 [.o b,.d (hO (c,y,m))] σ=some (.d (.tuple [iD x,.list ((mergeP 10 (Nc.side c x top) (Ny.side y x top) (Nm.side m x top)).map pieceD)]),σ):=by
 refine (bh (fd:=⟨2,13,b_split⟩) rfl rfl).trans ?_
 have htop:top≤4:=by
  refine ga F.tops fun ta tb tc e a1 a2 a3=>?_
  rw [e] at ht
  exact Cs ht (fun zz e=>e▸a1) (fun zz e=>e▸a2) (fun zz e=>e▸a3)
 obtain ⟨w,rfl⟩:∃ w,W=w + 10 + 1:=⟨W - 11,by lia⟩
 have vc:∀ (loc out:List (Option AV)) (k:Nat),callF prog (w + 10 + 1) (k + 12) 6 [.o b,.d (iD c)] { loc:=loc,out:=out,heap:=σ.heap }=some (.d (iD Nc.lev),{ loc:=loc,out:=out,heap:=σ.heap }):=fun loc out k=>iI (σ:={ loc:=loc,out:=out,heap:=σ.heap }) h F gc
 have vy:∀ (loc out:List (Option AV)) (k:Nat),callF prog (w + 10 + 1) (k + 12) 6 [.o b,.d (iD y)] { loc:=loc,out:=out,heap:=σ.heap }=some (.d (iD Ny.lev),{ loc:=loc,out:=out,heap:=σ.heap }):=fun loc out k=>iI (σ:={ loc:=loc,out:=out,heap:=σ.heap }) h F gy
 have vm:∀ (loc out:List (Option AV)) (k:Nat),callF prog (w + 10 + 1) (k + 12) 6 [.o b,.d (iD m)] { loc:=loc,out:=out,heap:=σ.heap }=some (.d (iD Nm.lev),{ loc:=loc,out:=out,heap:=σ.heap }):=fun loc out k=>iI (σ:={ loc:=loc,out:=out,heap:=σ.heap }) h F gm
 have pc:∀ (loc out:List (Option AV)) (k:Nat),callF prog (w + 10 + 1) (k + 20) 7 [.o b,.d (iD c),.d (iD x)] { loc:=loc,out:=out,heap:=σ.heap }=some (.d (.tuple ((Nc.side c x top).map partD)),{ loc:=loc,out:=out,heap:=σ.heap }):=fun loc out k=>jH (σ:={ loc:=loc,out:=out,heap:=σ.heap }) h F gc ht
 have py:∀ (loc out:List (Option AV)) (k:Nat),callF prog (w + 10 + 1) (k + 20) 7 [.o b,.d (iD y),.d (iD x)] { loc:=loc,out:=out,heap:=σ.heap }=some (.d (.tuple ((Ny.side y x top).map partD)),{ loc:=loc,out:=out,heap:=σ.heap }):=fun loc out k=>jH (σ:={ loc:=loc,out:=out,heap:=σ.heap }) h F gy ht
 have pm:∀ (loc out:List (Option AV)) (k:Nat),callF prog (w + 10 + 1) (k + 20) 7 [.o b,.d (iD m),.d (iD x)] { loc:=loc,out:=out,heap:=σ.heap }=some (.d (.tuple ((Nm.side m x top).map partD)),{ loc:=loc,out:=out,heap:=σ.heap }):=fun loc out k=>jH (σ:={ loc:=loc,out:=out,heap:=σ.heap }) h F gm ht
 simp only [b_split,hO,aq,am,av,eI,aO,ay,dO,af,bM,aQ,aM,bF,br,nF,aG,bg,bu,bb,ai,ag,bq,ae,aE,aP,bJ,aW,aL,y2,y1,cM,ie,yz,eM,aR,cU,bG,nT,bf,AS.setLoc,az,AS.freezeAll,AS.alloc,List.getElem?_cons_zero,List.getElem?_cons_succ,List.set_cons_zero,List.set_cons_succ,List.length_cons,List.length_nil,List.map_cons,List.map_nil,List.cons_append,List.nil_append,List.replicate,Nat.reduceAdd,Nat.reduceSub,Nat.reduceLT,if_true,cB,h.self,compItems,bd,vc,vy,vm,yQ,tx,hx]
 simp only [aE,aP,bJ,aW,aL,aR,bG,mf,bf,AR,az,AS.alloc,List.getElem?_cons_zero,List.getElem?_cons_succ,List.set_cons_zero,List.set_cons_succ,List.length_cons,List.length_nil,List.cons_append,List.nil_append,Nat.reduceAdd,Nat.reduceLT,if_true,dz,cB,Nat.reduceLeDiff,pc,py,pm]
 have r3:(0:Int)≤((3:Nat):Int)∧((3:Nat):Int)≤((1000000:Nat):Int):=by decide
 refine vf (rS (W:=w + 10 + 1) (n:=n + 12) (b:=b) (kv:=.d (.tuple [iD c,iD y,iD m])) h F ht lc ly lm 10 (a:=-1) (g5:=0) (gZ:=0) (gY:=0) (acc:=[]) (h7:=none) (h8:=none) (h9:=none) w rfl rfl rfl rc ry rm tc ty tm (by lia) (by decide)) fun ti th tg h7' h8' h9' loop=>?_
 have z0:iD 0=.int 0:=rfl
 simp only [splitS,splitTest,splitBody,List.map_nil,z0,List.nil_append,List.drop_zero] at loop
 simp only [aE,aP,aW,aL,dW,aR,bG,cT,cn,bf,Ep,cj,az,dN,AS.freezeAll,AS.put,List.getElem?_cons_zero,List.getElem?_cons_succ,List.set_cons_zero,List.set_cons_succ,List.length_cons,List.length_nil,List.cons_append,List.nil_append,List.replicate,Nat.reduceAdd,if_true,eS,r3,and_self,Int.toNat_natCast,List.append_assoc,List.length_append,loop,Ct]
 rw [BM,di hc]
end
noncomputable def aF:List (Nat×Nat)→Nat→Option Nat
 | [],_=>none
 | p :: ps,i=>if i≤p.1 then some p.2 else aF ps i
noncomputable def gR:List (Nat×Nat)→Prop
 | p :: q :: r=>p.2≠q.2∧gR (q :: r)
 | _=>True
structure Good (top:Nat) (ps:List (Nat×Nat)):Prop where
 rise:aZ (-1) ps
 last:aN (-1) ps=top
theorem eG:∀ {l:List (Nat×Nat)} {a:Int} {p:Nat×Nat},aN a (l++[p])=p.1
 | [],_,_=>rfl
 | _ :: l,_,_=>eG (l:=l)
theorem gl:∀ {l r:List (Nat×Nat)} {a:Int},aN a (l++r)=aN (aN a l) r
 | [],_,_=>rfl
 | q :: l,r,a=>gl (l:=l) (r:=r) (a:=q.1)
theorem fo:∀ {l r:List (Nat×Nat)} {a:Int},aZ a (l++r) ↔ aZ a l∧aZ (aN a l) r
 | [],_,_=>by simp [aZ,aN]
 | q :: l,r,a=>by simp only [List.cons_append,aZ,aN,fo (l:=l) (r:=r),and_assoc]
theorem ix {l:List (Nat×Nat)} {a:Int} {p:Nat×Nat}:aZ a (l++[p]) ↔ aZ a l∧aN a l < p.1:=by
 refine (fo).trans ?_; simp [aZ]
theorem iC:∀ {l r:List (Nat×Nat)} {i:Nat},aF (l++r) i=(aF l i).or (aF r i)
 | [],_,_=>by simp [aF]
 | q :: l,r,i=>by
  simp only [List.cons_append,aF,iC (l:=l) (r:=r)]
  split <;> simp
theorem rC:∀ {l:List (Nat×Nat)} {q p:Nat×Nat},gR (l++[q])→q.2≠p.2→gR (l++[q]++[p])
 | [],q,p,_,h=>⟨h,trivial⟩
 | [x],q,p,hl,h=>(cw hl.1 h trivial)
 | x :: y :: l,q,p,hl,h=>⟨hl.1,rC (l:=y :: l) hl.2 h⟩
theorem rB:∀ {l:List (Nat×Nat)} {q p:Nat×Nat},gR (l++[q])→q.2=p.2→gR (l++[p])
 | [],q,p,_,h=>trivial
 | [x],q,p,hl,h=>⟨fun e=>hl.1 (e.trans h.symm),trivial⟩
 | x :: y :: l,q,p,hl,h=>⟨hl.1,rB (l:=y :: l) hl.2 h⟩
theorem kt:∀ {ps acc:List (Nat×Nat)},aZ (-1) (acc++ps)→gR acc→
  aZ (-1) (ps.foldl joinStep acc)∧aN (-1) (ps.foldl joinStep acc)=aN (-1) (acc++ps)∧gR (ps.foldl joinStep acc)∧(∀ i,aF (ps.foldl joinStep acc) i=aF (acc++ps) i)∧∀ p∈ps.foldl joinStep acc,∃ q∈acc++ps,q.2=p.2
 | [],acc,hr,ha=>by simp only [List.append_nil] at hr ⊢; exact (ij hr rfl ha (fun zz=>rfl) (fun p m=>(m1a2 p m rfl)))
 | p :: ps,acc,hr,ha=>by
  have hr':aZ (-1) (acc++[p]++ps):=by simpa using hr
  obtain ⟨h1,h2⟩:=fo.mp hr'
  obtain ⟨h3,h4⟩:=ix.mp h1
  rcases List.eq_nil_or_concat acc with rfl | ⟨l,q,rfl⟩
  ·have e:joinStep [] p=[p]:=rfl
   simp only [List.foldl_cons,e]
   exact kt (ps:=ps) (acc:=[p]) hr trivial
  ·simp only [List.concat_eq_append] at *
   by_cases e:q.2=p.2
   ·have e1:joinStep (l++[q]) p=l++[p]:=by simp [joinStep,e]
    have hq:=(ix.mp h3)
    have hqp:(q.1:Int) < p.1:=by rw [eG] at h4; exact h4
    have hr2:aZ (-1) (l++[p]++ps):=by
     rw [fo]
     refine ⟨ix.mpr ⟨hq.1,by lia⟩,?_⟩
     rw [eG] at h2 ⊢; exact h2
    refine dR (kt (ps:=ps) (acc:=l++[p]) hr2 (rB ha e)) fun a b c d f=>?_
    simp only [List.foldl_cons,e1]
    refine (ij a ?_ c (fun i=>?_) (fun x m=>?_))
    ·rw [b]
     have:l++[q]++p :: ps=(l++[q]++[p])++ps:=by simp
     rw [this,gl (l:=l++[p]),gl (l:=l++[q]++[p]),eG,eG]
    ·rw [d]
     have:l++[q]++p :: ps=l++([q]++([p]++ps)):=by simp
     rw [this,List.append_assoc l [p] ps,iC (l:=l) (r:=[p]++ps),iC (l:=l) (r:=[q]++([p]++ps))]
     congr 1
     simp only [List.cons_append,List.nil_append,aF]
     by_cases g:i≤q.1
     ·rw [if_pos g,if_pos (show i≤p.1 by lia),e]
     ·rw [if_neg g]
    ·refine aB (f x m) fun y my ey=>?_
     refine (m1a2 y ?_ ey)
     simp only [List.mem_append,List.mem_cons,List.not_mem_nil,or_false] at my ⊢
     rcases my with (h | h) | h
     ·exact .inl (.inl h)
     ·exact .inr (.inl h)
     ·exact .inr (.inr h)
   ·have e1:joinStep (l++[q]) p=l++[q]++[p]:=by simp [joinStep,e]
    refine dR (kt (ps:=ps) (acc:=l++[q]++[p]) hr' (rC ha e)) fun a b c d f=>?_
    simp only [List.foldl_cons,e1]
    have:l++[q]++p :: ps=(l++[q]++[p])++ps:=by simp
    exact this▸(ij a b c d f)
theorem oE:∀ {js ks:List (Nat×Nat)} {a:Int} {top:Nat},-1≤a→aZ a js→aZ a ks→aN a js=top→aN a ks=top→gR js→gR ks→
  (∀ i:Nat,a < i→i≤top→aF js i=aF ks i)→js=ks
 | [],[],_,_,_,_,_,_,_,_,_,_=>rfl
 | [],q :: ks,a,top,_,_,hk,lj,lk,_,_,_=>by
  have:=cz hk; have h1:=hk.1; simp only [aN] at lj; lia
 | p :: js,[],a,top,_,hj,_,lj,lk,_,_,_=>by
  have:=cz hj; have h1:=hj.1; simp only [aN] at lk; lia
 | p :: js,q :: ks,a,top,ha,hj,hk,lj,lk,aj,ak,he=>by
  have tp:=cz hj
  have tq:=cz hk
  have p1:=hj.1
  have q1:=hk.1
  have e2:p.2=q.2:=by
   have:=he (a + 1).toNat (by lia) (by lia)
   simp only [aF] at this
   rw [if_pos (by exact Bp ‹_›),if_pos (by exact Bp ‹_›)] at this
   exact Option.some.inj this
  have e1:p.1=q.1:=by
   rcases Nat.lt_trichotomy p.1 q.1 with l | l | l
   ·exfalso
    induction js using List.casesOn with
    | nil=>simp only [aN] at lj; lia
    | cons p' js=>
     have hh:=hj.2.1
     have:=he (p.1 + 1) (by exact Ft ‹_›) (by lia)
     simp only [aF] at this
     rw [if_neg (by lia),if_pos (by exact Bm ‹_›),if_pos (by exact yF ‹_›)] at this
     exact aj.1 (e2.trans (Option.some.inj this).symm)
   ·exact l
   ·exfalso
    induction ks using List.casesOn with
    | nil=>simp only [aN] at lk; lia
    | cons q' ks=>
     have hh:=hk.2.1
     have:=he (q.1 + 1) (by exact Ft ‹_›) (by lia)
     simp only [aF] at this
     rw [if_pos (by exact yF ‹_›),if_neg (by lia),if_pos (by exact Bm ‹_›)] at this
     exact ak.1 (e2.symm.trans (Option.some.inj this))
  have e:p=q:=Prod.ext e1 e2
  subst e
  congr 1
  refine oE (a:=p.1) (top:=top) (by exact Bt) hj.2 hk.2 lj lk ?_ ?_ fun i h1 h2=>?_
  ·induction js using List.casesOn with
   | nil=>trivial
   | cons _ _=>exact aj.2
  ·induction ks using List.casesOn with
   | nil=>trivial
   | cons _ _=>exact ak.2
  ·have:=he i (by lia) h2
   simp only [aF] at this
   rw [if_neg (by lia),if_neg (by lia)] at this
   exact this
theorem oF:∀ {ps:List (Nat×Nat)} {a:Int} {i:Nat},aZ a ps→(i:Int)≤aN a ps→a < i→∃ c,aF ps i=some c∧∃ p∈ps,p.2=c
 | [],a,i,_,h,h'=>by simp only [aN] at h; lia
 | p :: ps,a,i,hr,h,h'=>by
  simp only [aF]
  by_cases e:i≤p.1
  ·exact (m1a2 p.2 (by rw [if_pos e]) (m1a2 p (.head _) rfl))
  ·rw [if_neg e]
   refine aB (oF (i:=i) hr.2 h (by exact Fu ‹_›)) fun c h1 t_1=>?_; refine aB t_1 fun q m h2=>?_
   exact (m1a2 c h1 (m1a2 q (.tail _ m) h2))
theorem Good.part {top i:Nat} {ps:List (Nat×Nat)} (g:Good top ps) (h:i≤top):∃ c,aF ps i=some c∧∃ p∈ps,p.2=c:=
 oF g.rise (by rw [g.last]; exact xb ‹_›) (by exact De)
theorem jE:∀ {ps:List (Nat×Nat)} {a:Int},aZ a ps→(ps.length:Int)≤aN a ps - a
 | [],a,_=>by simp [aN]
 | p :: ps,a,h=>by have:=jE h.2; have:=h.1; simp only [aN,List.length_cons]; lia
theorem Good.len {top:Nat} {ps:List (Nat×Nat)} (g:Good top ps):ps.length≤top + 1:=by
 have:=jE g.rise; rw [g.last] at this; lia
theorem Good.ne {top:Nat} {ps:List (Nat×Nat)} (g:Good top ps):ps≠[]:=fun e=>by
 have:=g.last; rw [e] at this; simp only [aN] at this; lia
noncomputable def Dia.top (D:Dia) (x:Nat):Nat:=(D.tops[x]?).getD 0
noncomputable def Dia.sub (D:Dia) (x n i:Nat):Nat:=match D.nodes[n]? with
 | some (.inner y ps)=>if y=x then (aF ps i).getD 0 else n
 | _=>n
noncomputable def Dia.leafv (D:Dia) (n:Nat):PyData:=match D.nodes[n]? with
 | some (.leaf v)=>v
 | _=>.none
noncomputable def Dia.val (D:Dia):Nat→Nat→List Nat→PyData
 | _,n,[]=>D.leafv n
 | l,n,i :: c=>D.val (l + 1) (D.sub l n i) c
noncomputable def Dia.Box (D:Dia):Nat→List Nat→Prop
 | l,[]=>l=3
 | l,i :: c=>l < 3∧i≤D.top l∧D.Box (l + 1) c
structure WF (D:Dia):Prop where
 tops:∃ a b c,D.tops=[a,b,c]∧a≤4∧b≤4∧c≤4
 nodup:D.nodes.Nodup
 ok:mo D
 inner:∀ n x ps,D.nodes[n]?=some (.inner x ps)→x < 3∧Good (D.top x) ps∧2≤ps.length∧gR ps∧∀ p∈ps,p.2 < n∧x < D.lev p.2
structure Ext (D D':Dia):Prop where
 tops:D'.tops=D.tops
 nodes:∃ t,D'.nodes=D.nodes++t
theorem Ext.refl (D:Dia):Ext D D:=⟨rfl,[],by simp⟩
theorem Ext.trans {A B C:Dia} (h:Ext A B) (k:Ext B C):Ext A C:=by
 refine bc fun hn=>?_
 obtain ⟨s,hs⟩:=h.nodes
 obtain ⟨t,ht⟩:=k.nodes
 refine hn ?_
 exact ⟨k.tops.trans h.tops,s++t,by rw [ht,hs]; simp⟩
section
variable {D D':Dia} {n m x i l:Nat} {nd:Nd}
theorem Ext.get (h:Ext D D') (e:D.nodes[n]?=some nd):D'.nodes[n]?=some nd:=by
 obtain ⟨t,ht⟩:=h.nodes
 rw [ht,List.getElem?_append_left (List.getElem?_eq_some_iff.mp e).1,e]
theorem Ext.get_lt (h:Ext D D') (e:n < D.nodes.length):D'.nodes[n]?=D.nodes[n]?:=by
 rw [h.get (List.getElem?_eq_getElem e),List.getElem?_eq_getElem e]
theorem Ext.len (h:Ext D D'):D.nodes.length≤D'.nodes.length:=by
 obtain ⟨t,ht⟩:=h.nodes; rw [ht]; simp
theorem Ext.top (h:Ext D D'):D'.top x=D.top x:=by unfold Dia.top; rw [h.tops]
theorem Ext.lev (h:Ext D D') (e:n < D.nodes.length):D'.lev n=D.lev n:=by unfold Dia.lev; rw [h.get_lt e]
theorem Ext.sub (h:Ext D D') (e:n < D.nodes.length):D'.sub x n i=D.sub x n i:=by unfold Dia.sub; rw [h.get_lt e]
theorem Ext.leafv (h:Ext D D') (e:n < D.nodes.length):D'.leafv n=D.leafv n:=by unfold Dia.leafv; rw [h.get_lt e]
theorem Ext.box (h:Ext D D'):∀ {c:List Nat} {l:Nat},D'.Box l c ↔ D.Box l c
 | [],_=>Iff.rfl
 | i :: c,l=>by simp only [Dia.Box,h.top,h.box (c:=c)]
theorem cE (e:D.nodes[n]?=some nd):D.lev n=nd.lev:=by unfold Dia.lev; rw [e]
theorem WF.lev_le (w:WF D) (e:n < D.nodes.length):D.lev n≤3:=by
 unfold Dia.lev
 rw [List.getElem?_eq_getElem e]
 induction h:D.nodes[n] using Nd.casesOn with
 | leaf v=>exact Nat.le_refl 3
 | inner x ps=>exact Nat.le_of_lt (w.inner n x ps (by rw [List.getElem?_eq_getElem e,h])).1
theorem WF.topx (w:WF D) (hx:x < 3):D.tops[x]?=some (D.top x)∧D.top x≤4:=by
 refine ga w.tops fun a b c e h1 h2 h3=>?_
 unfold Dia.top; rw [e]
 exact n3 hx ⟨rfl,h1⟩ ⟨rfl,h2⟩ ⟨rfl,h3⟩
theorem WF.sub_lt (w:WF D) (e:n < D.nodes.length) (hi:i≤D.top x):D.sub x n i < D.nodes.length:=by
 unfold Dia.sub
 rw [List.getElem?_eq_getElem e]
 induction h:D.nodes[n] using Nd.casesOn with
 | leaf v=>exact e
 | inner y ps=>
  simp only
  split
  ·rename_i q; induction q
   refine bc fun hn=>?_
   refine dR (w.inner n y ps (by rw [List.getElem?_eq_getElem e,h])) fun h1 h2 h3 h4 h5=>?_
   refine aB (h2.part hi) fun c hc t_1=>?_; refine aB t_1 fun p hp e_2=>?_; induction e_2
   refine hn ?_
   rw [hc]; have:=(h5 p hp).1; simp; exact DY ‹_› ‹_›
  ·exact e
theorem WF.sub_lev (w:WF D) (e:n < D.nodes.length) (hi:i≤D.top x) (hl:x≤D.lev n):x < D.lev (D.sub x n i)∨(x=3):=by
 by_cases h3:x=3
 ·exact .inr h3
 left
 have hl':=w.lev_le e
 revert hl hl'
 unfold Dia.sub
 rw [cE (List.getElem?_eq_getElem e),List.getElem?_eq_getElem e]
 induction h:D.nodes[n] using Nd.casesOn with
 | leaf v=>
  intro hl hl'
  show x < D.lev n
  rw [cE (List.getElem?_eq_getElem e),h]
  have:(Nd.leaf v).lev=3:=rfl
  lia
 | inner y ps=>
  intro hl hl'
  simp only [Nd.lev] at hl
  simp only
  split
  ·rename_i q; induction q
   refine bc fun hn=>?_
   refine dR (w.inner n y ps (by rw [List.getElem?_eq_getElem e,h])) fun h1 h2 h3 h4 h5=>?_
   refine aB (h2.part hi) fun c hc t_3=>?_; refine aB t_3 fun p hp e_4=>?_; induction e_4
   refine hn ?_
   rw [hc]; exact (h5 p hp).2
  ·rename_i q
   rw [cE (List.getElem?_eq_getElem e),h]
   show x < y; lia
theorem dF (e:x≠D.lev n) (h3:x < 3): D.sub x n i=n:=by
 unfold Dia.sub
 unfold Dia.lev at e
 induction h:D.nodes[n]? using Option.casesOn with
 | none=>rfl
 | some nd=>
  rw [h] at e
  induction nd using Nd.casesOn with
  | leaf v=>rfl
  | inner y ps=>simp only [Nd.lev] at e; simp only; rw [if_neg (fun q=>e q.symm)]
theorem Ext.val (h:Ext D D') (w:WF D):∀ {c:List Nat} {l n:Nat},n < D.nodes.length→D.Box l c→D'.val l n c=D.val l n c
 | [],l,n,e,_=>h.leafv e
 | i :: c,l,n,e,b=>by
  simp only [Dia.val,h.sub e]
  exact h.val w (w.sub_lt e b.2.1) b.2.2
theorem oR (w:WF D) (ho:nd.Ok) (hi:∀ x ps,nd=.inner x ps→x < 3∧Good (D.top x) ps∧2≤ps.length∧gR ps∧∀ p∈ps,p.2 < D.nodes.length∧x < D.lev p.2):
  WF (D.keep nd).1∧Ext D (D.keep nd).1∧(D.keep nd).1.memo=D.memo∧(D.keep nd).1.nodes[(D.keep nd).2]?=some nd∧(D.keep nd).1.nodes.length≤D.nodes.length + 1:=by
 unfold Dia.keep
 induction e:D.nodes.findIdx? (fun m=>decide (m=nd)) using Option.casesOn with
 | some i=>
  refine (ij w (Ext.refl D) rfl ?_ (Nat.le_succ _))
  rw [List.findIdx?_eq_some_iff_getElem] at e
  obtain ⟨h,q,_⟩:=e
  simp at q
  show D.nodes[i]?=some nd
  rw [List.getElem?_eq_getElem h,q]
 | none=>
  have hno:nd ∉ D.nodes:=fun m=>by
   rw [List.findIdx?_eq_none_iff] at e
   have:=e nd m; simp at this
  have E:Ext D { D with nodes:=D.nodes++[nd] }:=⟨rfl,[nd],rfl⟩
  refine (ij ⟨w.tops,?_,?_,?_⟩ E rfl (by simp) (by simp))
  ·refine List.nodup_append.mpr (cw w.nodup (by simp) (fun a ha b hb q=>?_))
   simp at hb; induction hb; induction q; exact hno ha
  ·intro m hm
   rcases List.mem_append.mp hm with hm | hm
   ·exact w.ok m hm
   ·simp at hm; induction hm; exact ho
  ·intro k x ps hk
   rcases Nat.lt_or_ge k D.nodes.length with q | q
   ·have:D.nodes[k]?=some (.inner x ps):=by rw [← hk]; exact (E.get_lt q).symm
    refine dR (w.inner k x ps this) fun h1 h2 h3 h4 h5=>?_
    refine (ij h1 h2 h3 h4 (fun p hp=>⟨(h5 p hp).1,?_⟩))
    rw [E.lev (Nat.lt_trans (h5 p hp).1 q)]; exact (h5 p hp).2
   ·have hk':(D.nodes++[nd])[k]?=some (.inner x ps):=hk
    rw [List.getElem?_append_right q] at hk'
    have hkl:k=D.nodes.length:=by
     have:=(List.getElem?_eq_some_iff.mp hk').1
     simp at this; lia
    subst hkl
    simp at hk'
    refine dR (hi x ps hk') fun h1 h2 h3 h4 h5=>?_
    exact (ij h1 h2 h3 h4 (fun p hp=>⟨(h5 p hp).1,by rw [E.lev (h5 p hp).1]; exact (h5 p hp).2⟩))
theorem oM {ps:List (Nat×Nat)} (w:WF D) (hx:x < 3) (g:Good (D.top x) ps) (hp:∀ p∈ps,p.2 < D.nodes.length∧x < D.lev p.2):
  WF (D.make x ps).1∧Ext D (D.make x ps).1∧(D.make x ps).1.memo=D.memo∧(D.make x ps).2 < (D.make x ps).1.nodes.length∧(D.make x ps).1.nodes.length≤D.nodes.length + 1∧x≤(D.make x ps).1.lev (D.make x ps).2∧
   ∀ i,i≤D.top x→(D.make x ps).1.sub x (D.make x ps).2 i=(aF ps i).getD 0:=by
 refine dR (kt (ps:=ps) (acc:=[]) g.rise trivial) fun j1 j2 j3 j4 j5=>?_
 simp only [List.nil_append] at j2 j4 j5
 unfold Dia.make
 have gj:Good (D.top x) (ps.foldl joinStep []):=⟨j1,by refine (j2).trans ?_; exact g.last⟩
 have hc:∀ p∈ps.foldl joinStep [],p.2 < D.nodes.length∧x < D.lev p.2:=fun p m=>by
  refine aB (j5 p m) fun q mq e=>?_
  rw [← e]; exact hp q mq
 induction hj:ps.foldl joinStep [] using List.casesOn with
 | nil=>exact absurd hj gj.ne
 | cons q r=>
  rw [hj] at gj j3 j4 hc
  induction r using List.casesOn with
  | nil=>
   have:=hc q (.head _)
   refine (qL w (Ext.refl D) rfl this.1 (Nat.le_succ _) (Nat.le_of_lt this.2) (fun i hi=>?_))
   show D.sub x q.2 i=_
   rw [dF (by lia) hx,← j4]
   have hl:=gj.last
   simp only [aN] at hl
   simp only [aF]
   rw [if_pos (by lia)]; rfl
  | cons q' r=>
   refine dR (oR (nd:=.inner x (q :: q' :: r)) w trivial (fun y qs e=>by
    cases e
    exact (ij hx gj (by simp) j3 hc))) fun k1 k2 k3 k4 k5=>?_
   refine (qL k1 k2 k3 ((List.getElem?_eq_some_iff.mp k4).1) k5 (by rw [cE k4]; exact Nat.le_refl _) (fun i hi=>?_))
   unfold Dia.sub
   rw [k4]
   simp only [if_true]
   rw [j4]
theorem dZ (w:WF D) (hn:n < D.nodes.length) (e:D.lev n=l) (hl:l < 3):∃ ps,D.nodes[n]?=some (.inner l ps):=by
 have q:=List.getElem?_eq_getElem hn
 rw [cE q] at e
 induction h:D.nodes[n] using Nd.casesOn with
 | leaf v=>rw [h] at e; simp only [Nd.lev] at e; lia
 | inner y ps=>rw [h] at e; simp only [Nd.lev] at e; induction e; exact ⟨ps,by rw [q,h]⟩
theorem mI (w:WF D) (hn:n < D.nodes.length) (e:3≤D.lev n):∃ v,D.nodes[n]?=some (.leaf v):=by
 have q:=List.getElem?_eq_getElem hn
 rw [cE q] at e
 induction h:D.nodes[n] using Nd.casesOn with
 | leaf v=>exact ⟨v,by rw [q,h]⟩
 | inner y ps=>have:=(w.inner n y ps (by rw [q,h])).1; rw [h] at e; simp only [Nd.lev] at e; lia
theorem kY (w:WF D) {ps:List (Nat×Nat)} (hn:D.nodes[n]?=some (.inner l ps)) (hs:∀ i,i≤D.top l→D.sub l n i=m):False:=by
 refine dR (w.inner n l ps hn) fun h1 h2 h3 h4 h5=>?_
 induction ps using List.casesOn with
 | nil=>cases h3
 | cons p t=>induction t using List.casesOn with
 | nil=>exact absurd h3 (Nat.lt_irrefl 1)
 | cons q r=>
  have r1:=h2.rise.1
  have r2:=h2.rise.2.1
  have t1:=cz h2.rise.2
  have t0:aN (p.1:Int) (q :: r)=D.top l:=h2.last
  have s1:=hs p.1 (by lia)
  have s2:=hs (p.1 + 1) (by lia)
  unfold Dia.sub at s1 s2
  rw [hn] at s1 s2
  simp only [if_true,aF] at s1 s2
  rw [if_pos (Nat.le_refl _)] at s1
  rw [if_neg (by lia),if_pos (by exact Bm ‹_›)] at s2
  exact h4.1 (s1.trans s2.symm)
theorem yY (w:WF D):∀ (k:Nat) {l n m:Nat},l + k=3→n < D.nodes.length→m < D.nodes.length→l≤D.lev n→l≤D.lev m→(∀ c,D.Box l c→D.val l n c=D.val l m c)→n=m:=by
 intro k
 induction k with
 | zero=>
  intro l n m hl hn hm ln lm hv
  have h3:l=3:=by assumption
  subst h3
  have h:=hv [] rfl
  have en:=List.getElem?_eq_getElem hn
  have em:=List.getElem?_eq_getElem hm
  have a1:∀ k (hk:k < D.nodes.length),3≤D.lev k→∃ v,D.nodes[k]?=some (.leaf v):=fun k hk h3=>by
   have e:=List.getElem?_eq_getElem hk
   rw [cE e] at h3
   induction q:D.nodes[k] using Nd.casesOn with
   | leaf v=>exact ⟨v,by rw [e,q]⟩
   | inner y ps=>have:=(w.inner k y ps (by rw [e,q])).1; rw [q] at h3; simp only [Nd.lev] at h3; lia
  obtain ⟨v,hv⟩:=a1 n hn ln
  obtain ⟨u,hu⟩:=a1 m hm lm
  have h':v=u:=by
   have:=h
   simp only [Dia.val,Dia.leafv,hv,hu] at this
   exact this
  subst h'
  exact (List.getElem?_inj hn w.nodup).mp (hv.trans hu.symm)
 | succ k ih=>
  intro l n m hl hn hm ln lm hv
  have hl3:l < 3:=by exact yD ‹_›
  have hsub:∀ i,i≤D.top l→D.sub l n i=D.sub l m i:=fun i hi=>by
   refine ih (l:=l + 1) (by exact sS ‹_›) (w.sub_lt hn hi) (w.sub_lt hm hi) ?_ ?_ fun c hc=>hv (i :: c) (cw hl3 hi hc)
   ·rcases w.sub_lev hn hi ln with h | h <;> lia
   ·rcases w.sub_lev hm hi lm with h | h <;> lia
  by_cases e1:D.lev n=l
  ·obtain ⟨ps,hps⟩:=dZ w hn e1 hl3
   by_cases e2:D.lev m=l
   ·obtain ⟨qs,hqs⟩:=dZ w hm e2 hl3
    refine dR (w.inner n l ps hps) fun zz g1 zz a1 zz=>?_
    refine dR (w.inner m l qs hqs) fun zz g2 zz a2 zz=>?_
    have:ps=qs:=oE (a:=-1) (top:=D.top l) (by decide) g1.rise g2.rise g1.last g2.last a1 a2 fun i zz hi=>by
     have:=hsub i hi
     unfold Dia.sub at this
     rw [hps,hqs] at this
     simp only [if_true] at this
     refine aB (g1.part hi) fun c hc zz=>?_
     refine aB (g2.part hi) fun d hd zz=>?_
     rw [hc,hd] at this ⊢
     simpa using this
    induction this
    exact (List.getElem?_inj hn w.nodup).mp (hps.trans hqs.symm)
   ·exact (kY w hps (m:=m) fun i hi=>by rw [hsub i hi,dF (fun q=>e2 q.symm) hl3]).elim
  ·by_cases e2:D.lev m=l
   ·obtain ⟨qs,hqs⟩:=dZ w hm e2 hl3
    exact (kY w hqs (m:=n) fun i hi=>by rw [← hsub i hi,dF (fun q=>e1 q.symm) hl3]).elim
   ·have:=hsub 0 (Nat.zero_le _)
    rwa [dF (fun q=>e1 q.symm) hl3,dF (fun q=>e2 q.symm) hl3] at this
end
noncomputable def iB:List (Nat×Nat×Nat×Nat)→Nat→Option (Nat×Nat×Nat)
 | [],_=>none
 | p :: ps,i=>if i≤p.1 then some p.2 else iB ps i
noncomputable abbrev Du (ps:List (Nat×Nat×Nat×Nat)):List (Nat×Nat):=ps.map fun p=>(p.1,0)
theorem wY {h:Nat} {q:Nat×Nat} {t:List (Nat×Nat)} {i:Nat} (hi:h < i):aF (rH h q t) i=aF (q :: t) i:=by
 unfold rH
 split
 ·rename_i e; simp only [aF]; rw [if_neg (by lia)]
 ·rfl
theorem pQ {h:Nat} {q p:Nat×Nat} {t:List (Nat×Nat)} (m:p∈rH h q t):p∈q :: t:=by
 unfold rH at m
 split at m
 ·exact .tail _ m
 ·exact m
theorem sa:∀ (f:Nat) {a:Int} {top:Nat} {fL eX gi:List (Nat×Nat)},-1≤a→aZ a fL→aZ a eX→aZ a gi→aN a fL=top→aN a eX=top→aN a gi=top→(top:Int) - a≤f→
  aZ a (Du (mergeP f fL eX gi))∧aN a (Du (mergeP f fL eX gi))=top∧
  (∀ i:Nat,a < i→i≤top→∃ c y m,iB (mergeP f fL eX gi) i=some (c,y,m)∧aF fL i=some c∧aF eX i=some y∧aF gi i=some m)∧
  ∀ p∈mergeP f fL eX gi,(∃ q∈fL,q.2=p.2.1)∧(∃ q∈eX,q.2=p.2.2.1)∧(∃ q∈gi,q.2=p.2.2.2):=by
 intro f
 induction f with
 | zero=>
  intro a top fL eX gi ha kP sM sL sQ sP sO hf
  have:=fu kP
  have e:a=top:=by lia
  refine (fS (by simp [xK,xJ,aZ]) (by simp [xK,xJ,aN,e]) (fun i h1 h2=>by lia) (fun p m=>by simp [xK,xJ] at m))
 | succ f ih=>
  intro a top fL eX gi ha kP sM sL sQ sP sO hf
  by_cases e:a=top
  ·have:fL=[]:=by
    induction fL using List.casesOn with
    | nil=>rfl
    | cons q t=>have:=cz kP; have h1:=kP.1; lia
   subst this
   refine (fS (by simp [xK,xJ,aZ]) (by simp [xK,xJ,aN,e]) (fun i h1 h2=>by lia) (fun p m=>by simp [xK,xJ] at m))
  ·induction fL using List.casesOn with
   | nil=>exact absurd sQ e
   | cons bp be=>induction eX using List.casesOn with
   | nil=>exact absurd sP e
   | cons bn ba=>induction gi using List.casesOn with
   | nil=>exact absurd sO e
   | cons bk aX=>
    have zN:min (min bp.1 bn.1) bk.1≤bp.1:=by exact zd
    have zM:min (min bp.1 bn.1) bk.1≤bn.1:=by exact Bl
    have zL:min (min bp.1 bn.1) bk.1≤bk.1:=by exact Dd
    have E6:=kP.1
    have E5:=sM.1
    have E4:=sL.1
    refine gC (ih (a:=((min (min bp.1 bn.1) bk.1:Nat):Int)) (by exact Bt) (fi kP zN) (fi sM zM) (fi sL zL) (gQ sQ) (gQ sP) (gQ sO) (by lia)) fun z1 z2 z3 z4=>?_
    simp only [Dp]
    refine (fS ⟨by simp only; exact DJ ‹_› ‹_› ‹_›,z1⟩ z2 (fun i h1 h2=>?_) (fun p m=>?_))
    ·simp only [iB]
     by_cases g:i≤min (min bp.1 bn.1) bk.1
     ·rw [if_pos g]
      exact (jL bp.2 bn.2 bk.2 rfl (by simp only [aF]; rw [if_pos (by exact sT ‹_› ‹_›)]) (by simp only [aF]; rw [if_pos (by exact sT ‹_› ‹_›)]) (by simp only [aF]; rw [if_pos (by exact sT ‹_› ‹_›)]))
     ·rw [if_neg g]
      refine ga (z3 i (by exact Fu ‹_›) h2) fun c y m w1 w2 w3 w4=>?_
      rw [wY (by exact Gi ‹_›)] at w2 w3 w4
      exact (jL c y m w1 w2 w3 w4)
    ·rcases List.mem_cons.mp m with rfl | m
     ·exact (cw (m1a2 bp (.head _) rfl) (m1a2 bn (.head _) rfl) (m1a2 bk (.head _) rfl))
     ·refine gD (z4 p m) fun t_1 t_2 t_3=>?_; refine aB t_1 fun a1 b1 c1=>?_; clear t_1; refine aB t_2 fun a2 b2 c2=>?_; clear t_2; refine aB t_3 fun a3 b3 c3=>?_; clear t_3
      exact (cw (m1a2 a1 (pQ b1) c1) (m1a2 a2 (pQ b2) c2) (m1a2 a3 (pQ b3) c3))
section
variable {D D':Dia} {n m x i l c y r:Nat} {nd:Nd}
theorem kT (w:WF D) (hn:D.nodes[n]?=some nd) (hx:x < 3):Good (D.top x) (nd.side n x (D.top x))∧(nd.side n x (D.top x)).length≤100∧(∀ i,i≤D.top x→aF (nd.side n x (D.top x)) i=some (D.sub x n i))∧
  (x≤nd.lev→∀ p∈nd.side n x (D.top x),p.2 < D.nodes.length∧x < D.lev p.2):=by
 have hlt:=(List.getElem?_eq_some_iff.mp hn).1
 have ht:=(w.topx hx).2
 have one:Good (D.top x) [(D.top x,n)]:=⟨⟨by simp only; exact De,trivial⟩,rfl⟩
 induction nd using Nd.casesOn with
 | leaf v=>
  refine (fS one (by simp [Nd.side]) (fun i hi=>?_) (fun zz p hp=>?_))
  ·simp only [Nd.side,aF]; rw [if_pos hi]; unfold Dia.sub; rw [hn]
  ·simp only [Nd.side,List.mem_singleton] at hp; subst hp; exact ⟨hlt,by rw [cE hn]; exact hx⟩
 | inner y ps=>
  by_cases e:y=x
  ·induction e
   refine dR (w.inner n y ps hn) fun h1 h2 h3 h4 h5=>?_
   refine (fS (by simpa [Nd.side] using h2) (by simp only [Nd.side,if_true]; have:=h2.len; exact pU ‹_› ‹_› rfl) (fun i hi=>?_) (fun zz p hp=>?_))
   ·simp only [Nd.side,if_true]
    refine aB (h2.part hi) fun c hc zz=>?_
    unfold Dia.sub; rw [hn]; simp only [if_true]; rw [hc]; rfl
   ·simp only [Nd.side,if_true] at hp
    exact ⟨Nat.lt_trans (h5 p hp).1 hlt,(h5 p hp).2⟩
  ·refine (fS (by simpa [Nd.side,e] using one) (by simp [Nd.side,e]) (fun i hi=>?_) (fun hl p hp=>?_))
   ·simp only [Nd.side,e,if_false,aF]; rw [if_pos hi]; unfold Dia.sub; rw [hn]; simp only; rw [if_neg e]
   ·simp only [Nd.side,e,if_false,List.mem_singleton] at hp; subst hp
    refine ⟨hlt,?_⟩
    rw [cE hn]; simp only [Nd.lev] at hl ⊢; lia
noncomputable def mn (D:Dia) (c y m:Nat):Nat:=min (min (D.lev c) (D.lev y)) (D.lev m)
structure Sel (D:Dia) (c y m r:Nat):Prop where
 lev:mn D c y m≤D.lev r
 val:∀ cell,D.Box (mn D c y m) cell→D.val (mn D c y m) r cell=if D.val (mn D c y m) c cell=.int 1 then D.val (mn D c y m) y cell else D.val (mn D c y m) m cell
theorem gE (e:l < D.lev n) (h3:l < 3) {i:Nat} {cs:List Nat}:D.val l n (i :: cs)=D.val (l + 1) n cs:=by
 simp only [Dia.val]; rw [dF (by exact Di ‹_›) h3]
theorem Sel.low (h:Sel D c y m r) (h3:mn D c y m≤3):∀ (k:Nat) {l:Nat},l + k=mn D c y m→∀ cell,D.Box l cell→D.val l r cell=if D.val l c cell=.int 1 then D.val l y cell else D.val l m cell:=by
 intro k
 induction k with
 | zero=>
  intro l hl cell hb; have:l=mn D c y m:=by assumption
  subst this; exact h.val cell hb
 | succ k ih=>
  intro l hl cell hb
  have h1:=h.lev
  have hm:mn D c y m≤D.lev c∧mn D c y m≤D.lev y∧mn D c y m≤D.lev m:=by unfold mn; exact DI
  induction cell using List.casesOn with
  | nil=>
   have:l=3:=hb
   lia
  | cons i cs=>
   rw [gE (by lia) hb.1,gE (by lia) hb.1,gE (by lia) hb.1,gE (by lia) hb.1]
   exact ih (by exact sS ‹_›) cs hb.2.2
theorem Sel.ext (h:Sel D c y m r) (E:Ext D D') (w:WF D) (hc:c < D.nodes.length) (hy:y < D.nodes.length) (hm:m < D.nodes.length) (hr:r < D.nodes.length):Sel D' c y m r:=by
 have e:mn D' c y m=mn D c y m:=by unfold mn; rw [E.lev hc,E.lev hy,E.lev hm]
 refine ⟨by rw [e,E.lev hr]; exact h.lev,fun cell hb=>?_⟩
 rw [e] at hb ⊢
 rw [E.box] at hb
 rw [E.val w hr hb,E.val w hc hb,E.val w hy hb,E.val w hm hb]
 exact h.val cell hb
structure WF2 (D:Dia):Prop where
 wf:WF D
 memo:∀ e∈D.memo,e.1.1 < D.nodes.length∧e.1.2.1 < D.nodes.length∧e.1.2.2 < D.nodes.length∧e.2 < D.nodes.length∧Sel D e.1.1 e.1.2.1 e.1.2.2 e.2
theorem WF2.ext (w:WF2 D) (E:Ext D D') (w':WF D') (hm:D'.memo=D.memo):WF2 D':=⟨w',fun e m=>by
 rw [hm] at m
 refine dR (w.memo e m) fun h1 h2 h3 h4 h5=>?_
 have:=E.len
 exact (ij (by exact mE ‹_› ‹_›) (by exact mE ‹_› ‹_›) (by exact mE ‹_› ‹_›) (by exact mE ‹_› ‹_›) (h5.ext E w.wf h1 h2 h3 h4))⟩
theorem pq {P:List (Nat×Nat×Nat×Nat)} (hx:x=mn D c y m) (h3:x < 3) (hr:x≤D.lev r)
  (hs:∀ i,i≤D.top x→∃ s,D.sub x r i=s∧Sel D (D.sub x c i) (D.sub x y i) (D.sub x m i) s∧x < mn D (D.sub x c i) (D.sub x y i) (D.sub x m i)∧mn D (D.sub x c i) (D.sub x y i) (D.sub x m i)≤3):Sel D c y m r:=by
 refine ⟨hx▸hr,fun cell hb=>?_⟩
 rw [← hx] at hb ⊢
 induction cell using List.casesOn with
 | nil=>have:x=3:=hb; lia
 | cons i cs=>
  refine t4 (hs i hb.2.1) fun s h1 h2 h4 h5=>?_
  simp only [Dia.val,h1]
  exact h2.low h5 (mn D (D.sub x c i) (D.sub x y i) (D.sub x m i) - (x + 1)) (by lia) cs hb.2.2
end
theorem kr (k:Nat×Nat×Nat):Kk 1 (hO k):=Kk.tup fun x m=>by
 simp at m; rcases m with rfl | rfl | rfl <;> exact Kk.int
theorem qP {a b:Nat×Nat×Nat} (h:hO a=hO b):a=b:=by
 simp only [hO,PyData.tuple.injEq,List.cons.injEq,PyData.int.injEq,and_true] at h
 exact Prod.ext (by lia) (Prod.ext (by lia) (by lia))
theorem je (k:Nat×Nat×Nat):∀ (ms:List ((Nat×Nat×Nat)×Nat)),findKey (hO k) (memoD ms)=(ms.find? (fun e=>decide (e.1=k))).map fun e=>iD e.2
 | []=>rfl
 | e :: ms=>by
  have ih:=je k ms
  unfold findKey at ih ⊢
  simp only [memoD,List.map_cons,List.find?_cons] at ih ⊢
  rw [iO (kr e.1).ok.1 (kr k).ok.1]
  by_cases q:e.1=k
  ·simp [q]
  ·have:¬ hO e.1=hO k:=fun z=>q (qP z)
   simp only [this,decide_false,q]
   exact ih
theorem kK (k:Nat×Nat×Nat) (ms:List ((Nat×Nat×Nat)×Nat)):dj (hO k) (memoD ms)=true:=by
 unfold dj
 rw [(kr k).key]
 show dJ (hO k) (memoD ms)=true
 unfold dJ
 simp only [hO,memoD,List.all_map,List.all_eq_true]
 intro e _; rfl
noncomputable def memoPut (k:Nat×Nat×Nat) (r:Nat):List ((Nat×Nat×Nat)×Nat)→List ((Nat×Nat×Nat)×Nat)
 | []=>[(k,r)]
 | e :: es=>if e.1=k then (e.1,r) :: es else e :: memoPut k r es
theorem qv (k:Nat×Nat×Nat) (r:Nat):∀ (ms:List ((Nat×Nat×Nat)×Nat)),putKey (hO k) (iD r) (memoD ms)=memoD (memoPut k r ms)
 | []=>rfl
 | e :: ms=>by
  have ih:=qv k r ms
  simp only [memoD,List.map_cons,putKey,memoPut] at ih ⊢
  rw [iO (kr e.1).ok.1 (kr k).ok.1]
  by_cases q:e.1=k
  ·simp [q]
  ·have:¬ hO e.1=hO k:=fun z=>q (qP z)
   simp only [this,decide_false,q,if_false,List.map_cons,ih,Bool.false_eq_true]
theorem ko (k:Nat×Nat×Nat) (r:Nat):∀ (ms:List ((Nat×Nat×Nat)×Nat)),(memoPut k r ms).find? (fun e=>decide (e.1=k))=some (k,r)
 | []=>by simp [memoPut]
 | e :: ms=>by
  simp only [memoPut]
  by_cases q:e.1=k
  ·simp [q]
  ·simp only [q,if_false,List.find?_cons,decide_false]; exact ko k r ms
theorem lK {k:Nat×Nat×Nat} {r:Nat}:∀ {ms:List ((Nat×Nat×Nat)×Nat)} {e},e∈memoPut k r ms→e=(k,r)∨e∈ms
 | [],e,h=>by simp [memoPut] at h; exact .inl h
 | f :: ms,e,h=>by
  simp only [memoPut] at h
  split at h
  ·rename_i q
   rcases List.mem_cons.mp h with h | h
   ·left; rw [h,q]
   ·exact .inr (.tail _ h)
  ·rcases List.mem_cons.mp h with h | h
   ·right; rw [h]; exact .head _
   ·rcases lK h with h | h
    ·exact .inl h
    ·exact .inr (.tail _ h)
theorem lL {k:Nat×Nat×Nat} {r:Nat}:∀ {ms:List ((Nat×Nat×Nat)×Nat)},(memoPut k r ms).length≤ms.length + 1
 | []=>by simp [memoPut]
 | f :: ms=>by
  simp only [memoPut]
  split
  ·simp
  ·have:=lL (k:=k) (r:=r) (ms:=ms); simp; assumption
noncomputable def tN:Nat→Nat
 | 0=>0
 | k + 1=>1 + 5 * tN k
structure Ch (D:Dia) (c y m:Nat) (D':Dia) (r k:Nat):Prop where
 wf:WF2 D'
 ext:Ext D D'
 lt:r < D'.nodes.length
 sel:Sel D' c y m r
 nodes:D'.nodes.length≤D.nodes.length + tN k
 memo:D'.memo.length≤D.memo.length + tN k
noncomputable def ChooseAt (W b k:Nat):Prop:=∀ {D:Dia} {σ:AS} {c y m:Nat},WF2 D→HoldsAt b D σ.heap→aI σ.heap=true→D.nodes.length + tN k≤9000→D.memo.length + tN k≤9000→c < D.nodes.length→y < D.nodes.length→m < D.nodes.length→3≤mn D c y m + k→
  ∃ D' r,(∀ n,20 * k≤n→callF prog W (n + 60) 10 [.o b,.d (iD c),.d (iD y),.d (iD m)] σ=some (.d (iD r),{ σ with heap:=bQ b D' σ.heap }))∧Ch D c y m D' r k
noncomputable def chElt:E:=.tup [(.loc 1),(.call 10 [(.out 0),(.sub (.loc 2) (.int 0)),(.sub (.loc 2) (.int 1)),(.sub (.loc 2) (.int 2))])]
section
variable {W n b k:Nat} {σ:AS} {D:Dia}
theorem uU (IH:ChooseAt W b k) {out:List (Option AV)} (ho:out[0]?=some (some (.o b))):∀ (P:List (Nat×Nat×Nat×Nat)) {acc:List PyData} {D:Dia} {H:List AO} {l0 l1 l2 l3 l4:Option AV},WF2 D→HoldsAt b D H→aI H=true→
  D.nodes.length + P.length * tN k≤9000→D.memo.length + P.length * tN k≤9000→acc.length + P.length≤100→
  (∀ p∈P,p.2.1 < D.nodes.length∧p.2.2.1 < D.nodes.length∧p.2.2.2 < D.nodes.length∧3≤mn D p.2.1 p.2.2.1 p.2.2.2 + k)→
  ∃ D' parts loc',(∀ n,20 * k≤n→compItems (Dg.compTurn prog W (n + 65) chElt (.tup [(.loc 1),(.loc 2)]) [] []) (P.map pieceD) acc { loc:=[l0,l1,l2,l3,l4],out:=out,heap:=H }=some (acc++parts.map partD,{ loc:=loc',out:=out,heap:=bQ b D' H }))∧
   WF2 D'∧Ext D D'∧D'.nodes.length≤D.nodes.length + P.length * tN k∧D'.memo.length≤D.memo.length + P.length * tN k∧
   L2 (fun (p:Nat×Nat×Nat×Nat) (q:Nat×Nat)=>q.1=p.1∧q.2 < D'.nodes.length∧Sel D' p.2.1 p.2.2.1 p.2.2.2 q.2) P parts:=by
 intro P
 induction P with
 | nil=>
  intro acc D H l0 l1 l2 l3 l4 w h hc _ _ _ _
  exact (sb D [] [l0,l1,l2,l3,l4] (fun n zz=>by simp only [List.map_nil,compItems,List.append_nil,h.upd_self]) w (Ext.refl D) (by simp) (by simp) .nil)
 | cons p P ih=>
  intro acc D H l0 l1 l2 l3 l4 w h hc hn hm hl hp
  refine gC (hp p (.head _)) fun p1 p2 p3 p4=>?_
  simp only [List.length_cons,Nat.succ_mul] at hn hm hl
  refine eW (IH (σ:={ loc:=[l0,some (.d (iD p.1)),some (.d (.list [iD p.2.1,iD p.2.2.1,iD p.2.2.2])),l3,l4],out:=out,heap:=H }) w h hc (by lia) (by lia) p1 p2 p3 p4) fun fm r hcall X=>?_
  have xl:=X.ext.len
  refine rJ (ih (acc:=acc++[partD (p.1,r)]) (H:=bQ b fm H) (l0:=l0) (l1:=some (.d (iD p.1))) (l2:=some (.d (.list [iD p.2.1,iD p.2.2.1,iD p.2.2.2]))) (l3:=l3) (l4:=l4) X.wf (h.upd X.ext.tops) (b9 hc) (by have:=X.nodes; lia) (by have:=X.memo; lia) (by simp; exact yE ‹_›)
   (fun q mq=>by
    refine gC (hp q (.tail _ mq)) fun q1 q2 q3 q4=>?_
    refine (fS (by exact mE ‹_› ‹_›) (by exact mE ‹_› ‹_›) (by exact mE ‹_› ‹_›) ?_)
    unfold mn at q4 ⊢
    rw [X.ext.lev q1,X.ext.lev q2,X.ext.lev q3]; exact q4)) fun cy parts loc' hrest w2 E2 n2 m2 A2=>?_
  have el:=E2.len
  have xlt:=X.lt
  refine (sb cy ((p.1,r) :: parts) loc' (fun n hk=>?_) w2 (X.ext.trans E2) (by have:=X.nodes; simp only [List.length_cons,Nat.succ_mul]; lia) (by have:=X.memo; simp only [List.length_cons,Nat.succ_mul]; lia) (.cons (cw rfl (by exact mE ‹_› ‹_›) (X.sel.ext E2 X.wf.wf (by exact mE ‹_› ‹_›) (by exact mE ‹_› ‹_›) (by exact mE ‹_› ‹_›) xlt)) A2))
  have hr:=hrest n hk
  rw [dL] at hr
  simp only [List.map_cons,compItems,bd,chElt,pieceD,ay,af,bM,aM,aD,aG,bb,ai,ag,ae,aA,ax,au,aE,aP,bJ,aW,aY,aL,bZ,aR,cU,bf,AS.setLoc,az,AS.freezeAll,List.getElem?_cons_zero,List.getElem?_cons_succ,List.set_cons_zero,List.set_cons_succ,List.map_cons,if_true,cB,ho,qR,it31,it32,dp,hcall n hk,(show acc.length < 1000000 by exact xa ‹_› rfl)]
  simp only [chElt,partD] at hr
  refine (hr).trans ?_
  simp [partD]
theorem xX {P:List (Nat×Nat×Nat×Nat)} {ps:List (Nat×Nat)} (h:L2 (fun (p:Nat×Nat×Nat×Nat) (q:Nat×Nat)=>q.1=p.1) P ps):∀ {a:Int},(aZ a (Du P)→aZ a ps)∧aN a ps=aN a (Du P):=by
 induction h with
 | nil=>exact ⟨fun h=>h,rfl⟩
 | @cons p q _ _ h t ih=>
  intro a
  have ih:=@ih q.1
  show (_ < _∧aZ (p.1:Int) _→_ < _∧aZ (q.1:Int) _)∧aN (q.1:Int) _=aN (p.1:Int) _
  rw [← h]
  exact ⟨fun hr=>⟨hr.1,ih.1 hr.2⟩,ih.2⟩
theorem uY {R:Nat×Nat×Nat×Nat→Nat×Nat→Prop} {P:List (Nat×Nat×Nat×Nat)} {ps:List (Nat×Nat)} (h:L2 (fun (p:Nat×Nat×Nat×Nat) (q:Nat×Nat)=>q.1=p.1∧R p q) P ps) {i:Nat} {t:Nat×Nat×Nat}:iB P i=some t→∃ p∈P,∃ q,p.2=t∧aF ps i=some q.2∧R p q:=by
 induction h with
 | nil=>intro h; exact nS h
 | @cons p q ps qs h tl ih=>
  intro e
  have e:(if i≤p.1 then some p.2 else iB ps i)=some t:=e
  by_cases g:i≤p.1
  ·rw [if_pos g] at e
   exact (m1a2 p (.head _) (dT q (Option.some.inj e) (if_pos (h.1▸g)) h.2))
  ·rw [if_neg g] at e
   refine aB (ih e) fun p' m t_1=>?_; refine fq t_1 fun q' a1 a2 a3=>?_
   exact (m1a2 p' (.tail _ m) (dT q' a1 ((if_neg (h.1▸g)).trans a2) a3))
theorem yN (w:WF D) {c y m:Nat} (hc:c < D.nodes.length):mn D c y m≤3:=by
 have:=w.lev_le hc; unfold mn; exact DH ‹_›
theorem ql {c y:Nat}:Sel D c y y y:=⟨by unfold mn; exact Bl,fun cell zz=>by split <;> rfl⟩
theorem iq {c:Nat} {v:PyData} (gc:D.nodes[c]?=some (.leaf v)):∀ {cell:List Nat} {l:Nat},D.Box l cell→D.val l c cell=v
 | [],l,_=>by simp only [Dia.val,Dia.leafv,gc]
 | i :: cs,l,h=>by
  refine (gE (by rw [cE gc]; exact h.1) h.1).trans ?_
  exact iq gc h.2.2
theorem qm {c y m:Nat} {v:PyData} (gc:D.nodes[c]?=some (.leaf v)):Sel D c y m (if v=.int 1 then y else m):=by
 refine ⟨?_,fun cell h=>?_⟩
 ·unfold mn; split <;> lia
 ·rw [iq gc h]; split <;> rfl
theorem lX {c y:Nat} (h:HoldsAt b D σ.heap):callF prog W (n + 60) 10 [.o b,.d (iD c),.d (iD y),.d (iD y)] σ=some (.d (iD y),{ σ with heap:=bQ b D σ.heap }):=by
 refine (bh (fd:=⟨4,11,b_choose⟩) rfl rfl).trans ?_
 simp only [b_choose,aq,am,av,bw,aK,aO,ay,cC,af,bl,cW,aM,bF,aD,aG,bu,aC,ai,ag,bq,ae,aE,aP,aV,aR,cU,cT,cn,cj,AS.setLoc,List.getElem?_cons_zero,List.getElem?_cons_succ,List.map_cons,List.map_nil,List.cons_append,List.nil_append,List.replicate,Nat.reduceSub,mD (show (y:Int)=y from rfl),cf,h.upd_self]
theorem lY {c y m:Nat} {v:PyData} (h:HoldsAt b D σ.heap) (F:Fits D) (O:mo D) (gc:D.nodes[c]?=some (.leaf v)) (hne:y≠m):
  callF prog W (n + 60) 10 [.o b,.d (iD c),.d (iD y),.d (iD m)] σ=some (.d (iD (if v=.int 1 then y else m)),{ σ with heap:=bQ b D σ.heap }):=by
 refine (bh (fd:=⟨4,11,b_choose⟩) rfl rfl).trans ?_
 have k:∀ (loc:List (Option AV)) (m:Nat),callF prog W (m + 8) 5 [.o b,.d (iD c)] { loc:=loc,out:=[],heap:=σ.heap }=some (.d (Nd.leaf v).enc,{ loc:=loc,out:=[],heap:=σ.heap }):=fun loc m=>eL (σ:={ loc:=loc,out:=[],heap:=σ.heap }) h F gc
 have hv:Val v:=O _ (List.mem_of_getElem? gc)
 have e1:∀ σ:AS,cmpV σ .eq (.d v) (.d (.int 1))=some (decide (v=.int 1)):=fun σ=>iR (Kk.ok hv).eq (iG 1)
 have e2:∀ σ:AS,cmpV σ .eq (.d cJ) (.d cJ)=some true:=fun σ=>gq
 simp only [Nd.enc,cJ] at k e2
 by_cases q:v=.int 1
 ·subst q
  simp only [b_choose,aq,am,av,bw,aK,aO,ay,cC,af,bl,cW,aM,bF,aD,aG,bu,aC,ai,ag,bq,ae,aA,ax,au,aE,aP,aV,aL,cM,eM,aR,cU,db,bG,cT,cn,bf,cj,AS.setLoc,List.getElem?_cons_zero,List.getElem?_cons_succ,List.set_cons_zero,List.set_cons_succ,List.map_cons,List.map_nil,List.cons_append,List.nil_append,List.replicate,Nat.reduceSub,if_true,li (show (y:Int)≠m by exact uZ ‹_›),h.self,k,e2,mD (show (1:Int)=1 from rfl),cf,h.upd_self]
 ·simp only [b_choose,aq,am,av,bw,aK,aO,ay,cC,af,bl,cW,aM,bF,aD,aG,bu,aC,ai,ag,bq,ae,aA,ax,au,aE,aP,aV,aL,cM,eM,aR,cU,db,bG,cT,cn,bf,cj,AS.setLoc,List.getElem?_cons_zero,List.getElem?_cons_succ,List.set_cons_zero,List.set_cons_succ,List.map_cons,List.map_nil,List.cons_append,List.nil_append,List.replicate,Nat.reduceSub,reduceIte,li (show (y:Int)≠m by exact uZ ‹_›),h.self,k,e2,e1,q,decide_false,cf,h.upd_self]
theorem re {c y m r x:Nat} {ps:List (Nat×Nat)} (h:HoldsAt b D σ.heap) (F:Fits D) (gc:D.nodes[c]?=some (.inner x ps)) (hne:y≠m) (hm:D.memo.find? (fun e=>decide (e.1=(c,y,m)))=some ((c,y,m),r)):
  callF prog W (n + 60) 10 [.o b,.d (iD c),.d (iD y),.d (iD m)] σ=some (.d (iD r),{ σ with heap:=bQ b D σ.heap }):=by
 refine (bh (fd:=⟨4,11,b_choose⟩) rfl rfl).trans ?_
 have k:∀ (loc:List (Option AV)) (m:Nat),callF prog W (m + 8) 5 [.o b,.d (iD c)] { loc:=loc,out:=[],heap:=σ.heap }=some (.d (Nd.inner x ps).enc,{ loc:=loc,out:=[],heap:=σ.heap }):=fun loc m=>eL (σ:={ loc:=loc,out:=[],heap:=σ.heap }) h F gc
 have e1:=je (c,y,m) D.memo
 rw [hm] at e1
 have e2:=kK (c,y,m) D.memo
 simp only [hO,Option.map_some] at e1 e2
 simp only [Nd.enc] at k
 have e3:∀ σ:AS,cmpV σ .eq (.d (.int x)) (.d cJ)=some false:=fun σ=>fE
 simp only [cJ] at e3
 simp only [b_choose,aq,am,av,bw,aK,aO,ay,cC,af,bl,cW,aM,bF,aD,aG,bu,aC,ai,ag,bq,ae,aA,ax,au,aE,aP,aW,aV,aY,aL,fA,cM,bZ,eM,aR,db,bG,cT,cn,bf,cj,AS.setLoc,az,AS.freezeAll,List.getElem?_cons_zero,List.getElem?_cons_succ,List.set_cons_zero,List.set_cons_succ,List.map_cons,List.map_nil,List.cons_append,List.nil_append,List.replicate,Nat.reduceSub,if_true,li (show (y:Int)≠m by exact uZ ‹_›),h.self,h.memo,k,e3,cX,sm,ux,e1,e2,Option.isSome_some,Bool.not_true,Option.map_some,eO,xG,cf,h.upd_self]
theorem sG (hW:100≤W):∀ k,ChooseAt W b k:=by
 intro k
 induction k with
 | zero=>
  intro D σ c y m w h hc hn hm lc ly lm hk
  have F:Fits D:=⟨w.wf.tops,by exact lC ‹_›,by exact lC ‹_›⟩
  obtain ⟨v,gc⟩:=mI w.wf lc (by unfold mn at hk; exact DF ‹_›)
  by_cases e:y=m
  ·induction e
   exact ⟨D,y,fun n zz=>lX h,w,Ext.refl D,ly,ql,Nat.le_add_right _ _,Nat.le_add_right _ _⟩
  ·exact ⟨D,_,fun n zz=>lY h F w.wf.ok gc e,w,Ext.refl D,by split <;> assumption,qm gc,Nat.le_add_right _ _,Nat.le_add_right _ _⟩
 | succ k IH=>
  intro D σ c y m w h hc hn hm lc ly lm hk
  have F:Fits D:=⟨w.wf.tops,by exact lC ‹_›,by exact lC ‹_›⟩
  by_cases e:y=m
  ·induction e
   exact ⟨D,y,fun n zz=>lX h,w,Ext.refl D,ly,ql,Nat.le_add_right _ _,Nat.le_add_right _ _⟩
  induction gc:D.nodes[c]? using Option.casesOn with
  | none=>rw [List.getElem?_eq_getElem lc] at gc; exact sN gc
  | some Nc=>
  induction Nc using Nd.casesOn with
  | leaf v=>exact ⟨D,_,fun n zz=>lY h F w.wf.ok gc e,w,Ext.refl D,by split <;> assumption,qm gc,Nat.le_add_right _ _,Nat.le_add_right _ _⟩
  | inner xc pc=>
  induction hf:D.memo.find? (fun e=>decide (e.1=(c,y,m))) using Option.casesOn with
  | some en=>
   refine bc fun hn=>?_
   obtain ⟨k0,r⟩:=en
   have h1:=List.find?_some hf
   simp only [decide_eq_true_eq] at h1
   subst h1
   refine dR (w.memo _ (List.mem_of_find?_eq_some hf)) fun zz zz zz q4 q5=>?_
   refine hn ?_
   exact ⟨D,r,fun n zz=>re h F gc e hf,w,Ext.refl D,q4,q5,Nat.le_add_right _ _,Nat.le_add_right _ _⟩
  | none=>
   have gy:=List.getElem?_eq_getElem ly
   have gm:=List.getElem?_eq_getElem lm
   generalize D.nodes[y]=Ny at gy
   generalize D.nodes[m]=Nm at gm
   obtain ⟨x,hx⟩:∃ x,x=mn D c y m:=⟨_,rfl⟩
   have hx':min (min (Nd.inner xc pc).lev Ny.lev) Nm.lev=x:=by rw [hx]; unfold mn; rw [cE gc,cE gy,cE gm]
   have h3:x < 3:=by
    have:=(w.wf.inner c xc pc gc).1
    have e1:=cE gc
    simp only [Nd.lev] at e1
    rw [hx]; unfold mn; exact DG ‹_› ‹_›
   refine bc fun hn=>?_
   refine gC (kT w.wf gc h3) fun a1 a2 a3 a4=>?_
   refine gC (kT w.wf gy h3) fun b1 b2 b3 b4=>?_
   refine gC (kT w.wf gm h3) fun c1 c2 c3 c4=>?_
   obtain ⟨ht,ht4⟩:=w.wf.topx h3
   have a4:=a4 (by exact Ga ‹_›)
   have b4:=b4 (by exact F9 ‹_›)
   have c4:=c4 (by exact F8 ‹_›)
   refine gC (sa 10 (a:=-1) (by decide) a1.rise b1.rise c1.rise a1.last b1.last c1.last (by lia)) fun z1 z2 z3 z4=>?_
   refine hn ?_
   generalize hP:mergeP 10 ((Nd.inner xc pc).side c x (D.top x)) (Ny.side y x (D.top x)) (Nm.side m x (D.top x))=P at z1 z2 z3 z4
   have hPl:P.length≤5:=by
    have:=jE z1
    rw [z2] at this
    simp at this; lia
   have hcn:P.length * tN k≤5 * tN k:=Nat.mul_le_mul_right _ hPl
   have hck:tN (k + 1)=1 + 5 * tN k:=rfl
   have lev_mn:∀ {p0 p1 p2:Nat},x < D.lev p0→x < D.lev p1→x < D.lev p2→x < mn D p0 p1 p2:=fun h1 h2 h3=>by unfold mn; exact DK ‹_› ‹_› ‹_›
   have hch:∀ p∈P,p.2.1 < D.nodes.length∧p.2.2.1 < D.nodes.length∧p.2.2.2 < D.nodes.length∧x < mn D p.2.1 p.2.2.1 p.2.2.2:=fun p mp=>by
    refine gD (z4 p mp) fun t_2 t_3 t_4=>?_; obtain ⟨q0,g0,e0⟩:=t_2; obtain ⟨q1,g1,e1⟩:=t_3; obtain ⟨q2,g2,e2⟩:=t_4
    have:=a4 q0 g0
    have:=b4 q1 g1
    have:=c4 q2 g2
    rw [e0] at *; rw [e1] at *; rw [e2] at *
    exact (fS (by exact zb ‹_›) (by exact zb ‹_›) (by exact zb ‹_›) (lev_mn (by exact za ‹_›) (by exact za ‹_›) (by exact za ‹_›)))
   refine rJ (uU (b:=b) IH (out:=[some (.o b),some (.d (iD c)),some (.d (iD y)),some (.d (iD m)),some (.d (iD xc)),some (.d (.tuple (pc.map partD))),some (.d (hO (c,y,m))),some (.d (iD x)),some (.d (.list (P.map pieceD))),none,none]) rfl P (acc:=[]) (l0:=none) (l1:=none) (l2:=none) (l3:=none) (l4:=none) w h hc
    (by lia) (by lia) (by simp; exact zb1 ‹_› rfl) (fun p mp=>by
     refine gC (hch p mp) fun h1 h2 h3 h4=>?_
     exact (fS h1 h2 h3 (by lia)))) fun fm parts loc' hcomp w1 E1 n1 m1 A1=>?_
   have el:=E1.len
   obtain ⟨R1,R2⟩:=xX (a:=-1) (A1.map fun zz zz h=>h.1)
   have gp:Good (fm.top x) parts:=⟨R1 z1,by rw [R2,z2,E1.top]⟩
   have mnE:∀ p∈P,mn fm p.2.1 p.2.2.1 p.2.2.2=mn D p.2.1 p.2.2.1 p.2.2.2:=fun p mp=>by
    refine gC (hch p mp) fun h1 h2 h3 zz=>?_
    unfold mn; rw [E1.lev h1,E1.lev h2,E1.lev h3]
   have hpl:∀ q∈parts,q.2 < fm.nodes.length∧x < fm.lev q.2:=fun q mq=>by
    refine t4 (A1.right q mq) fun p mp zz h2 h3=>?_
    have h4:=h3.lev
    rw [mnE p mp] at h4
    exact ⟨h2,by have:=(hch p mp).2.2.2; exact mE ‹_› ‹_›⟩
   refine pV (oM w1.wf h3 gp hpl) fun v1 v2 v3 v4 v5 v6 v7=>?_
   have F1:Fits fm:=⟨w1.wf.tops,by lia,by lia⟩
   have t1:fm.tops[x]?=some (D.top x):=by rw [E1.tops]; exact ht
   have gp':aZ (-1) parts∧aN (-1) parts=D.top x:=⟨gp.rise,by rw [gp.last,E1.top]⟩
   have hpl':parts.length≤100:=by rw [← A1.len]; exact zb1 ‹_› rfl
   have hm':=fun (loc:List (Option AV)) (j:Nat)=>qJ (W:=W) (n:=j) (σ:={ loc:=loc,out:=[],heap:=bQ b fm σ.heap }) (h.upd E1.tops) (b9 hc) F1 w1.wf.ok t1 gp'.1 gp'.2 hpl'
   have hs':=fun (loc:List (Option AV)) (j:Nat)=>rT (nc:=0) (ny:=0) (nm:=0) (W:=W) (n:=j) (σ:={ loc:=loc,out:=[],heap:=σ.heap }) h hc F hW gc gy gm hx' ht a1.rise b1.rise c1.rise a1.last b1.last c1.last a2 b2 c2
   have hk':=fun (loc:List (Option AV)) (j:Nat)=>eL (W:=W) (n:=j) (σ:={ loc:=loc,out:=[],heap:=σ.heap }) h F gc
   simp only [hP] at hs'
   generalize hM:fm.make x parts=M at v1 v2 v3 v4 v5 v6 v7 hm'
   obtain ⟨cy,r⟩:=M
   simp only [dL] at v1 v2 v3 v4 v5 v6 v7 hm'
   have E2:=E1.trans v2
   have hh2:HoldsAt b cy (bQ b cy σ.heap):=h.upd (by rw [v2.tops,E1.tops])
   have hh3:HoldsAt b { cy with memo:=memoPut (c,y,m) r cy.memo } (bQ b { cy with memo:=memoPut (c,y,m) r cy.memo } σ.heap):=h.upd (by show cy.tops=D.tops; rw [v2.tops,E1.tops])
   have hset:(bQ b cy σ.heap).set (b + 3) (.dict (memoD (memoPut (c,y,m) r cy.memo)))=bQ b { cy with memo:=memoPut (c,y,m) r cy.memo } σ.heap:=by
    unfold bQ; simp
   have w2:WF2 cy:=w1.ext v2 v1 v3
   have Lc:c < cy.nodes.length:=by have:=E2.len; exact mE ‹_› ‹_›
   have Ly:y < cy.nodes.length:=by have:=E2.len; exact mE ‹_› ‹_›
   have Lm:m < cy.nodes.length:=by have:=E2.len; exact mE ‹_› ‹_›
   have hsel:Sel cy c y m r:=by
    have hxe:x=mn cy c y m:=by rw [hx]; unfold mn; rw [E2.lev lc,E2.lev ly,E2.lev lm]
    refine pq (P:=P) hxe h3 v6 fun i hi=>?_
    have hi':i≤D.top x:=by rw [← E2.top]; exact hi
    refine ga (z3 i (by exact De) hi') fun s0 s1 s2 u1 u2 u3 u4=>?_
    rw [a3 i hi'] at u2
    rw [b3 i hi'] at u3
    rw [c3 i hi'] at u4
    induction Option.some.inj u2; induction Option.some.inj u3; induction Option.some.inj u4
    refine bc fun hn=>?_
    refine aB (uY A1 u1) fun p mp t_5=>?_; refine t4 t_5 fun q g1 g2 g3 g4=>?_
    refine gC (hch p mp) fun h1 h2 h3' h4=>?_
    refine hn ?_
    rw [E2.sub lc,E2.sub ly,E2.sub lm]
    have q0:p.2.1=D.sub x c i:=by rw [g1]
    have q1:p.2.2.1=D.sub x y i:=by rw [g1]
    have q2:p.2.2.2=D.sub x m i:=by rw [g1]
    rw [q0,q1,q2] at g4 h4
    rw [q0] at h1; rw [q1] at h2; rw [q2] at h3'
    have mm2:mn cy (D.sub x c i) (D.sub x y i) (D.sub x m i)=mn D (D.sub x c i) (D.sub x y i) (D.sub x m i):=by unfold mn; rw [E2.lev h1,E2.lev h2,E2.lev h3']
    refine (xN q.2 ?_ (g4.ext v2 w1.wf (by exact mE ‹_› ‹_›) (by exact mE ‹_› ‹_›) (by exact mE ‹_› ‹_›) g3) (by rw [mm2]; exact h4) (by rw [mm2]; exact yN w.wf h1))
    rw [v7 i (by rw [E1.top]; exact hi'),g2]; rfl
   have E3:Ext cy { cy with memo:=memoPut (c,y,m) r cy.memo }:=⟨rfl,[],by simp⟩
   refine ⟨{ cy with memo:=memoPut (c,y,m) r cy.memo },r,fun n hn20=>?_,⟨⟨w2.wf.tops,w2.wf.nodup,w2.wf.ok,w2.wf.inner⟩,fun e' me=>?_⟩,⟨E2.tops,E2.nodes⟩,v4,hsel.ext E3 w2.wf Lc Ly Lm v4,by show cy.nodes.length≤_; lia,?_⟩
   ·obtain ⟨n',rfl⟩:∃ n',n=n' + 20:=⟨n - 20,by lia⟩
    show callF prog W (n' + 80) 10 _ σ=_
    refine (bh (fd:=⟨4,11,b_choose⟩) rfl rfl).trans ?_
    have hcomp':=hcomp (n' + 4) (by lia)
    have e1:=je (c,y,m) D.memo
    rw [hf] at e1
    have e2:=kK (c,y,m) D.memo
    have e5:=je (c,y,m) (memoPut (c,y,m) r cy.memo)
    rw [ko] at e5
    have e6:=kK (c,y,m) (memoPut (c,y,m) r cy.memo)
    have e7:=kK (c,y,m) cy.memo
    have e8:=qv (c,y,m) r cy.memo
    have e9:(memoD cy.memo).length < 1000000:=by simp [memoD]; rw [v3]; lia
    have e3:∀ σ:AS,cmpV σ .eq (.d (.int xc)) (.d cJ)=some false:=fun σ=>fE
    have s0:=(h.upd E1.tops).self
    have s1:=hh2.self
    have s2:=hh2.memo
    have s3:=hh3.self
    have s4:=hh3.memo
    simp only [hO,Option.map_some,Option.map_none,Nd.enc,cJ,chElt] at e1 e2 e3 e5 e6 e7 e8 hcomp' hs' hk'
    simp only [b_choose,aq,am,av,bw,aK,aO,ay,cC,af,bl,cW,aM,bF,aD,aG,bu,aC,ai,ag,bq,ae,aA,ax,au,aE,aP,bJ,aW,aV,aY,aL,fA,cM,bZ,eM,aR,cU,db,bG,cT,ef,cn,bf,cj,AS.setLoc,az,AS.freezeAll,AS.put,List.getElem?_cons_zero,List.getElem?_cons_succ,List.set_cons_zero,List.set_cons_succ,List.map_cons,List.map_nil,List.cons_append,List.nil_append,List.replicate,Nat.reduceSub,if_true,cB,li (show (y:Int)≠m by exact uZ ‹_›),h.self,h.memo,hk',e3,cX,sm,ux,e1,e2,Option.isSome_none,Bool.not_false,Option.map_some,hs',hcomp',hm',s0,s1,s2,mZ,zH,e7,e8,e9,decide_true,Bool.and_self,hset,s3,s4,eO,xG,e5,e6,gM fJ]
   ·rcases lK me with rfl | me
    ·exact (ij Lc Ly Lm v4 (hsel.ext E3 w2.wf Lc Ly Lm v4))
    ·refine dR (w2.memo e' me) fun h1 h2 h3 h4 h5=>?_
     exact (ij h1 h2 h3 h4 (h5.ext E3 w2.wf h1 h2 h3 h4))
   ·have:=lL (k:=(c,y,m)) (r:=r) (ms:=cy.memo)
    rw [v3] at this
    show (memoPut (c,y,m) r cy.memo).length≤_
    rw [v3]; lia
end
noncomputable def holdsP (sp:List (Nat×Nat)) (i:Nat):Bool:=sp.any fun p=>decide (p.1≤i) && decide (i≤p.2)
inductive SpOk (top:Nat):List (Nat×Nat)→Prop where
 | one {a b:Nat}:a≤b→b≤top + 1→SpOk top [(a,b)]
 | two {a b c:Nat}:a≤b→b≤top + 1→c≤top→SpOk top [(a,b),(0,c)]
theorem SpOk.len {top:Nat} {sp:List (Nat×Nat)} (h:SpOk top sp):sp.length=1∨sp.length=2:=by
 induction h
 ·exact .inl rfl
 ·exact .inr rfl
noncomputable def td:Nat→List (Nat×Nat)→Bool
 | _,[]=>true
 | a,p :: ps=>decide (a≤p.1) && td (p.1 + 1) ps
theorem s9:∀ {ps:List (Nat×Nat)} {a:Nat} {z:Int},td a ps=true→z < a→aZ z ps
 | [],_,_,_,_=>trivial
 | p :: ps,a,z,h,hz=>by
  simp only [td,Bool.and_eq_true,decide_eq_true_eq] at h
  exact ⟨by lia,s9 h.2 (by lia)⟩
noncomputable def tB (ps:List (Nat×Nat)):Option Nat:=ps.getLast?.map (·.1)
theorem xR {ps:List (Nat×Nat)} {top:Nat} {z:Int} (h:tB ps=some top):aN z ps=top:=by
 rcases List.eq_nil_or_concat ps with rfl | ⟨l,q,rfl⟩
 ·simp [tB] at h
 ·simp only [List.concat_eq_append] at *
  refine (eG).trans ?_
  simp [tB] at h
  rw [h]
noncomputable def chk (top:Nat) (sp:List (Nat×Nat)):Bool:=
 let ps:=testParts top 1 0 sp
 td 0 ps && decide (tB ps=some top) && (List.range (top + 1)).all (fun i=>decide (aF ps i=some (if holdsP sp i then 1 else 0))) && ps.all fun p=>decide (p.2=1∨p.2=0)
theorem yt:((List.range 5).all fun top=>(List.range 6).all fun a=>(List.range 6).all fun b=>!(decide (a≤b) && decide (b≤top + 1)) || (chk top [(a,b)] && (List.range 5).all fun c=>!decide (c≤top) || chk top [(a,b),(0,c)]))=true:=by decide +kernel
theorem tP:∀ top < 5,∀ a < 6,∀ b < 6,a≤b→b≤top + 1→chk top [(a,b)]=true∧∀ c < 5,c≤top→chk top [(a,b),(0,c)]=true:=by
 intro top ht a ha b hb h1 h2
 have h:=yt
 simp only [List.all_eq_true,List.mem_range] at h
 have:=h top ht a ha b hb
 simp only [decide_eq_true h1,decide_eq_true h2,Bool.and_self,Bool.not_true,Bool.false_or,Bool.and_eq_true,List.all_eq_true,List.mem_range] at this
 refine ⟨this.1,fun c hc h3=>?_⟩
 have:=this.2 c hc
 simpa only [decide_eq_true h3,Bool.not_true,Bool.false_or] using this
noncomputable def te (yes no:Nat) (p:Nat×Nat):Nat×Nat:=(p.1,if p.2=1 then yes else no)
theorem vW {top yes no:Nat} {s:List (Nat×Nat)×Nat} {p:Nat×Nat}:testStep top yes no (s.1.map (te yes no),s.2) p=((testStep top 1 0 s p).1.map (te yes no),(testStep top 1 0 s p).2):=by
 unfold testStep
 by_cases e:p.1≤top
 ·by_cases e':p.1 > s.2
  ·simp [e,e',te]
  ·simp [e,e',te]
 ·simp [e]
theorem qq {top yes no:Nat}:∀ {ps:List (Nat×Nat)} {s:List (Nat×Nat)×Nat},ps.foldl (testStep top yes no) (s.1.map (te yes no),s.2)=((ps.foldl (testStep top 1 0) s).1.map (te yes no),(ps.foldl (testStep top 1 0) s).2)
 | [],s=>rfl
 | p :: ps,s=>by simp only [List.foldl_cons]; rw [vW]; exact qq
theorem uq {top yes no:Nat} {sp:List (Nat×Nat)}:testParts top yes no sp=(testParts top 1 0 sp).map (te yes no):=by
 unfold testParts
 have h:=qq (top:=top) (yes:=yes) (no:=no) (ps:=tidyP sp) (s:=([],0))
 simp only [List.map_nil] at h
 rw [h]
 simp only
 split
 ·simp [te]
 ·rfl
theorem qA {yes no:Nat}:∀ {ps:List (Nat×Nat)} {i:Nat},aF (ps.map (te yes no)) i=(aF ps i).map fun c=>if c=1 then yes else no
 | [],_=>rfl
 | p :: ps,i=>by
  simp only [List.map_cons,aF,te]
  split
  ·rfl
  ·exact qA
theorem qp {yes no:Nat}:∀ {ps:List (Nat×Nat)} {a:Int},aZ a ps→aZ a (ps.map (te yes no))
 | [],_,_=>trivial
 | p :: ps,a,h=>⟨h.1,qp (ps:=ps) h.2⟩
theorem qO {yes no:Nat}:∀ {ps:List (Nat×Nat)} {a:Int},aN a (ps.map (te yes no))=aN a ps
 | [],_=>rfl
 | p :: ps,a=>qO (ps:=ps)
theorem rP {top yes no:Nat} {sp:List (Nat×Nat)} (ht:top≤4) (h:SpOk top sp):
  Good top (testParts top yes no sp)∧(∀ i,i≤top→aF (testParts top yes no sp) i=some (if holdsP sp i then yes else no))∧∀ p∈testParts top yes no sp,p.2=yes∨p.2=no:=by
 have hc:chk top sp=true:=by
  cases h with
  | one h1 h2=>exact (tP top (by exact og ‹_› rfl) _ (by lia) _ (by lia) h1 h2).1
  | two h1 h2 h3=>exact (tP top (by exact og ‹_› rfl) _ (by lia) _ (by lia) h1 h2).2 _ (by exact DA ‹_› ‹_› rfl) h3
 simp only [chk,Bool.and_eq_true,decide_eq_true_eq,List.all_eq_true] at hc
 obtain ⟨⟨⟨h1,h2⟩,h3⟩,h4⟩:=hc
 rw [uq]
 refine (cw ⟨qp (s9 h1 (by exact De)),by refine (qO).trans ?_; exact xR h2⟩ (fun i hi=>?_) (fun p m=>?_))
 ·rw [qA,h3 i (by simp; exact zc3 ‹_›)]
  cases holdsP sp i <;> rfl
 ·refine aB (List.mem_map.mp m) fun q mq e_1=>?_; subst e_1
  rcases h4 q mq with e | e
  ·left; simp [te,e]
  ·right; simp [te,e]
noncomputable abbrev cF:=List (Nat×List (Nat×Nat))×PyData
noncomputable def testD (t:Nat×List (Nat×Nat)):PyData:=.tuple [iD t.1,.list (t.2.map partD)]
noncomputable def ruleD (r:cF):PyData:=.tuple [.list (r.1.map testD),r.2]
noncomputable def testAt (ts:List (Nat×List (Nat×Nat))) (s:Nat):Option (List (Nat×Nat)):=(ts.find? fun t=>decide (t.1=s)).map (·.2)
noncomputable def iQ (ts:List (Nat×List (Nat×Nat))):List Nat→List Nat→Bool
 | s :: ss,i :: cs=>(match testAt ts s with | some sp=>holdsP sp i | none=>true) && iQ ts ss cs
 | _,_=>true
noncomputable def jq (seq:List Nat):List cF→PyData→List Nat→PyData
 | [],e,_=>e
 | r :: rs,e,c=>if iQ r.1 seq c then r.2 else jq seq rs e c
structure RuleOk (D:Dia) (seq:List Nat) (r:cF):Prop where
 val:Val r.2
 nodup:(r.1.map (·.1)).Nodup
 len:r.1.length≤3
 spans:∀ t∈r.1,∀ pl:Nat,seq[pl]?=some t.1→SpOk (D.top pl) t.2
section
variable {W n b:Nat} {D:Dia} {H:List AO}
noncomputable def bS (b:Nat) (sv:PyData) (rv ev:AV) (num no:Nat) (l6 l7 l8 l9 l10 l11:Option AV) (H:List AO):AS:=
 { loc:=[some (.o b),some (.d sv),some rv,some ev,some (.d (iD num)),some (.d (iD no)),l6,l7,l8,l9,l10,l11,none,none],out:=[],heap:=H }
noncomputable def inBody:List S:=[.ite (.cmp .eq (.loc 10) (.sub (.loc 1) (.loc 9)))
       [.assign (.loc 8) (.call 9 [(.loc 0),(.loc 9),(.loc 11),(.loc 8),(.loc 5)])]
       []]
theorem yS {aw ac ao pl s cond num no:Nat} {rv ev:AV} {l6 l7 l10 l11:Option AV} {t:Nat×List (Nat×Nat)} (hs:itemAt [iD aw,iD ac,iD ao] (pl:Int)=some (iD s)) (hne:t.1≠s):
  forTurn prog W (n + 60) (.tup [.loc 10,.loc 11]) inBody (testD t) (bS b (.tuple [iD aw,iD ac,iD ao]) rv ev num no l6 l7 (some (.d (iD cond))) (some (.d (iD pl))) l10 l11 H)=
   some (.next,bS b (.tuple [iD aw,iD ac,iD ao]) rv ev num no l6 l7 (some (.d (iD cond))) (some (.d (iD pl))) (some (.d (iD t.1))) (some (.d (.list (t.2.map partD)))) H):=by
 simp only [forTurn,inBody,bS,testD,aq,am,av,aK,af,aM,aD,aC,ai,ag,ae,aA,ax,au,aE,aP,aV,aY,aL,bZ,aR,db,bG,bf,AS.setLoc,List.getElem?_cons_zero,List.getElem?_cons_succ,List.set_cons_zero,List.set_cons_succ,bz,hs,li (show (t.1:Int)≠s by exact uZ ‹_›)]
theorem Aa {aw ac ao pl s cond num no:Nat} {rv ev:AV} {l6 l7 l10 l11:Option AV} {t:Nat×List (Nat×Nat)} (hs:itemAt [iD aw,iD ac,iD ao] (pl:Int)=some (iD s)) (he:t.1=s)
  (w:WF2 D) (h:HoldsAt b D H) (hc:aI H=true) (F:Fits D) (hp:pl < 3) (sp:SpOk (D.top pl) t.2) (lc:cond < D.nodes.length) (ln:no < D.nodes.length) (vc:pl < D.lev cond) (vn:pl < D.lev no):
  ∃ D' cond',forTurn prog W (n + 60) (.tup [.loc 10,.loc 11]) inBody (testD t) (bS b (.tuple [iD aw,iD ac,iD ao]) rv ev num no l6 l7 (some (.d (iD cond))) (some (.d (iD pl))) l10 l11 H)=
   some (.next,bS b (.tuple [iD aw,iD ac,iD ao]) rv ev num no l6 l7 (some (.d (iD cond'))) (some (.d (iD pl))) (some (.d (iD t.1))) (some (.d (.list (t.2.map partD)))) (bQ b D' H))∧
   WF2 D'∧Ext D D'∧D'.memo=D.memo∧D'.nodes.length≤D.nodes.length + 1∧cond' < D'.nodes.length∧pl≤D'.lev cond'∧∀ i,i≤D.top pl→D'.sub pl cond' i=if holdsP t.2 i then cond else no:=by
 refine bc fun hn=>?_
 obtain ⟨ht,ht4⟩:=w.wf.topx hp
 refine gD (rP (yes:=cond) (no:=no) ht4 sp) fun g1 g2 g3=>?_
 refine hn ?_
 refine pV (oM w.wf hp g1 (fun p mp=>by
  rcases g3 p mp with e | e <;> rw [e]
  ·exact ⟨lc,vc⟩
  ·exact ⟨ln,vn⟩)) fun m1 m2 m3 m4 m5 m6 m7=>?_
 have gc:=List.getElem?_eq_getElem lc
 have gn:=List.getElem?_eq_getElem ln
 have k:=fun (loc:List (Option AV)) (j:Nat)=>ue (W:=W) (n:=j) (σ:={ loc:=loc,out:=[],heap:=H }) h hc F w.wf.ok sp.len gc gn (by rw [← cE gc]; exact vc) (by rw [← cE gn]; exact vn) ht g1.rise g1.last
 refine (B1 ((D.make pl (testParts (D.top pl) cond no t.2)).1) ((D.make pl (testParts (D.top pl) cond no t.2)).2) ?_ (w.ext m2 m1 m3) m2 m3 m5 m4 m6 (fun i hi=>by rw [m7 i hi,g2 i hi]; rfl))
 simp only [forTurn,inBody,bS,testD,aq,am,av,aK,af,aM,aD,aC,ai,ag,ae,aA,ax,au,aE,aP,aV,aY,aL,bZ,aR,cU,bG,bf,AS.setLoc,List.getElem?_cons_zero,List.getElem?_cons_succ,List.set_cons_zero,List.set_cons_succ,bz,hs,mD (show (t.1:Int)=s by exact Df ‹_›),k]
theorem tD {aw ac ao pl s cond num no:Nat} {rv ev:AV} {l6 l7:Option AV} (hs:itemAt [iD aw,iD ac,iD ao] (pl:Int)=some (iD s)):∀ {ts:List (Nat×List (Nat×Nat))} {l10 l11:Option AV},(∀ t∈ts,t.1≠s)→
  ∃ u v,forItems (forTurn prog W (n + 60) (.tup [.loc 10,.loc 11]) inBody) (ts.map testD) (bS b (.tuple [iD aw,iD ac,iD ao]) rv ev num no l6 l7 (some (.d (iD cond))) (some (.d (iD pl))) l10 l11 H)=
   some (.next,bS b (.tuple [iD aw,iD ac,iD ao]) rv ev num no l6 l7 (some (.d (iD cond))) (some (.d (iD pl))) u v H)
 | [],l10,l11,_=>⟨l10,l11,rfl⟩
 | t :: ts,l10,l11,hn=>by
  obtain ⟨u,v,e⟩:=tD (ts:=ts) (l10:=some (.d (iD t.1))) (l11:=some (.d (.list (t.2.map partD)))) hs fun t' m=>hn t' (.tail _ m)
  refine ⟨u,v,?_⟩
  simp only [List.map_cons,forItems,yS hs (hn t (.head _))]
  exact e
theorem tE {aw ac ao pl s num no:Nat} {rv ev:AV} {l6 l7:Option AV} (hs:itemAt [iD aw,iD ac,iD ao] (pl:Int)=some (iD s)) (hp:pl < 3) (ln:no < D.nodes.length) (vn:pl < D.lev no)
  (w:WF2 D) (h:HoldsAt b D H) (hc:aI H=true) (F:Fits D) {cond:Nat} (lc:cond < D.nodes.length) (vc:pl < D.lev cond):∀ {ts:List (Nat×List (Nat×Nat))} {l10 l11:Option AV},(ts.map (·.1)).Nodup→(∀ t∈ts,t.1=s→SpOk (D.top pl) t.2)→
  ∃ D' cond' u v,forItems (forTurn prog W (n + 60) (.tup [.loc 10,.loc 11]) inBody) (ts.map testD) (bS b (.tuple [iD aw,iD ac,iD ao]) rv ev num no l6 l7 (some (.d (iD cond))) (some (.d (iD pl))) l10 l11 H)=
   some (.next,bS b (.tuple [iD aw,iD ac,iD ao]) rv ev num no l6 l7 (some (.d (iD cond'))) (some (.d (iD pl))) u v (bQ b D' H))∧
   WF2 D'∧Ext D D'∧D'.memo=D.memo∧D'.nodes.length≤D.nodes.length + 1∧cond' < D'.nodes.length∧pl≤D'.lev cond'∧∀ i,i≤D.top pl→D'.sub pl cond' i=(match testAt ts s with | some sp=>if holdsP sp i then cond else no | none=>cond)
 | [],l10,l11,_,_=>(B0 D cond l10 l11 (by rw [h.upd_self]; rfl) w (Ext.refl D) rfl (Nat.le_succ _) lc (Nat.le_of_lt vc) (fun i hi=>dF (by exact Di ‹_›) hp))
 | t :: ts,l10,l11,nd,hsp=>by
  simp only [List.map_cons] at nd
  obtain ⟨nd1,nd2⟩:=List.nodup_cons.mp nd
  by_cases e:t.1=s
  ·refine bc fun hn=>?_
   refine By (Aa (W:=W) (n:=n) (num:=num) (rv:=rv) (ev:=ev) (l6:=l6) (l7:=l7) (l10:=l10) (l11:=l11) hs e w h hc F hp (hsp t (.head _) e) lc ln vc vn) fun D' cond' k1 k2 k3 k4 k5 k6 k7 k8=>?_
   refine cG (tD (W:=W) (n:=n) (b:=b) (H:=bQ b D' H) (num:=num) (no:=no) (rv:=rv) (ev:=ev) (l6:=l6) (l7:=l7) (cond:=cond') (ts:=ts) (l10:=some (.d (iD t.1))) (l11:=some (.d (.list (t.2.map partD)))) hs fun t' m q=>nd1 (by rw [e,← q]; exact List.mem_map_of_mem (f:=(·.1)) m)) fun u v e2=>?_
   refine hn ?_
   refine (B0 D' cond' u v ?_ k2 k3 k4 k5 k6 k7 (fun i hi=>?_))
   ·simp only [List.map_cons,forItems,k1]
    exact e2
   ·refine (k8 i hi).trans ?_
    simp [testAt,e]
  ·obtain ⟨D',cond',u,v,k1,k2⟩:=tE hs hp ln vn w h hc F lc vc (ts:=ts) (l10:=some (.d (iD t.1))) (l11:=some (.d (.list (t.2.map partD)))) nd2 fun t' m=>hsp t' (.tail _ m)
   refine (qK D' cond' u v ?_ ?_)
   ·simp only [List.map_cons,forItems,yS hs e]
    exact k1
   ·have:testAt (t :: ts) s=testAt ts s:=by simp [testAt,e]
    rw [this]; exact k2
theorem kU {ts:List (Nat×List (Nat×Nat))} {D':Dia} {pl s cond cond' no:Nat} {ss:List Nat} (w:WF D) (E:Ext D D') (lc:cond < D.nodes.length) (gn:D.nodes[no]?=some (.leaf (.int 0)))
  (hsub:∀ i,i≤D.top pl→D'.sub pl cond' i=(match testAt ts s with | some sp=>if holdsP sp i then cond else no | none=>cond))
  (hv:∀ c,D.Box (pl + 1) c→D.val (pl + 1) cond c=if iQ ts ss c then .int 1 else .int 0) (hp:pl < 3):
  ∀ c,D'.Box pl c→D'.val pl cond' c=if iQ ts (s :: ss) c then .int 1 else .int 0:=by
 intro c hb
 rw [E.box] at hb
 have ln:=(List.getElem?_eq_some_iff.mp gn).1
 induction c using List.casesOn with
 | nil=>have:pl=3:=hb; lia
 | cons i cs=>
  have hc:=E.val w lc hb.2.2
  have hn:=E.val w ln hb.2.2
  have hh:testAt ts s=none∨∃ sp,testAt ts s=some sp:=by induction testAt ts s using Option.casesOn with
   | none=>exact .inl rfl
   | some sp=>exact .inr ⟨sp,rfl⟩
  simp only [Dia.val,hsub i hb.2.1,iQ]
  rcases hh with e | ⟨sp,e⟩
  ·simp only [e,Bool.true_and]; refine (hc).trans ?_; exact hv cs hb.2.2
  ·simp only [e]
   by_cases q:holdsP sp i=true
   ·simp only [q,if_true,Bool.true_and]; refine (hc).trans ?_; exact hv cs hb.2.2
   ·simp only [q,Bool.false_and,Bool.false_eq_true,if_false]
    refine (hn).trans ?_; exact iq gn hb.2.2
end
section
variable {W n b:Nat} {D:Dia} {H:List AO}
noncomputable def plBody:List S:=[.for (.tup [(.loc 10),(.loc 11)]) (0,[(.loc 6)]) inBody]
theorem jG {aw ac ao pl s num no:Nat} {rv ev:AV} {l7 l9 l10 l11:Option AV} {ts:List (Nat×List (Nat×Nat))} (hs:itemAt [iD aw,iD ac,iD ao] (pl:Int)=some (iD s)) (hp:pl < 3) (ln:no < D.nodes.length) (vn:pl < D.lev no)
  (w:WF2 D) (h:HoldsAt b D H) (hc:aI H=true) (F:Fits D) {cond:Nat} (lc:cond < D.nodes.length) (vc:pl < D.lev cond) (nd:(ts.map (·.1)).Nodup) (hsp:∀ t∈ts,t.1=s→SpOk (D.top pl) t.2):
  ∃ D' cond' u v,forTurn prog W (n + 64) (.loc 9) plBody (iD pl) (bS b (.tuple [iD aw,iD ac,iD ao]) rv ev num no (some (.d (.list (ts.map testD)))) l7 (some (.d (iD cond))) l9 l10 l11 H)=
   some (.next,bS b (.tuple [iD aw,iD ac,iD ao]) rv ev num no (some (.d (.list (ts.map testD)))) l7 (some (.d (iD cond'))) (some (.d (iD pl))) u v (bQ b D' H))∧
   WF2 D'∧Ext D D'∧D'.memo=D.memo∧D'.nodes.length≤D.nodes.length + 1∧cond' < D'.nodes.length∧pl≤D'.lev cond'∧∀ i,i≤D.top pl→D'.sub pl cond' i=(match testAt ts s with | some sp=>if holdsP sp i then cond else no | none=>cond):=by
 refine vg (tE (W:=W) (n:=n + 2) (num:=num) (rv:=rv) (ev:=ev) (l6:=some (.d (.list (ts.map testD)))) (l7:=l7) (l10:=l10) (l11:=l11) hs hp ln vn w h hc F lc vc nd hsp) fun D' cond' u v k1 k2=>?_
 refine (qK D' cond' u v ?_ k2)
 simp only [bS] at k1
 simp only [forTurn,plBody,bS,aq,am,bm,af,bq,ae,aE,aW,aL,aR,bG,ef,bf,AS.setLoc,az,List.getElem?_cons_zero,List.getElem?_cons_succ,List.set_cons_zero,List.set_cons_succ,k1]
theorem gI {i:Nat} {v:PyData} (g:D.nodes[i]?=some (.leaf v)):D.lev i=3:=by refine (cE g).trans ?_; rfl
theorem qy {aw ac ao num no cond:Nat} {rv ev:AV} {l7 l9 l10 l11:Option AV} {ts:List (Nat×List (Nat×Nat))} (w:WF2 D) (h:HoldsAt b D H) (hc:aI H=true) (hn:D.nodes.length + 3≤9000) (hm:D.memo.length≤9000)
  (gn:D.nodes[no]?=some (.leaf (.int 0))) (gc:D.nodes[cond]?=some (.leaf (.int 1))) (nd:(ts.map (·.1)).Nodup) (hsp:∀ t∈ts,∀ pl:Nat,[aw,ac,ao][pl]?=some t.1→SpOk (D.top pl) t.2):
  ∃ D' cond' u v w',forItems (forTurn prog W (n + 64) (.loc 9) plBody) [.int 2,.int 1,.int 0] (bS b (.tuple [iD aw,iD ac,iD ao]) rv ev num no (some (.d (.list (ts.map testD)))) l7 (some (.d (iD cond))) l9 l10 l11 H)=
   some (.next,bS b (.tuple [iD aw,iD ac,iD ao]) rv ev num no (some (.d (.list (ts.map testD)))) l7 (some (.d (iD cond'))) w' u v (bQ b D' H))∧
   WF2 D'∧Ext D D'∧D'.memo=D.memo∧D'.nodes.length≤D.nodes.length + 3∧cond' < D'.nodes.length∧∀ c,D'.Box 0 c→D'.val 0 cond' c=if iQ ts [aw,ac,ao] c then .int 1 else .int 0:=by
 have ln:=(List.getElem?_eq_some_iff.mp gn).1
 have lc:=(List.getElem?_eq_some_iff.mp gc).1
 have F:Fits D:=⟨w.wf.tops,by exact lC ‹_›,hm⟩
 refine zn (jG (W:=W) (n:=n) (num:=num) (rv:=rv) (ev:=ev) (l7:=l7) (l9:=l9) (l10:=l10) (l11:=l11) (aw:=aw) (ac:=ac) (ao:=ao) (pl:=2) (s:=ao) it32 (by decide) ln (by rw [gI gn]; decide) w h hc F lc (by rw [gI gc]; decide) nd (fun t m e=>hsp t m 2 (e▸rfl))) fun cy bH cP cY k1 k2 k3 k4 k5 k6 k7 k8=>?_
 have V2:=kU (ss:=[]) w.wf k3 lc gn k8 (fun c hb=>by
  induction c using List.casesOn with
  | nil=>simp only [Dia.val,Dia.leafv,gc,iQ,if_true]
  | cons i cs=>have:=hb.1; lia) (by decide)
 have F2:Fits cy:=⟨k2.wf.tops,by lia,by rw [k4]; exact hm⟩
 have gn2:=k3.get gn
 have ln2:=(List.getElem?_eq_some_iff.mp gn2).1
 refine bc fun hn=>?_
 refine zn (jG (W:=W) (n:=n) (num:=num) (rv:=rv) (ev:=ev) (l7:=l7) (l9:=some (.d (iD 2))) (l10:=cP) (l11:=cY) (aw:=aw) (ac:=ac) (ao:=ao) (pl:=1) (s:=ac) it31 (by decide) ln2 (by rw [gI gn2]; decide) k2 (h.upd k3.tops) (b9 hc) F2 k6 (by exact DW ‹_›) nd (fun t m e=>by rw [k3.top]; exact hsp t m 1 (e▸rfl))) fun fm bx cQ cZ j1 j2 j3 j4 j5 j6 j7 j8=>?_
 have V1:=kU k2.wf j3 k6 gn2 j8 V2 (by decide)
 have F1:Fits fm:=⟨j2.wf.tops,by exact Bj ‹_› ‹_› ‹_› rfl,by rw [j4,k4]; exact hm⟩
 have gn1:=j3.get gn2
 have ln1:=(List.getElem?_eq_some_iff.mp gn1).1
 have E1:=k3.trans j3
 refine zn (jG (W:=W) (n:=n) (H:=bQ b fm H) (num:=num) (rv:=rv) (ev:=ev) (l7:=l7) (l9:=some (.d (iD 1))) (l10:=cQ) (l11:=cZ) (aw:=aw) (ac:=ac) (ao:=ao) (pl:=0) (s:=aw) qR (by decide) ln1 (by rw [gI gn1]; decide) j2 (h.upd E1.tops) (b9 hc) F1 j6 (by exact DW ‹_›) nd (fun t m e=>by rw [E1.top]; exact hsp t m 0 (e▸rfl))) fun Fn bj cR cD i1 i2 i3 i4 i5 i6 i7 i8=>?_
 refine hn ?_
 have V0:=kU j2.wf i3 j6 gn1 i8 V1 (by decide)
 rw [dL] at j1 i1
 refine (zW Fn bj cR cD (some (.d (.int 0))) ?_ i2 (E1.trans i3) (by rw [i4,j4,k4]) (by lia) i6 V0)
 have z2:iD 2=.int 2:=rfl
 have z1:iD 1=.int 1:=rfl
 have z0:iD 0=.int 0:=rfl
 rw [z2] at k1 j1
 rw [z1] at j1 i1
 rw [z0] at i1
 simp only [forItems,k1,j1,i1]
noncomputable def ruBody:List S:=[.assign (.loc 8) (.meth 3 (.loc 0) [(.int 1)]),
   .for (.loc 9) (0,[(.tup [(.int 2),(.int 1),(.int 0)])]) plBody,
   .assign (.loc 4) (.call 10 [(.loc 0),(.loc 8),(.meth 3 (.loc 0) [(.loc 7)]),(.loc 4)])]
theorem jc {v:PyData} (w:WF2 D) (hv:Val v):WF2 (D.keep (.leaf v)).1∧Ext D (D.keep (.leaf v)).1∧(D.keep (.leaf v)).1.memo=D.memo∧(D.keep (.leaf v)).1.nodes[(D.keep (.leaf v)).2]?=some (.leaf v)∧(D.keep (.leaf v)).1.nodes.length≤D.nodes.length + 1:=by
 refine dR (oR (nd:=.leaf v) w.wf hv (fun x ps e=>by cases e)) fun k1 k2 k3 k4 k5=>?_
 exact (ij (w.ext k2 k1 k3) k2 k3 k4 k5)
theorem jW (i:Int):Val (.int i):=Kk.int
theorem uo {aw ac ao num no:Nat} {rv ev:AV} {l6 l7 l8 l9 l10 l11:Option AV} {r:cF} (hW:100≤W) (w:WF2 D) (h:HoldsAt b D H) (hc:aI H=true) (hn:D.nodes.length + 40≤9000) (hm:D.memo.length + 40≤9000)
  (gn:D.nodes[no]?=some (.leaf (.int 0))) (ln:num < D.nodes.length) (ho:RuleOk D [aw,ac,ao] r):
  ∃ D' num' m6 m7 m8 m9 m10 m11,forTurn prog W (n + 170) (.tup [(.loc 6),(.loc 7)]) ruBody (ruleD r) (bS b (.tuple [iD aw,iD ac,iD ao]) rv ev num no l6 l7 l8 l9 l10 l11 H)=
   some (.next,bS b (.tuple [iD aw,iD ac,iD ao]) rv ev num' no m6 m7 m8 m9 m10 m11 (bQ b D' H))∧
   WF2 D'∧Ext D D'∧D'.nodes.length≤D.nodes.length + 40∧D'.memo.length≤D.memo.length + 40∧num' < D'.nodes.length∧∀ c,D.Box 0 c→D'.val 0 num' c=if iQ r.1 [aw,ac,ao] c then r.2 else D.val 0 num c:=by
 have F:Fits D:=⟨w.wf.tops,by exact lC ‹_›,by exact lC ‹_›⟩
 refine dR (jc w (jW 1)) fun a1 a2 a3 a4 a5=>?_
 have kl:=fun (loc:List (Option AV)) (j:Nat)=>jb (W:=W) (n:=j) (σ:={ loc:=loc,out:=[],heap:=H }) h F w.wf.ok (jW 1)
 generalize D.keep (.leaf (.int 1))=K1 at a1 a2 a3 a4 a5 kl
 obtain ⟨fm,bx⟩:=K1
 simp only at a1 a2 a3 a4 a5 kl
 refine bc fun hn=>?_
 refine Bw (qy (W:=W) (n:=n + 103) (num:=num) (rv:=rv) (ev:=ev) (l7:=some (.d r.2)) (l9:=l9) (l10:=l10) (l11:=l11) (aw:=aw) (ac:=ac) (ao:=ao) (ts:=r.1) a1 (h.upd a2.tops) (b9 hc) (by lia) (by rw [a3]; exact lC ‹_›) (a2.get gn) a4 ho.nodup (fun t m pl e=>by rw [a2.top]; exact ho.spans t m pl e)) fun cy bH u v w' b1 b2 b3 b4 b5 b6 b7=>?_
 have F2:Fits cy:=⟨b2.wf.tops,by exact Bj ‹_› ‹_› ‹_› rfl,by rw [b4,a3]; exact lC ‹_›⟩
 have E2:=a2.trans b3
 refine dR (jc b2 ho.val) fun d1 d2 d3 d4 d5=>?_
 refine hn ?_
 have kv:=fun (loc:List (Option AV)) (j:Nat)=>jb (W:=W) (n:=j) (σ:={ loc:=loc,out:=[],heap:=bQ b cy H }) (h.upd E2.tops) F2 b2.wf.ok ho.val
 generalize cy.keep (.leaf r.2)=K3 at d1 d2 d3 d4 d5 kv
 obtain ⟨A6,BC⟩:=K3
 simp only [dL] at d1 d2 d3 d4 d5 kv
 have E3:=E2.trans d2
 have l3:=(List.getElem?_eq_some_iff.mp d4).1
 have c3len:tN 3=31:=rfl
 have dl:=d2.len
 have el:=E3.len
 have ch:=fun (loc:List (Option AV))=>sG (W:=W) (b:=b) hW 3 (D:=A6) (σ:={ loc:=loc,out:=[],heap:=bQ b A6 H }) (c:=bH) (y:=BC) (m:=num) d1 (h.upd E3.tops) (b9 hc) (by rw [c3len]; lia) (by rw [c3len,d3,b4,a3]; exact y9 ‹_› rfl rfl) (by exact mE ‹_› ‹_›) l3 (by exact mE ‹_› ‹_›) (by exact Dj)
 refine eW (ch [some (.o b),some (.d (.tuple [iD aw,iD ac,iD ao])),some rv,some ev,some (.d (iD num)),some (.d (iD no)),some (.d (.list (r.1.map testD))),some (.d r.2),some (.d (iD bH)),w',u,v,none,none]) fun A5 Em e1 X=>?_
 have hn4:=X.nodes
 have hm4:=X.memo
 rw [c3len] at hn4 hm4
 refine (zU A5 Em (some (.d (.list (r.1.map testD)))) (some (.d r.2)) (some (.d (iD bH))) w' u v ?_ X.wf (E3.trans X.ext) (by lia) (by rw [d3,b4,a3] at hm4; lia) X.lt (fun c hb=>?_))
 ·have e1':=e1 (n + 105) (by exact Dj)
  have h0:=h.self
  have h1:=(h.upd a2.tops).self
  have h2:=(h.upd E2.tops).self
  simp only [bS] at b1
  simp only [forTurn,ruBody,ruleD,bS,aq,am,av,bm,ay,af,aM,bF,aG,ai,ag,bq,ae,aA,ax,au,aE,aP,aW,aL,cM,eM,aR,bG,nT,bf,AS.setLoc,az,AS.freezeAll,List.getElem?_cons_zero,List.getElem?_cons_succ,List.set_cons_zero,List.set_cons_succ,h0,kl,b1,dL,h2,kv,e1']
 ·have hb3:A6.Box 0 c:=by rw [E3.box]; exact hb
  have hb4:A5.Box 0 c:=by rw [X.ext.box]; exact hb3
  have hb2:cy.Box 0 c:=by rw [E2.box]; exact hb
  have q1:=X.sel.low (yN X.wf.wf (by have:=X.ext.len; lia)) (mn A5 bH BC num) (l:=0) (by lia) c hb4
  rw [q1,X.ext.val d1.wf (by exact mE ‹_› ‹_›) hb3,X.ext.val d1.wf l3 hb3,X.ext.val d1.wf (by exact mE ‹_› ‹_›) hb3,d2.val b2.wf b6 hb2,b7 c hb2,iq d4 hb3,E3.val w.wf ln hb]
  by_cases q:iQ r.1 [aw,ac,ao] c=true
  ·simp [q]
  ·simp [q]
theorem lI {seq:List Nat} {e:PyData} {c:List Nat}:∀ {A B:List cF},jq seq (A++B) e c=jq seq A (jq seq B e c) c
 | [],_=>rfl
 | r :: A,B=>by simp only [List.cons_append,jq,lI (A:=A)]
theorem RuleOk.ext {D':Dia} {seq:List Nat} {r:cF} (h:RuleOk D seq r) (E:Ext D D'):RuleOk D' seq r:=⟨h.val,h.nodup,h.len,fun t m pl e=>by rw [E.top]; exact h.spans t m pl e⟩
theorem ng {aw ac ao no:Nat} {rv ev:AV} (hW:100≤W):∀ {L:List cF} {D:Dia} {H:List AO} {num:Nat} {l6 l7 l8 l9 l10 l11:Option AV},WF2 D→HoldsAt b D H→aI H=true→D.nodes.length + 40 * L.length≤8900→D.memo.length + 40 * L.length≤8900→
  D.nodes[no]?=some (.leaf (.int 0))→num < D.nodes.length→(∀ r∈L,RuleOk D [aw,ac,ao] r)→
  ∃ D' num' m6 m7 m8 m9 m10 m11,forItems (forTurn prog W (n + 170) (.tup [(.loc 6),(.loc 7)]) ruBody) (L.map ruleD) (bS b (.tuple [iD aw,iD ac,iD ao]) rv ev num no l6 l7 l8 l9 l10 l11 H)=
   some (.next,bS b (.tuple [iD aw,iD ac,iD ao]) rv ev num' no m6 m7 m8 m9 m10 m11 (bQ b D' H))∧
   WF2 D'∧Ext D D'∧D'.nodes.length≤D.nodes.length + 40 * L.length∧D'.memo.length≤D.memo.length + 40 * L.length∧num' < D'.nodes.length∧∀ c,D.Box 0 c→D'.val 0 num' c=jq [aw,ac,ao] L.reverse (D.val 0 num c) c
 | [],D,H,num,l6,l7,l8,l9,l10,l11,w,h,hc,hn,hm,gn,ln,ho=>(zU D num l6 l7 l8 l9 l10 l11 (by rw [h.upd_self]; rfl) w (Ext.refl D) (by simp) (by simp) ln (fun c hb=>rfl))
 | r :: L,D,H,num,l6,l7,l8,l9,l10,l11,w,h,hc,hn,hm,gn,ln,ho=>by
  simp only [List.length_cons] at hn hm
  refine bc fun hn=>?_
  refine zl (uo (W:=W) (n:=n) (rv:=rv) (ev:=ev) (l6:=l6) (l7:=l7) (l8:=l8) (l9:=l9) (l10:=l10) (l11:=l11) hW w h hc (by exact y9 ‹_› rfl rfl) (by exact y9 ‹_› rfl rfl) gn ln (ho r (.head _))) fun fm zJ m6 m7 m8 m9 m10 m11 k1 k2 k3 k4 k5 k6 k7=>?_
  refine zl (ng (rv:=rv) (ev:=ev) hW (L:=L) (num:=zJ) (l6:=m6) (l7:=m7) (l8:=m8) (l9:=m9) (l10:=m10) (l11:=m11) k2 (h.upd k3.tops) (b9 hc) (by lia) (by lia) (k3.get gn) k6 (fun q m=>(ho q (.tail _ m)).ext k3)) fun cy zI p6 p7 p8 p9 p10 p11 j1 j2 j3 j4 j5 j6 j7=>?_
  refine hn ?_
  rw [dL] at j1
  refine (zU cy zI p6 p7 p8 p9 p10 p11 ?_ j2 (k3.trans j3) (by simp only [List.length_cons]; lia) (by simp only [List.length_cons]; lia) j6 (fun c hb=>?_))
  ·simp only [List.map_cons,forItems,k1]; exact j1
  ·rw [j7 c (by rw [k3.box]; exact hb),k7 c hb,List.reverse_cons,lI]; rfl
theorem jT {σ:AS} {aw ac ao:Nat} {rules:List cF} {ev:PyData} (hW:100≤W) (w:WF2 D) (h:HoldsAt b D σ.heap) (hc:aI σ.heap=true) (hn:D.nodes.length + 2 + 40 * rules.length≤8900) (hm:D.memo.length + 40 * rules.length≤8900)
  (hv:Val ev) (ho:∀ r∈rules,RuleOk D [aw,ac,ao] r):
  ∃ D' r,callF prog W (n + 180) 24 [.o b,.d (.tuple [iD aw,iD ac,iD ao]),.d (.list (rules.map ruleD)),.d ev] σ=some (.d (iD r),{ σ with heap:=bQ b D' σ.heap })∧
   WF2 D'∧Ext D D'∧D'.nodes.length≤D.nodes.length + 2 + 40 * rules.length∧D'.memo.length≤D.memo.length + 40 * rules.length∧r < D'.nodes.length∧∀ c,D.Box 0 c→D'.val 0 r c=jq [aw,ac,ao] rules ev c:=by
 have F:Fits D:=⟨w.wf.tops,by lia,by exact Fw ‹_› rfl⟩
 refine dR (jc w hv) fun a1 a2 a3 a4 a5=>?_
 have kl:=fun (loc:List (Option AV)) (j:Nat)=>jb (W:=W) (n:=j) (σ:={ loc:=loc,out:=[],heap:=σ.heap }) h F w.wf.ok hv
 generalize D.keep (.leaf ev)=K1 at a1 a2 a3 a4 a5 kl
 obtain ⟨fm,bx⟩:=K1
 simp only at a1 a2 a3 a4 a5 kl
 have F1:Fits fm:=⟨a1.wf.tops,by lia,by rw [a3]; exact Fw ‹_› rfl⟩
 refine dR (jc a1 (jW 0)) fun b1 b2 b3 b4 b5=>?_
 have kn:=fun (loc:List (Option AV)) (j:Nat)=>jb (W:=W) (n:=j) (σ:={ loc:=loc,out:=[],heap:=bQ b fm σ.heap }) (h.upd a2.tops) F1 a1.wf.ok (jW 0)
 generalize fm.keep (.leaf (.int 0))=K2 at b1 b2 b3 b4 b5 kn
 obtain ⟨cy,bH⟩:=K2
 simp only [dL] at b1 b2 b3 b4 b5 kn
 have E2:=a2.trans b2
 have g1:=b2.get a4
 have l1:=(List.getElem?_eq_some_iff.mp g1).1
 refine zl (ng (W:=W) (n:=n + 6) (b:=b) (rv:=.d (.list (rules.map ruleD))) (ev:=.d ev) (aw:=aw) (ac:=ac) (ao:=ao) hW (L:=rules.reverse) (H:=bQ b cy σ.heap) (num:=bx) (l6:=none) (l7:=none) (l8:=none) (l9:=none) (l10:=none) (l11:=none) b1 (h.upd E2.tops) (b9 hc) (by simp; lia) (by rw [b3,a3]; simp; assumption) b4 l1 (fun q m=>(ho q (by simpa using m)).ext E2)) fun D' num' m6 m7 m8 m9 m10 m11 j1 j2 j3 j4 j5 j6 j7=>?_
 rw [dL] at j1
 simp only [List.length_reverse] at j4 j5
 refine (zY D' num' ?_ j2 (E2.trans j3) (by lia) (by rw [b3,a3] at j5; exact j5) j6 (fun c hb=>?_))
 ·rw [bh (fd:=⟨4,14,b_lbuilt⟩) rfl rfl]
  have h0:=h.self
  have h1:=(h.upd a2.tops).self
  have rl:rules.length≤2000000:=by lia
  simp only [bS,List.map_reverse,ruBody,plBody,inBody] at j1
  simp only [b_lbuilt,aq,am,av,bm,aO,ay,af,bF,uN,aG,ai,ag,bq,ae,aA,ax,au,aE,aP,aW,aL,cM,eM,aR,bG,cT,Fd,ef,cn,bf,cj,AS.setLoc,az,AS.freezeAll,List.getElem?_cons_zero,List.getElem?_cons_succ,List.set_cons_zero,List.set_cons_succ,List.map_cons,List.map_nil,List.cons_append,List.nil_append,List.replicate,Nat.reduceSub,if_true,dz,h0,h1,kl,kn,List.length_map,rl,j1,gM fJ]
 ·rw [j7 c (by rw [E2.box]; exact hb),List.reverse_reverse,iq g1 (by rw [E2.box]; exact hb)]
end
noncomputable abbrev fR:=List (Nat×(Nat×Nat))
noncomputable def entD (e:Nat×(Nat×Nat)):PyData:=.tuple [iD e.1,.tuple [iD e.2.1,iD e.2.2]]
noncomputable def dP (p:fR):PyData:=.tuple (p.map entD)
noncomputable def dm (w:fR×PyData):PyData:=.tuple [dP w.1,w.2]
noncomputable def runsFrom:Nat→List (Nat×Nat)→List ((Nat×Nat)×Nat)
 | _,[]=>[]
 | lo,p :: ps=>((lo,p.1),p.2) :: runsFrom (p.1 + 1) ps
noncomputable def Dia.parts (D:Dia) (n:Nat):List (Nat×Nat):=match D.nodes[n]? with
 | some (.inner _ ps)=>ps
 | _=>[]
noncomputable def Dia.waysP (D:Dia):Nat→Nat→Nat→List (fR×PyData)
 | 0,_,n=>[([],D.leafv n)]
 | k + 1,l,n=>if D.lev n=l then (runsFrom 0 (D.parts n)).flatMap fun r=>(D.waysP k (l + 1) r.2).map fun w=>((l,r.1) :: w.1,w.2) else D.waysP k (l + 1) n
noncomputable def Dia.waysN (D:Dia) (n:Nat):List (fR×PyData):=D.waysP (3 - D.lev n) (D.lev n) n
noncomputable def Dia.sizeP (D:Dia):Nat→Nat→Nat→Nat
 | 0,_,n=>1
 | k + 1,l,n=>if D.lev n=l then 1 + ((D.parts n).map fun p=>D.sizeP k (l + 1) p.2).sum else D.sizeP k (l + 1) n
noncomputable def Dia.sizeN (D:Dia) (n:Nat):Nat:=D.sizeP (3 - D.lev n) (D.lev n) n
section
variable {D:Dia} {n l k:Nat}
theorem gS (h:n < D.nodes.length) (w:WF D):∀ {k l:Nat},l + k=3→l≤D.lev n→D.waysP k l n=D.waysN n
 | 0,l,e,hl=>by
  have:=w.lev_le h
  unfold Dia.waysN
  rw [show 3 - D.lev n=0 by lia]; rfl
 | k + 1,l,e,hl=>by
  by_cases q:D.lev n=l
  ·unfold Dia.waysN
   rw [show 3 - D.lev n=k + 1 by lia,q]
  ·rw [Dia.waysP,if_neg q,gS h w (k:=k) (by exact sS ‹_›) (by lia)]
theorem po (h:n < D.nodes.length) (w:WF D):∀ {k l:Nat},l + k=3→l≤D.lev n→D.sizeP k l n=D.sizeN n
 | 0,l,e,hl=>by
  have:=w.lev_le h
  unfold Dia.sizeN
  rw [show 3 - D.lev n=0 by lia]; rfl
 | k + 1,l,e,hl=>by
  by_cases q:D.lev n=l
  ·unfold Dia.sizeN
   rw [show 3 - D.lev n=k + 1 by lia,q]
  ·rw [Dia.sizeP,if_neg q,po h w (k:=k) (by exact sS ‹_›) (by lia)]
theorem iw:∀ {ps:List (Nat×Nat)} {lo:Nat} {r},r∈runsFrom lo ps→∃ p∈ps,p.2=r.2
 | [],_,r,h=>by simp [runsFrom] at h
 | p :: ps,lo,r,h=>by
  simp only [runsFrom,List.mem_cons] at h
  rcases h with rfl | h
  ·exact (m1a2 p (.head _) rfl)
  ·refine aB (iw h) fun q m e=>?_
   exact (m1a2 q (.tail _ m) e)
theorem rK {v:PyData} (g:D.nodes[n]?=some (.leaf v)):D.waysN n=[([],v)]:=by
 unfold Dia.waysN
 rw [gI g]
 show [([],D.leafv n)]=_
 unfold Dia.leafv; rw [g]
theorem cK {α β:Type} {f g:α→List β}:∀ {xs:List α},(∀ x∈xs,f x=g x)→xs.flatMap f=xs.flatMap g
 | [],_=>rfl
 | x :: xs,h=>by simp only [List.flatMap_cons]; rw [h x (.head _),cK fun y m=>h y (.tail _ m)]
theorem pX {x:Nat} {ps:List (Nat×Nat)} (w:WF D) (g:D.nodes[n]?=some (.inner x ps)):
  D.waysN n=(runsFrom 0 ps).flatMap fun r=>(D.waysN r.2).map fun v=>((x,r.1) :: v.1,v.2):=by
 refine dR (w.inner n x ps g) fun h1 h2 h3 h4 h5=>?_
 have hl:=(List.getElem?_eq_some_iff.mp g).1
 have e:D.lev n=x:=cE g
 have ep:D.parts n=ps:=by unfold Dia.parts; rw [g]
 unfold Dia.waysN
 rw [e,show 3 - x=(2 - x) + 1 by exact Fo ‹_›,Dia.waysP,if_pos e,ep]
 refine cK fun r m=>?_
 refine aB (iw m) fun p mp ep=>?_
 have:=h5 p mp
 rw [← ep,gS (by exact u9 ‹_› ‹_›) w (by exact Fp ‹_›) (by lia)]
 rfl
theorem mY {v:PyData} (g:D.nodes[n]?=some (.leaf v)):D.sizeN n=1:=by
 unfold Dia.sizeN; rw [gI g]; rfl
theorem lG {x:Nat} {ps:List (Nat×Nat)} (w:WF D) (g:D.nodes[n]?=some (.inner x ps)):D.sizeN n=1 + (ps.map fun p=>D.sizeN p.2).sum:=by
 refine dR (w.inner n x ps g) fun h1 h2 h3 h4 h5=>?_
 have hl:=(List.getElem?_eq_some_iff.mp g).1
 have e:D.lev n=x:=cE g
 have ep:D.parts n=ps:=by unfold Dia.parts; rw [g]
 unfold Dia.sizeN
 rw [e,show 3 - x=(2 - x) + 1 by exact Fo ‹_›,Dia.sizeP,if_pos e,ep]
 congr 2
 refine List.map_congr_left fun p mp=>?_
 have:=h5 p mp
 exact po (by exact u9 ‹_› ‹_›) w (by exact Fp ‹_›) (by lia)
theorem ox (w:WF D) (h:n < D.nodes.length):1≤D.sizeN n:=by
 have g:=List.getElem?_eq_getElem h
 induction q:D.nodes[n] using Nd.casesOn with
 | leaf v=>rw [q] at g; rw [mY g]; exact Nat.le_refl 1
 | inner x ps=>rw [q] at g; rw [lG w g]; exact rF
theorem vH {α:Type} {f:α→Nat} {b:Nat}:∀ {xs:List α},(∀ x∈xs,f x≤b)→(xs.map f).sum≤xs.length * b
 | [],_=>by simp
 | x :: xs,h=>by
  have h1:=h x (.head _)
  have h2:=vH (xs:=xs) (f:=f) (b:=b) fun y m=>h y (.tail _ m)
  simp only [List.map_cons,List.sum_cons,List.length_cons,Nat.succ_mul]; lia
noncomputable def szB:Nat→Nat
 | 0=>1
 | k + 1=>1 + 5 * szB k
theorem qa:∀ k,szB k≤szB (k + 1)
 | 0=>by decide
 | k + 1=>by have:=qa k; simp only [szB] at *; lia
theorem mX (w:WF D):∀ {k l n:Nat},l + k=3→n < D.nodes.length→D.sizeP k l n≤szB k
 | 0,_,_,_,_=>Nat.le_refl 1
 | k + 1,l,n,e,h=>by
  simp only [Dia.sizeP]
  split
  ·rename_i q
   have hs:((D.parts n).map fun p=>D.sizeP k (l + 1) p.2).sum≤(D.parts n).length * szB k:=by
    refine vH fun p mp=>?_
    refine mX w (by exact sS ‹_›) ?_
    obtain ⟨ps,hps⟩:=dZ w h q (by exact yD ‹_›)
    have ep:D.parts n=ps:=by unfold Dia.parts; rw [hps]
    rw [ep] at mp
    have:=((w.inner n l ps hps).2.2.2.2 p mp).1
    exact DY ‹_› ‹_›
   have hl:(D.parts n).length≤5:=by
    obtain ⟨ps,hps⟩:=dZ w h q (by exact yD ‹_›)
    have ep:D.parts n=ps:=by unfold Dia.parts; rw [hps]
    rw [ep]
    have h1:=(w.inner n l ps hps).2.1.len
    have h2:=(w.topx (x:=l) (by exact yD ‹_›)).2
    exact pU ‹_› ‹_› rfl
   have:=Nat.mul_le_mul_right (szB k) hl
   simp only [szB]; lia
  ·have:=mX w (k:=k) (l:=l + 1) (n:=n) (by exact sS ‹_›) h
   have:=qa k
   exact sT ‹_› ‹_›
theorem vP (w:WF D) (h:n < D.nodes.length):D.sizeN n≤200:=by
 have h1:D.sizeP 3 0 n=D.sizeN n:=po h w rfl (Nat.zero_le _)
 have h2:=mX w (k:=3) (l:=0) rfl h
 have h3:szB 3=156:=rfl
 lia
end
noncomputable abbrev lA:=Nat×fR
noncomputable def kz (t:lA):PyData:=.tuple [iD t.1,dP t.2]
noncomputable def addRun (x:Nat) (path:fR) (r:(Nat×Nat)×Nat):lA:=(r.2,path++[(x,r.1)])
section
variable {W n b:Nat} {D:Dia}
noncomputable def wIn:List S:=[.expr (.append (.loc 9) (.tup [(.loc 12),(.bin .add (.loc 6) (.tup [(.tup [(.loc 7),(.tup [(.loc 10),(.loc 11)])])]))])),
      .assign (.loc 10) (.bin .add (.loc 11) (.int 1))]
noncomputable def wS (b number most at_ x:Nat) (about:PyData) (path:fR) (K:List AO) (lo:Nat) (h11 h12:Option AV) (j3 j4:Nat) (acc:List lA):AS:=
 { loc:=[some (.o b),some (.d (iD number)),some (.d (iD most)),some (.o j3),some (.o j4),some (.d (iD at_)),some (.d (dP path)),some (.d (iD x)),some (.d about),some (.o K.length),some (.d (iD lo)),h11,h12,none,none],out:=[],heap:=K++[.list (acc.map kz)] }
theorem pO {a c:List PyData} (h:a.length + c.length≤1000000):binD .add (.tuple a) (.tuple c)=some (.tuple (a++c)):=if_pos ⟨rfl,h⟩
theorem BB {number most at_ x:Nat} {about:PyData} {path:fR} {K:List AO} {j3 j4:Nat} (hp:path.length≤10):∀ {ps:List (Nat×Nat)} {lo:Nat} {h11 h12:Option AV} {acc:List lA},acc.length + ps.length≤100→
  ∃ lo' u v,forItems (forTurn prog W (n + 20) (.tup [(.loc 11),(.loc 12)]) wIn) (ps.map partD) (wS b number most at_ x about path K lo h11 h12 j3 j4 acc)=some (.next,wS b number most at_ x about path K lo' u v j3 j4 (acc++(runsFrom lo ps).map (addRun x path)))
 | [],lo,h11,h12,acc,_=>(pC lo h11 h12 (by simp [runsFrom,forItems]))
 | p :: ps,lo,h11,h12,acc,hl=>by
  simp only [List.length_cons] at hl
  refine n5 (BB (number:=number) (most:=most) (at_:=at_) (x:=x) (about:=about) (K:=K) (j3:=j3) (j4:=j4) hp (ps:=ps) (lo:=p.1 + 1) (h11:=some (.d (iD p.1))) (h12:=some (.d (iD p.2))) (acc:=acc++[addRun x path ((lo,p.1),p.2)]) (by simp; exact yE ‹_›)) fun lo' u v e=>?_
  refine (pC lo' u v ?_)
  have hb:∀ t,binD .add (.tuple (path.map entD)) (.tuple [t])=some (.tuple (path.map entD++[t])):=fun t=>pO (by simp; exact zb1 ‹_› rfl)
  have one:forTurn prog W (n + 20) (.tup [(.loc 11),(.loc 12)]) wIn (partD p) (wS b number most at_ x about path K lo h11 h12 j3 j4 acc)=some (.next,wS b number most at_ x about path K (p.1 + 1) (some (.d (iD p.1))) (some (.d (iD p.2))) j3 j4 (acc++[addRun x path ((lo,p.1),p.2)])):=by
   simp only [forTurn,wIn,wS,partD,dP,aq,am,av,aS,ay,af,aQ,aH,aG,ai,ag,ae,aA,ax,au,aE,aP,bJ,aW,aY,aL,cM,dW,aR,bG,bf,cV,AS.setLoc,az,AS.freezeAll,AS.put,List.getElem?_cons_zero,List.getElem?_cons_succ,List.set_cons_zero,List.set_cons_succ,List.map_cons,List.map_nil,if_true,cB,eS,gW,hb,List.length_map,(show acc.length < 1000000 by exact xa ‹_› rfl),cg,iX,List.map_append,kz,addRun,entD]
  simp only [List.map_cons,forItems,one,e,runsFrom,List.append_assoc]
  rfl
noncomputable def wT:E:=.cmp .gt (.len (.loc 4)) (.int 0)
noncomputable def wB:List S:=[.assign (.tup [(.loc 5),(.loc 6)]) (.pop (.loc 4)),
   .assign (.tup [(.loc 7),(.loc 8)]) (.meth 5 (.loc 0) [(.loc 5)]),
   .ite (.cmp .eq (.loc 7) (.str (Str.ofString "leaf")))
    [.ite (.cmp .eq (.len (.loc 3)) (.loc 2))
      [.raise]
      [],
     .expr (.append (.loc 3) (.tup [(.loc 6),(.loc 8)]))]
    [.assign (.loc 9) (.list []),
     .assign (.loc 10) (.int 0),
     .for (.tup [(.loc 11),(.loc 12)]) (0,[(.loc 8)]) wIn,
     .expr (.reverse (.loc 9)),
     .expr (.extend (.loc 4) (.loc 9))]]
structure WL where
 l5:Option AV
 l6:Option AV
 l7:Option AV
 l8:Option AV
 l9:Option AV
 l10:Option AV
 l11:Option AV
 l12:Option AV
noncomputable def wwS (b number most:Nat) (K:List AO) (found:List (fR×PyData)) (stack:List lA) (l:WL) (T:List AO):AS:=
 { loc:=[some (.o b),some (.d (iD number)),some (.d (iD most)),some (.o K.length),some (.o (K.length + 1)),l.l5,l.l6,l.l7,l.l8,l.l9,l.l10,l.l11,l.l12,none,none],out:=[],heap:=K++(.list (found.map dm) :: .list (stack.map kz) :: T) }
theorem Be {K T:List AO} {x y:AO}:(K++(x :: y :: T))[K.length]?=some x:=by refine (List.getElem?_append_right (by exact Nat.le_refl _)).trans ?_; simp
theorem xZ {K T:List AO} {x y:AO}:(K++(x :: y :: T))[K.length + 1]?=some y:=by refine (List.getElem?_append_right (by exact rF)).trans ?_; simp
theorem Dn {K T:List AO} {x y z:AO}:(K++(x :: y :: T)).set K.length z=K++(z :: y :: T):=by refine (List.set_append_right _ _ (by exact Nat.le_refl _)).trans ?_; simp
theorem A9 {K T:List AO} {x y z:AO}:(K++(x :: y :: T)).set (K.length + 1) z=K++(x :: z :: T):=by refine (List.set_append_right _ _ (by exact rF)).trans ?_; simp
theorem ph {number most:Nat} {K T:List AO} {found:List (fR×PyData)} {stack:List lA} {l:WL} (hs:stack.length≤1000):
  whTest prog W (n + 8) wT (wwS b number most K found stack l T)=some (decide (stack.length > 0),wwS b number most K found stack l T):=by
 simp only [whTest,wT,wwS,ay,af,br,aC,aE,aV,aR,iU,jr,List.getElem?_cons_zero,List.getElem?_cons_succ,if_true,dz,xZ,List.length_map,(show stack.length≤2000000 by exact zb1 ‹_› rfl),nP]
 simp
noncomputable def gU (D:Dia) (t:lA):List (fR×PyData):=(D.waysN t.1).map fun w=>(t.2++w.1,w.2)
theorem GN {K T:List AO} {x y z:AO}:(K++(x :: y :: (T++[z])))[K.length + (T.length + 1 + 1)]?=some z:=by
 refine (List.getElem?_append_right (by exact rF)).trans ?_; simp
theorem Gn {K T:List AO} {x y z w:AO}:(K++(x :: y :: (T++[z]))).set (K.length + (T.length + 1 + 1)) w=K++(x :: y :: (T++[w])):=by
 refine (List.set_append_right _ _ (by exact rF)).trans ?_; simp
theorem xg {number most:Nat} {K T:List AO} {found:List (fR×PyData)} {stack:List lA} {l:WL} {t:lA} {v:PyData} (h:HoldsAt b D K) (F:Fits D) (g:D.nodes[t.1]?=some (.leaf v)) (hf:found.length < most) (hm:most≤1000) (hs:stack.length≤1000):
  ∃ l',whBody prog W (n + 30) wB (wwS b number most K found (stack++[t]) l T)=some (.next,wwS b number most K (found++[(t.2,v)]) stack l' T):=by
 have k:=fun (loc:List (Option AV)) (T:List AO) (j:Nat)=>eL (W:=W) (n:=j) (σ:={ loc:=loc,out:=[],heap:=K++T }) (h.app T) F g
 have s:=fun T=>(h.app T).self
 have e1:∀ σ:AS,cmpV σ .eq (.d cJ) (.d cJ)=some true:=fun σ=>gq
 simp only [Nd.enc,cJ] at k e1
 refine ⟨⟨some (.d (iD t.1)),some (.d (dP t.2)),some (.d cJ),some (.d v),l.l9,l.l10,l.l11,l.l12⟩,?_⟩
 simp only [whBody,wB,wwS,aq,am,av,aS,aK,bm,fP,ay,cC,af,bF,aH,jg,jv,kD,br,aG,bg,aC,ai,ag,bq,ae,aA,ax,au,aE,aP,bJ,aW,aV,aY,aL,cM,dW,eM,aR,cU,db,bG,iU,jr,bf,AS.setLoc,az,AS.freezeAll,AS.put,AS.alloc,List.getElem?_cons_zero,List.getElem?_cons_succ,List.set_cons_zero,List.set_cons_succ,List.length_cons,List.length_nil,List.map_cons,List.map_nil,Nat.reduceAdd,if_true,dz,cB,xZ,List.map_append,List.getLast?_append,List.getLast?_singleton,Option.some_or,List.length_append,List.length_map,(show stack.length + 1≤2000000 by exact tX ‹_› rfl),List.dropLast_concat,kz,A9,s,k,e1,Be,(show found.length≤2000000 by exact DB ‹_› ‹_› rfl),li (show (found.length:Int)≠most by lia),(show found.length < 1000000 by lia),Dn,dm]
theorem vi {number most:Nat} {K T:List AO} {found:List (fR×PyData)} {stack:List lA} {l:WL} {t:lA} {x:Nat} {ps:List (Nat×Nat)} (h:HoldsAt b D K) (F:Fits D) (g:D.nodes[t.1]?=some (.inner x ps)) (hp:t.2.length≤10) (hl:ps.length≤50) (hs:stack.length≤1000):
  ∃ l' T',whBody prog W (n + 30) wB (wwS b number most K found (stack++[t]) l T)=some (.next,wwS b number most K found (stack++((runsFrom 0 ps).map (addRun x t.2)).reverse) l' T'):=by
 have k:=fun (loc:List (Option AV)) (T:List AO) (j:Nat)=>eL (W:=W) (n:=j) (σ:={ loc:=loc,out:=[],heap:=K++T }) (h.app T) F g
 have s:=fun T=>(h.app T).self
 have e1:∀ σ:AS,cmpV σ .eq (.d (iD x)) (.d cJ)=some false:=fun σ=>fE
 simp only [Nd.enc,cJ] at k e1
 refine n5 (BB (W:=W) (n:=n + 2) (b:=b) (number:=number) (most:=most) (at_:=t.1) (x:=x) (about:=.tuple (ps.map partD)) (path:=t.2) (K:=K++(.list (found.map dm) :: .list (stack.map kz) :: T)) (j3:=K.length) (j4:=K.length + 1) hp (ps:=ps) (lo:=0) (h11:=l.l11) (h12:=l.l12) (acc:=[]) (by simp; exact zb1 ‹_› rfl)) fun lo' u v loop=>?_
 have z0:iD 0=.int 0:=rfl
 simp only [wS,List.map_nil,z0,List.nil_append,List.append_assoc,List.cons_append,List.length_append,List.length_cons] at loop
 have rl:((runsFrom 0 ps).map (addRun x t.2)).length≤100:=by
  have:∀ (ps:List (Nat×Nat)) (lo:Nat),(runsFrom lo ps).length=ps.length:=by
   intro ps
   induction ps with
   | nil=>intro lo; rfl
   | cons p ps ih=>intro lo; simp [runsFrom,ih]
  simp [this]; exact zb1 ‹_› rfl
 generalize (runsFrom 0 ps).map (addRun x t.2)=R at loop rl
 refine (bV ⟨some (.d (iD t.1)),some (.d (dP t.2)),some (.d (iD x)),some (.d (.tuple (ps.map partD))),some (.o (K++(.list (found.map dm) :: .list (stack.map kz) :: T)).length),some (.d (iD lo')),u,v⟩ (T++[.list (R.reverse.map kz)]) ?_)
 have ne:¬ (K.length + (T.length + 1 + 1)=K.length + 1):=by lia
 simp only [whBody,wB,wwS,aq,am,av,aS,aK,bm,fP,ay,cC,af,bF,aH,jg,jv,kD,br,aG,bg,aC,ai,ag,bq,ae,aA,ax,au,aE,aP,aW,aV,aY,aL,cM,dW,eM,aR,db,bG,Fh,nT,bf,AS.setLoc,az,AS.freezeAll,AS.put,AS.alloc,List.getElem?_cons_zero,List.getElem?_cons_succ,List.set_cons_zero,List.set_cons_succ,List.length_cons,List.length_nil,List.map_cons,List.map_nil,List.cons_append,Nat.reduceAdd,if_true,dz,cB,xZ,List.map_append,List.getLast?_append,List.getLast?_singleton,Option.some_or,List.length_append,List.length_map,(show stack.length + 1≤2000000 by exact tX ‹_› rfl),List.dropLast_concat,kz,A9,s,k,e1,List.append_assoc,loop,GN,Gn,(show R.length≤2000000 by exact zb1 ‹_› rfl),List.length_reverse,ne_eq,ne,not_false_eq_true,true_and,(show stack.length + R.length≤1000000 by lia),List.map_reverse]
theorem uK {α β:Type} {f:α→List β} {xs:List α} {x:α}:(xs++[x]).reverse.flatMap f=f x++xs.reverse.flatMap f:=by simp
theorem t6 {number most:Nat} {K:List AO} (w:WF D) (h:HoldsAt b D K) (F:Fits D) (hm:most≤1000):∀ (f:Nat) {found:List (fR×PyData)} {stack:List lA} {l:WL} {T:List AO} (k:Nat),
  (∀ t∈stack,t.1 < D.nodes.length∧t.2.length≤D.lev t.1)→(stack.map fun t=>D.sizeN t.1).sum≤f→f≤500→(found++stack.reverse.flatMap (gU D)).length≤most→
  ∃ l' T',whileIt (whTest prog W (n + 30) wT) (whBody prog W (n + 30) wB) (k + f + 1) (wwS b number most K found stack l T)=some (.next,wwS b number most K (found++stack.reverse.flatMap (gU D)) [] l' T'):=by
 intro f
 induction f with
 | zero=>
  intro found stack l T k hs hf hf5 hl
  rcases List.eq_nil_or_concat stack with rfl | ⟨st,t,rfl⟩
  ·exact (bV l T (by refine (eB ((ph (n:=n + 22) (by simp)).trans (by simp; rfl))).trans ?_; simp))
  ·exfalso
   have:=ox w (hs t (by simp)).1
   simp at hf; lia
 | succ f ih=>
  intro found stack l T k hs hf hf5 hl
  rcases List.eq_nil_or_concat stack with rfl | ⟨st,t,rfl⟩
  ·exact (bV l T (by rw [eB ((ph (n:=n + 22) (by simp)).trans (by simp; rfl))]; simp))
  ·simp only [List.concat_eq_append] at *
   have len1:∀ (xs:List lA),(∀ t∈xs,t.1 < D.nodes.length∧t.2.length≤D.lev t.1)→xs.length≤(xs.map fun t=>D.sizeN t.1).sum:=by
    intro xs
    induction xs with
    | nil=>intro _; simp
    | cons x xs ih=>intro hx; have h1:=ih fun t m=>hx t (.tail _ m); have h2:=ox w (hx x (.head _)).1; simp only [List.map_cons,List.sum_cons,List.length_cons]; lia
   have hlen:=len1 _ hs
   have ht:=hs t (by simp)
   have tst:whTest prog W (n + 30) wT (wwS b number most K found (st++[t]) l T)=some (true,wwS b number most K found (st++[t]) l T):=(ph (n:=n + 22) (by lia)).trans (by rw [decide_eq_true (by simp)])
   have e1:k + (f + 1) + 1=(k + f + 1) + 1:=by exact rfl
   have g:=List.getElem?_eq_getElem ht.1
   rw [uK] at hl ⊢
   simp only [List.map_append,List.map_cons,List.map_nil,List.sum_append,List.sum_cons,List.sum_nil] at hf
   induction q:D.nodes[t.1] using Nd.casesOn with
   | leaf v=>
    rw [q] at g
    have ew:gU D t=[(t.2,v)]:=by unfold gU; rw [rK g]; simp
    rw [ew] at hl ⊢
    simp only [List.length_append,List.length_cons,List.length_nil] at hl
    simp only [List.length_append,List.length_cons,List.length_nil] at hlen
    obtain ⟨l',b1⟩:=xg (W:=W) (n:=n) (number:=number) (most:=most) (T:=T) (found:=found) (stack:=st) (l:=l) h F g (by lia) hm (by
     have:=len1 st fun t m=>hs t (by simp [m]); lia)
    have hz:=mY g
    refine cG (ih (found:=found++[(t.2,v)]) (stack:=st) (l:=l') (T:=T) k (fun t m=>hs t (by simp [m])) (by lia) (by exact lC ‹_›) (by simp only [List.length_append,List.length_cons,List.length_nil]; lia)) fun l'' T'' c1=>?_
    refine (bV l'' T'' ?_)
    rw [e1,ej tst b1,c1]
    simp
   | inner x ps=>
    rw [q] at g
    refine dR (w.inner t.1 x ps g) fun h1 h2 h3 h4 h5=>?_
    have ex:D.lev t.1=x:=cE g
    have hpl:=h2.len
    have htp:=(w.topx h1).2
    refine cG (vi (W:=W) (n:=n) (number:=number) (most:=most) (T:=T) (found:=found) (stack:=st) (l:=l) h F g (by lia) (by exact pU ‹_› ‹_› rfl) (by
     have:=len1 st fun t m=>hs t (by simp [m]); lia)) fun l' T' b1=>?_
    have ew:(((runsFrom 0 ps).map (addRun x t.2)).reverse).reverse.flatMap (gU D)=gU D t:=by
     rw [List.reverse_reverse]
     unfold gU
     rw [pX w g]
     simp only [List.flatMap_map,List.map_flatMap,List.map_map,addRun]
     refine cK fun r m=>?_
     refine List.map_congr_left fun v zz=>?_
     simp
    have hz:=lG w g
    have hsum:∀ (ps:List (Nat×Nat)) (lo:Nat),(((runsFrom lo ps).map (addRun x t.2)).map fun t=>D.sizeN t.1).sum=(ps.map fun p=>D.sizeN p.2).sum:=by
     intro ps
     induction ps with
     | nil=>intro lo; rfl
     | cons p ps ih=>intro lo; simp only [runsFrom,List.map_cons,List.sum_cons,addRun] at ih ⊢; rw [ih]
    refine cG (ih (found:=found) (stack:=st++((runsFrom 0 ps).map (addRun x t.2)).reverse) (l:=l') (T:=T') k (fun t' m=>by
     rcases List.mem_append.mp m with m | m
     ·exact hs t' (by simp [m])
     ·refine aB (List.mem_map.mp (List.mem_reverse.mp m)) fun r mr e_1=>?_; subst e_1
      refine aB (iw mr) fun p mp ep=>?_
      have:=h5 p mp
      simp only [addRun]
      rw [← ep]
      exact ⟨by exact DC ‹_› ‹_›,by simp; lia⟩) (by
     rw [List.map_append,List.sum_append,List.map_reverse,List.sum_reverse,hsum]; lia) (by exact lC ‹_›) (by
     rw [List.reverse_append,List.flatMap_append,ew]; exact hl)) fun l'' T'' c1=>?_
    refine (bV l'' T'' ?_)
    rw [e1,ej tst b1,c1,List.reverse_append,List.flatMap_append,ew]
theorem oi {σ:AS} {number most:Nat} (hW:1000≤W) (w:WF D) (h:HoldsAt b D σ.heap) (hc:aI σ.heap=true) (F:Fits D) (hm:most≤1000) (hn:number < D.nodes.length) (hl:(D.waysN number).length≤most):
  callF prog W (n + 40) 12 [.o b,.d (iD number),.d (iD most)] σ=some (.d (.list ((D.waysN number).map dm)),σ):=by
 refine (bh (fd:=⟨3,15,b_ways⟩) rfl rfl).trans ?_
 obtain ⟨v,rfl⟩:∃ v,W=v + 300 + 1:=⟨W - 301,by lia⟩
 have hz:=vP w hn
 have ew:gU D (number,[])=D.waysN number:=by unfold gU; simp
 refine cG (t6 (W:=v + 300 + 1) (n:=n + 5) (b:=b) (number:=number) (most:=most) w h F hm 300 (found:=[]) (stack:=[(number,[])]) (l:=⟨none,none,none,none,none,none,none,none⟩) (T:=[]) v
  (fun t m=>by simp at m; subst m; exact ⟨hn,Nat.zero_le _⟩) (by simp; exact zb1 ‹_› rfl) (by exact Dj) (by simp [ew]; exact hl)) fun l' T' loop=>?_
 simp only [wwS,wT,wB,wIn,List.map_nil,List.map_cons,kz,dP,List.reverse_cons,List.reverse_nil,List.nil_append,List.flatMap_cons,List.flatMap_nil,List.append_nil,ew] at loop
 simp only [b_ways,aq,am,av,eI,aO,af,aG,bg,ai,ag,ae,aE,aP,bJ,aW,aL,dW,aR,bG,cT,nR,bf,cj,AS.setLoc,az,dN,AS.freezeAll,AS.put,AS.alloc,List.getElem?_cons_zero,List.getElem?_cons_succ,List.set_cons_zero,List.set_cons_succ,List.length_cons,List.length_nil,List.map_cons,List.map_nil,List.cons_append,List.nil_append,List.replicate,Nat.reduceAdd,Nat.reduceSub,List.append_assoc,List.length_append,loop,Be,Dn,di hc]
end
inductive Reach (D:Dia) (n:Nat):Nat→Prop where
 | refl:Reach D n n
 | step {k x:Nat} {ps:List (Nat×Nat)} {p:Nat×Nat}:Reach D n k→D.nodes[k]?=some (.inner x ps)→p∈ps→Reach D n p.2
section
variable {W n b:Nat} {D:Dia}
noncomputable def eY (s:List Nat):List (PyData×PyData):=s.map fun k=>(iD k,.bool true)
theorem rt (k:Nat) (s:List Nat):dj (iD k) (eY s)=true:=by
 unfold dj
 rw [(Kk.int (k:=0) (i:=(k:Int))).key]
 show dJ (iD k) (eY s)=true
 unfold dJ
 simp only [eY,List.all_map,List.all_eq_true]
 intro e _; rfl
theorem jd (k:Nat):∀ (s:List Nat),(findKey (iD k) (eY s)).isSome=decide (k∈s)
 | []=>rfl
 | e :: s=>by
  have ih:=jd k s
  unfold findKey at ih ⊢
  simp only [eY,List.map_cons,List.find?_cons] at ih ⊢
  rw [iO (Ok.int (k:=0)).1 (Ok.int (k:=0)).1]
  by_cases q:e=k
  ·subst q; simp
  ·have:¬ (PyData.int (e:Int)=PyData.int (k:Int)):=by simp; exact uZ ‹_›
   simp only [this,decide_false]
   refine (ih).trans ?_
   simp [show k≠e from fun z=>q z.symm]
theorem vX {k:Nat} {s:List Nat} (h:k ∉ s):putKey (iD k) (.bool true) (eY s)=eY (s++[k]):=by
 have:findKey (iD k) (eY s)=none:=by
  have:=jd k s
  rw [decide_eq_false h] at this
  induction q:findKey (iD k) (eY s) using Option.casesOn with
  | none=>rfl
  | some _=>rw [q] at this; exact tF this
 refine (pu this).trans ?_; simp [eY]
noncomputable def zS (b number:Nat) (K:List AO) (seen stack:List Nat) (l4 l5 l6 l7:Option AV):AS:=
 { loc:=[some (.o b),some (.d (iD number)),some (.o K.length),some (.o (K.length + 1)),l4,l5,l6,l7,none],out:=[],heap:=K++[.dict (eY seen),.list (stack.map iD)] }
noncomputable def zIn:List S:=[.ite (.cmp .notin (.loc 7) (.loc 2))
       [.setSub (.loc 2) (.loc 7) (.bool true),
        .expr (.append (.loc 3) (.loc 7))]
       []]
noncomputable def visit (s:List Nat×List Nat) (c:Nat):List Nat×List Nat:=if c∈s.1 then s else (s.1++[c],s.2++[c])
theorem zj {number:Nat} {K:List AO} {s:List Nat×List Nat} {l4 l5 l6 l7:Option AV} {p:Nat×Nat} (h1:s.1.length≤9000) (h2:s.2.length≤9000):
  forTurn prog W (n + 12) (.tup [(.loc 6),(.loc 7)]) zIn (partD p) (zS b number K s.1 s.2 l4 l5 l6 l7)=some (.next,zS b number K (visit s p.2).1 (visit s p.2).2 l4 l5 (some (.d (iD p.1))) (some (.d (iD p.2)))):=by
 have g0:∀ x y:AO,(K++[x,y])[K.length]?=some x:=fun x y=>Be
 have g1:∀ x y:AO,(K++[x,y])[K.length + 1]?=some y:=fun x y=>xZ
 have s0:∀ x y z:AO,(K++[x,y]).set K.length z=K++[z,y]:=fun x y z=>Dn
 have s1:∀ x y z:AO,(K++[x,y]).set (K.length + 1) z=K++[x,z]:=fun x y z=>A9
 have hs:(eY s.1).length < 1000000:=by simp [eY]; exact og ‹_› rfl
 have hk:(s.2.map iD).length < 1000000:=by simp; exact og ‹_› rfl
 by_cases e:p.2∈s.1
 ·have f:=jd p.2 s.1
  rw [decide_eq_true e] at f
  simp only [forTurn,zIn,zS,partD,visit,e,aq,am,bw,aS,aK,c7,af,aH,aC,ae,aA,ax,au,aE,bJ,aV,aL,aR,db,bG,bf,AS.setLoc,az,AS.put,List.getElem?_cons_zero,List.getElem?_cons_succ,List.set_cons_zero,List.set_cons_succ,if_true,cB,cX,sm,ux,g0,rt,f,Option.map_some,Bool.not_true]
 ·have f:=jd p.2 s.1
  rw [decide_eq_false e] at f
  simp only [forTurn,zIn,zS,partD,visit,e,aq,am,bw,aS,aK,c7,af,aH,aC,ae,aA,ax,au,aE,bJ,aV,aL,cM,bZ,dW,aR,cU,bG,bf,AS.setLoc,az,AS.put,List.getElem?_cons_zero,List.getElem?_cons_succ,List.set_cons_zero,List.set_cons_succ,List.map_cons,List.map_nil,if_true,reduceIte,cB,cX,sm,ux,g0,g1,s0,s1,rt,f,Option.map_some,Bool.not_false,mZ,zH,hs,decide_true,Bool.and_self,vX e,List.length_map,(show s.2.length < 1000000 by exact og ‹_› rfl),List.map_append]
theorem t7 {s:List Nat×List Nat} {c:Nat}:(visit s c).1.length≤s.1.length + 1∧(visit s c).2.length≤s.2.length + 1:=by
 unfold visit; split <;> simp
theorem vd {number:Nat} {K:List AO}:∀ {ps:List (Nat×Nat)} {s:List Nat×List Nat} {l4 l5 l6 l7:Option AV},s.1.length + ps.length≤9000→s.2.length + ps.length≤9000→
  ∃ u v,forItems (forTurn prog W (n + 12) (.tup [(.loc 6),(.loc 7)]) zIn) (ps.map partD) (zS b number K s.1 s.2 l4 l5 l6 l7)=some (.next,zS b number K ((ps.map (·.2)).foldl visit s).1 ((ps.map (·.2)).foldl visit s).2 l4 l5 u v)
 | [],s,l4,l5,l6,l7,_,_=>(bV l6 l7 rfl)
 | p :: ps,s,l4,l5,l6,l7,h1,h2=>by
  simp only [List.length_cons] at h1 h2
  have vl:=t7 (s:=s) (c:=p.2)
  refine cG (vd (number:=number) (K:=K) (ps:=ps) (s:=visit s p.2) (l4:=l4) (l5:=l5) (l6:=some (.d (iD p.1))) (l7:=some (.d (iD p.2))) (by lia) (by lia)) fun u v e=>?_
  refine (bV u v ?_)
  simp only [List.map_cons,forItems,zj (show s.1.length≤9000 by exact lC ‹_›) (show s.2.length≤9000 by exact lC ‹_›),List.foldl_cons]
  exact e
structure Seen (D:Dia) (r:Nat) (seen stack:List Nat):Prop where
 root:r∈seen
 nodup:seen.Nodup
 lt:∀ k∈seen,k < D.nodes.length
 reach:∀ k∈seen,Reach D r k
 stk:∀ k∈stack,k∈seen
 done:∀ k∈seen,k∈stack∨∀ x ps,D.nodes[k]?=some (.inner x ps)→∀ p∈ps,p.2∈seen
theorem rL {cs:List Nat}:∀ {s:List Nat×List Nat},∃ t,((cs.foldl visit s).1=s.1++t)∧((cs.foldl visit s).2=s.2++t)∧(∀ k∈t,k∈cs)∧(s.1.Nodup→(s.1++t).Nodup)∧∀ c∈cs,c∈s.1++t:=by
 induction cs with
 | nil=>intro s; exact (m1a5 [] (by simp) (by simp) (by simp) (by simp) (by simp))
 | cons c cs ih=>
  intro s
  simp only [List.foldl_cons]
  by_cases e:c∈s.1
  ·have:visit s c=s:=by unfold visit; rw [if_pos e]
   rw [this]
   refine xe (ih (s:=s)) fun t h1 h2 h3 h4 h5=>?_
   exact (m1a5 t h1 h2 (fun k m=>.tail _ (h3 k m)) h4 (fun k m=>by
    rcases List.mem_cons.mp m with rfl | m
    ·exact List.mem_append_left _ e
    ·exact h5 k m))
  ·have:visit s c=(s.1++[c],s.2++[c]):=by unfold visit; rw [if_neg e]
   rw [this]
   refine xe (ih (s:=(s.1++[c],s.2++[c]))) fun t h1 h2 h3 h4 h5=>?_
   refine (m1a5 (c :: t) (by refine (h1).trans ?_; simp) (by refine (h2).trans ?_; simp) (fun k m=>?_) (fun nd=>?_) (fun k m=>?_))
   ·rcases List.mem_cons.mp m with rfl | m
    ·exact .head _
    ·exact .tail _ (h3 k m)
   ·have:=h4 (List.nodup_append.mpr (cw nd (by simp) (fun a ha b hb q=>by simp at hb; subst hb; subst q; exact e ha)))
    simpa using this
   ·rcases List.mem_cons.mp m with rfl | m
    ·simp
    ·have:=h5 k m; simpa using this
theorem Seen.push {r k x:Nat} {ps:List (Nat×Nat)} {seen stack:List Nat} (w:WF D) (S:Seen D r seen (stack++[k])) (g:D.nodes[k]?=some (.inner x ps)):
  Seen D r ((ps.map (·.2)).foldl visit (seen,stack)).1 ((ps.map (·.2)).foldl visit (seen,stack)).2∧∃ t,((ps.map (·.2)).foldl visit (seen,stack)).1=seen++t∧((ps.map (·.2)).foldl visit (seen,stack)).2=stack++t:=by
 refine xe (rL (cs:=ps.map (·.2)) (s:=(seen,stack))) fun t h1 h2 h3 h4 h5=>?_
 refine ⟨?_,(m1a2 t h1 h2)⟩
 rw [h1,h2]
 have hk:=S.stk k (by simp)
 refine dR (w.inner k x ps g) fun zz zz zz zz w5=>?_
 have hlt:=(List.getElem?_eq_some_iff.mp g).1
 refine ⟨List.mem_append_left _ S.root,h4 S.nodup,fun j m=>?_,fun j m=>?_,fun j m=>?_,fun j m=>?_⟩
 ·rcases List.mem_append.mp m with m | m
  ·exact S.lt j m
  ·refine aB (List.mem_map.mp (h3 j m)) fun p mp e=>?_
   have:=(w5 p mp).1; lia
 ·rcases List.mem_append.mp m with m | m
  ·exact S.reach j m
  ·refine aB (List.mem_map.mp (h3 j m)) fun p mp e=>?_
   exact e▸Reach.step (S.reach k hk) g mp
 ·rcases List.mem_append.mp m with m | m
  ·exact List.mem_append_left _ (S.stk j (by simp [m]))
  ·exact List.mem_append_right _ m
 ·rcases List.mem_append.mp m with m | m
  ·rcases S.done j m with q | q
   ·rcases List.mem_append.mp q with q | q
    ·exact .inl (List.mem_append_left _ q)
    ·simp at q; subst q
     right
     intro x' ps' g' p mp
     rw [g] at g'; cases g'
     exact h5 p.2 (List.mem_map_of_mem (f:=(·.2)) mp)
   ·right; intro x' ps' g' p mp; exact List.mem_append_left _ (q x' ps' g' p mp)
  ·exact .inl (List.mem_append_right _ m)
theorem Seen.pop {r k:Nat} {v:PyData} {seen stack:List Nat} (S:Seen D r seen (stack++[k])) (g:D.nodes[k]?=some (.leaf v)):Seen D r seen stack:=
 ⟨S.root,S.nodup,S.lt,S.reach,fun j m=>S.stk j (by simp [m]),fun j m=>by
  rcases S.done j m with q | q
  ·rcases List.mem_append.mp q with q | q
   ·exact .inl q
   ·simp at q; subst q; right; intro x ps g'; rw [g] at g'; cases g'
  ·exact .inr q⟩
theorem Seen.all {r:Nat} {seen:List Nat} (S:Seen D r seen []):∀ k,k∈seen ↔ Reach D r k:=fun k=>⟨S.reach k,fun h=>by
 induction h with
 | refl=>exact S.root
 | step _ g mp ih=>
  rcases S.done _ ih with q | q
  ·exact (List.not_mem_nil q).elim
  ·exact q _ _ g _ mp⟩
noncomputable def zT:E:=.cmp .gt (.len (.loc 3)) (.int 0)
noncomputable def zB:List S:=[.assign (.tup [(.loc 4),(.loc 5)]) (.meth 5 (.loc 0) [(.pop (.loc 3))]),
   .ite (.cmp .ne (.loc 4) (.str (Str.ofString "leaf")))
    [.for (.tup [(.loc 6),(.loc 7)]) (0,[(.loc 5)]) zIn]
    []]
theorem rI {number:Nat} {K:List AO} {seen stack:List Nat} {l4 l5 l6 l7:Option AV} (hs:stack.length≤9000):
  whTest prog W (n + 8) zT (zS b number K seen stack l4 l5 l6 l7)=some (decide (stack.length > 0),zS b number K seen stack l4 l5 l6 l7):=by
 have g1:∀ x y:AO,(K++[x,y])[K.length + 1]?=some y:=fun x y=>xZ
 simp only [whTest,zT,zS,ay,af,br,aC,aE,aV,aR,iU,jr,List.getElem?_cons_zero,List.getElem?_cons_succ,if_true,dz,g1,List.length_map,(show stack.length≤2000000 by exact zb1 ‹_› rfl),nP]
 simp
theorem zk {number:Nat} {K:List AO} {seen stack:List Nat} {l4 l5 l6 l7:Option AV} {k:Nat} {v:PyData} (h:HoldsAt b D K) (F:Fits D) (g:D.nodes[k]?=some (.leaf v)) (hs:stack.length≤9000):
  ∃ u v,whBody prog W (n + 24) zB (zS b number K seen (stack++[k]) l4 l5 l6 l7)=some (.next,zS b number K seen stack u v l6 l7):=by
 have g1:∀ x y:AO,(K++[x,y])[K.length + 1]?=some y:=fun x y=>xZ
 have s1:∀ x y z:AO,(K++[x,y]).set (K.length + 1) z=K++[x,z]:=fun x y z=>A9
 have k:=fun (loc:List (Option AV)) (T:List AO) (j:Nat)=>eL (W:=W) (n:=j) (σ:={ loc:=loc,out:=[],heap:=K++T }) (h.app T) F g
 have s:=fun T=>(h.app T).self
 have e1:∀ σ:AS,cmpV σ .ne (.d cJ) (.d cJ)=some false:=fun σ=>nO
 simp only [Nd.enc,cJ] at k e1
 refine (bV (some (.d cJ)) (some (.d v)) ?_)
 simp only [whBody,zB,zS,aq,am,av,aK,bm,cC,af,bF,jg,aC,ai,ag,bq,ae,aA,ax,au,aE,aP,aV,aY,aL,cM,dW,eM,aR,db,bG,bf,AS.setLoc,AS.put,List.getElem?_cons_zero,List.getElem?_cons_succ,List.set_cons_zero,List.set_cons_succ,List.length_cons,List.length_nil,List.map_cons,List.map_nil,Nat.reduceAdd,if_true,dz,g1,s,List.map_append,List.getLast?_append,List.getLast?_singleton,Option.some_or,List.length_append,List.length_map,(show stack.length + 1≤2000000 by exact tX ‹_› rfl),List.dropLast_concat,s1,k,e1]
theorem xd {number:Nat} {K:List AO} {seen stack:List Nat} {l4 l5 l6 l7:Option AV} {k x:Nat} {ps:List (Nat×Nat)} (h:HoldsAt b D K) (F:Fits D) (g:D.nodes[k]?=some (.inner x ps)) (hs:stack.length + ps.length≤9000) (hs':seen.length + ps.length≤9000):
  ∃ l4' l5' l6' l7',whBody prog W (n + 24) zB (zS b number K seen (stack++[k]) l4 l5 l6 l7)=some (.next,zS b number K ((ps.map (·.2)).foldl visit (seen,stack)).1 ((ps.map (·.2)).foldl visit (seen,stack)).2 l4' l5' l6' l7'):=by
 have g1:∀ x y:AO,(K++[x,y])[K.length + 1]?=some y:=fun x y=>xZ
 have s1:∀ x y z:AO,(K++[x,y]).set (K.length + 1) z=K++[x,z]:=fun x y z=>A9
 have k:=fun (loc:List (Option AV)) (T:List AO) (j:Nat)=>eL (W:=W) (n:=j) (σ:={ loc:=loc,out:=[],heap:=K++T }) (h.app T) F g
 have s:=fun T=>(h.app T).self
 have e1:∀ σ:AS,cmpV σ .ne (.d (iD x)) (.d cJ)=some true:=fun σ=>oa
 simp only [Nd.enc,cJ] at k e1
 refine cG (vd (W:=W) (n:=n + 7) (b:=b) (number:=number) (K:=K) (ps:=ps) (s:=(seen,stack)) (l4:=some (.d (iD x))) (l5:=some (.d (.tuple (ps.map partD)))) (l6:=l6) (l7:=l7) hs' hs) fun u v loop=>?_
 refine (uC (some (.d (iD x))) (some (.d (.tuple (ps.map partD)))) u v ?_)
 simp only [zS] at loop
 simp only [whBody,zB,zS,aq,am,av,aK,bm,cC,af,bF,jg,aC,ai,ag,bq,ae,aA,ax,au,aE,aP,aW,aV,aY,aL,cM,dW,eM,aR,cU,bG,nT,bf,AS.setLoc,az,AS.put,List.getElem?_cons_zero,List.getElem?_cons_succ,List.set_cons_zero,List.set_cons_succ,List.length_cons,List.length_nil,List.map_cons,List.map_nil,Nat.reduceAdd,if_true,dz,g1,s,List.map_append,List.getLast?_append,List.getLast?_singleton,Option.some_or,List.length_append,List.length_map,(show stack.length + 1≤2000000 by lia),List.dropLast_concat,s1,k,e1,loop]
theorem nu {N:Nat}:∀ {xs:List Nat},xs.Nodup→(∀ x∈xs,x < N)→xs.length≤N:=by
 induction N with
 | zero=>
  intro xs nd h
  induction xs using List.casesOn with
  | nil=>simp
  | cons x xs=>have:=h x (.head _); lia
 | succ N ih=>
  intro xs nd h
  have h1:=ih (xs:=xs.filter (fun x=>decide (x≠N))) (nd.filter _) (fun x m=>by
   simp at m; have:=h x m.1; lia)
  have h2:xs.length≤(xs.filter (fun x=>decide (x≠N))).length + 1:=by
   clear ih h h1
   induction xs with
   | nil=>simp
   | cons x xs ih=>
    obtain ⟨n1,n2⟩:=List.nodup_cons.mp nd
    by_cases e:x=N
    ·subst e
     have:xs.filter (fun y=>decide (y≠x))=xs:=List.filter_eq_self.mpr fun y m=>by
      simp; exact fun q=>n1 (q▸m)
     rw [List.filter_cons_of_neg (by simp),this]; simp
    ·rw [List.filter_cons_of_pos (by simp [e])]
     have:=ih n2
     simp only [List.length_cons]; exact yB ‹_›
  lia
theorem Bv {r:Nat} {K:List AO} (w:WF D) (h:HoldsAt b D K) (F:Fits D) (hN:D.nodes.length≤8900):∀ (f:Nat) {seen stack:List Nat} {l4 l5 l6 l7:Option AV} (k:Nat),Seen D r seen stack→D.nodes.length + stack.length≤f + seen.length→stack.length≤seen.length→
  ∃ seen' l4' l5' l6' l7',whileIt (whTest prog W (n + 24) zT) (whBody prog W (n + 24) zB) (k + f + 1) (zS b r K seen stack l4 l5 l6 l7)=some (.next,zS b r K seen' [] l4' l5' l6' l7')∧Seen D r seen' []:=by
 intro f
 induction f with
 | zero=>
  intro seen stack l4 l5 l6 l7 k S hf hs
  rcases List.eq_nil_or_concat stack with rfl | ⟨st,t,rfl⟩
  ·exact (xL seen l4 l5 l6 l7 (by rw [eB ((rI (n:=n + 16) (by simp)).trans (by simp; rfl))]) S)
  ·exfalso
   have:=nu S.nodup S.lt
   simp at hf; lia
 | succ f ih=>
  intro seen stack l4 l5 l6 l7 k S hf hs
  have hsl:=nu S.nodup S.lt
  rcases List.eq_nil_or_concat stack with rfl | ⟨st,t,rfl⟩
  ·exact (xL seen l4 l5 l6 l7 (by rw [eB ((rI (n:=n + 16) (by simp)).trans (by simp; rfl))]) S)
  ·simp only [List.concat_eq_append] at *
   simp only [List.length_append,List.length_cons,List.length_nil] at hf hs
   have ht:=S.lt t (S.stk t (by simp))
   have tst:whTest prog W (n + 24) zT (zS b r K seen (st++[t]) l4 l5 l6 l7)=some (true,zS b r K seen (st++[t]) l4 l5 l6 l7):=(rI (n:=n + 16) (by simp; lia)).trans (by rw [decide_eq_true (by simp)])
   have e1:k + (f + 1) + 1=(k + f + 1) + 1:=by exact rfl
   have g:=List.getElem?_eq_getElem ht
   induction q:D.nodes[t] using Nd.casesOn with
   | leaf v=>
    rw [q] at g
    refine bc fun hn=>?_
    refine cG (zk (W:=W) (n:=n) (number:=r) (seen:=seen) (stack:=st) (l4:=l4) (l5:=l5) (l6:=l6) (l7:=l7) h F g (by lia)) fun u v' b1=>?_
    refine zm (ih (l4:=u) (l5:=v') (l6:=l6) (l7:=l7) k (S.pop g) (by lia) (by exact lC ‹_›)) fun seen' a4 a5 a6 a7 c1 c2=>?_
    refine hn ?_
    exact (xL seen' a4 a5 a6 a7 (by rw [e1,ej tst b1,c1]) c2)
   | inner x ps=>
    rw [q] at g
    have h2:=(w.inner t x ps g).2.1.len
    have hx:=(w.inner t x ps g).1
    have htp:=(w.topx hx).2
    obtain ⟨S',t_1⟩:=S.push w g; refine aB t_1 fun tt q1 q2=>?_
    have hsl':=nu S'.nodup S'.lt
    rw [q1] at hsl'
    simp only [List.length_append] at hsl'
    refine bc fun hn=>?_
    refine tY (xd (W:=W) (n:=n) (number:=r) (seen:=seen) (stack:=st) (l4:=l4) (l5:=l5) (l6:=l6) (l7:=l7) h F g (by lia) (by lia)) fun l4' l5' l6' l7' b1=>?_
    refine zm (ih (l4:=l4') (l5:=l5') (l6:=l6') (l7:=l7') k S' (by rw [q1,q2]; simp only [List.length_append]; lia) (by rw [q1,q2]; simp only [List.length_append]; lia)) fun seen' a4 a5 a6 a7 c1 c2=>?_
    refine hn ?_
    exact (xL seen' a4 a5 a6 a7 (by rw [e1,ej tst b1,c1]) c2)
theorem ui {σ:AS} {r:Nat} (hW:9000≤W) (w:WF D) (h:HoldsAt b D σ.heap) (hc:aI σ.heap=true) (F:Fits D) (hN:D.nodes.length≤8900) (hr:r < D.nodes.length):
  ∃ seen:List Nat,seen.Nodup∧(∀ k,k∈seen ↔ Reach D r k)∧callF prog W (n + 40) 11 [.o b,.d (iD r)] σ=some (.d (iD seen.length),σ):=by
 obtain ⟨v,rfl⟩:∃ v,W=v + D.nodes.length + 1:=⟨W - D.nodes.length - 1,by lia⟩
 have S0:Seen D r [r] [r]:=⟨by simp,by simp,by simpa using hr,fun k m=>by simp at m; subst m; exact .refl,by simp,by simp⟩
 refine zm (Bv (W:=v + D.nodes.length + 1) (n:=n + 11) (b:=b) w h F hN D.nodes.length (l4:=none) (l5:=none) (l6:=none) (l7:=none) v S0 (by simp) (by simp)) fun seen' l4 l5 l6 l7 loop S=>?_
 refine (dT seen' S.nodup S.all ?_)
 refine (bh (fd:=⟨2,9,b_size_of_diagram⟩) rfl rfl).trans ?_
 have hl:=nu S.nodup S.lt
 have g0:∀ x y:AO,(σ.heap++[x,y])[σ.heap.length]?=some x:=fun x y=>Be
 have kd:dJ (.int 0) (eY seen')=true:=by
  unfold dJ
  simp only [eY,List.all_map,List.all_eq_true]
  intro e _; rfl
 have ln:(eY seen').length=seen'.length:=by simp [eY]
 have s1:eY [r]=[(iD r,.bool true)]:=rfl
 simp only [zS,zT,zB,zIn,s1,List.map_cons,List.map_nil] at loop
 simp only [b_size_of_diagram,aq,am,av,eI,aO,c7,af,br,bg,lU,ai,ag,ae,aE,aP,aW,aL,bZ,ie,aR,bG,cT,iU,BT,cn,bf,cj,AS.setLoc,az,AS.freezeAll,AS.alloc,List.getElem?_cons_zero,List.getElem?_cons_succ,List.set_cons_zero,List.set_cons_succ,List.length_cons,List.length_nil,List.map_cons,List.map_nil,List.cons_append,List.nil_append,List.replicate,Nat.reduceAdd,Nat.reduceSub,if_true,dz,List.append_assoc,List.length_append,loop,g0,kd,ln,(show seen'.length≤2000000 by exact Bi ‹_› ‹_› rfl),decide_true,Bool.and_self,di hc]
end
theorem fz {α:Type} {enc:α→PyData} {f:α→List PyData} {S:List (Option AV)→Prop} {turn:PyData→List PyData→AS→Option (List PyData×AS)} {out:List (Option AV)} {H:List AO}:
  ∀ {xs:List α} {acc:List PyData} {loc:List (Option AV)},
  (∀ x∈xs,∀ acc loc,S loc→acc.length + (f x).length≤100000→∃ loc',S loc'∧turn (enc x) acc ⟨loc,out,H⟩=some (acc++f x,⟨loc',out,H⟩))→
  S loc→acc.length + (xs.flatMap f).length≤100000→
  ∃ loc',S loc'∧compItems turn (xs.map enc) acc ⟨loc,out,H⟩=some (acc++xs.flatMap f,⟨loc',out,H⟩)
 | [],acc,loc,_,hS,_=>(m1a2 loc hS (by simp [compItems]))
 | x :: xs,acc,loc,h,hS,hl=>by
  simp only [List.flatMap_cons,List.length_append] at hl
  refine bc fun hn=>?_
  refine aB (h x (.head _) acc loc hS (by lia)) fun l1 s1 e1=>?_
  refine aB (fz (S:=S) (turn:=turn) (out:=out) (H:=H) (xs:=xs) (acc:=acc++f x) (loc:=l1) (fun y m=>h y (.tail _ m)) s1 (by rw [List.length_append]; lia)) fun l2 s2 e2=>?_
  refine hn ?_
  refine (m1a2 l2 s2 ?_)
  simp only [List.map_cons,compItems,e1,e2,List.flatMap_cons,List.append_assoc]
theorem tI {α β:Type} {g:α→β}:∀ {xs:List α},xs.flatMap (fun x=>[g x])=xs.map g
 | []=>rfl
 | x :: xs=>by simp only [List.flatMap_cons,List.map_cons,tI (xs:=xs)]; rfl
theorem nM {α:Type} {enc:α→PyData} {g:α→PyData} {S:List (Option AV)→Prop} {turn:PyData→List PyData→AS→Option (List PyData×AS)} {out:List (Option AV)} {H:List AO} {xs:List α} {acc:List PyData} {loc:List (Option AV)}
  (h:∀ x∈xs,∀ acc loc,S loc→acc.length < 1000000→∃ loc',S loc'∧turn (enc x) acc ⟨loc,out,H⟩=some (acc++[g x],⟨loc',out,H⟩))
  (hS:S loc) (hl:acc.length + xs.length≤100000):
  ∃ loc',S loc'∧compItems turn (xs.map enc) acc ⟨loc,out,H⟩=some (acc++xs.map g,⟨loc',out,H⟩):=by
 refine aB (fz (f:=fun x=>[g x]) (S:=S) (turn:=turn) (out:=out) (H:=H) (xs:=xs) (acc:=acc) (loc:=loc) (fun x m acc loc hS ha=>h x m acc loc hS (by simp at ha; exact og ‹_› rfl)) hS (by rw [tI,List.length_map]; exact hl)) fun l s e=>?_
 exact (m1a2 l s (by rw [e,tI]))
theorem qx:∀ (n k:Nat),iz 1 n (k:Int)=(List.range' k n).map iD
 | 0,_=>rfl
 | n + 1,k=>by
  simp only [iz,List.range'_succ,List.map_cons]
  have:=qx n (k + 1)
  rw [show ((k:Int) + 1)=((k + 1:Nat):Int) by exact rfl,this]
theorem qt {n:Nat} (h:n≤100000):gX [.int (n:Int)]=some ((List.range n).map iD):=by
 unfold gX
 simp only
 refine (if_pos (by unfold cB; lia)).trans ?_
 have:=qx n 0
 rw [Int.toNat_natCast,List.range_eq_range']
 exact congrArg some this
theorem eZ {n:Nat} (h:n≤1000):gX [.int ((n:Int) + 1)]=some ((List.range (n + 1)).map iD):=by
 have:=qt (n:=n + 1) (by exact tX ‹_› rfl)
 rw [← this]; rfl
noncomputable def cellD (c:List Nat):PyData:=.tuple (c.map iD)
noncomputable def lp (a b c:Nat):List (List Nat):=(List.range (a + 1)).flatMap fun i=>(List.range (b + 1)).flatMap fun j=>(List.range (c + 1)).map fun k=>[i,j,k]
section
variable {W n b:Nat} {σ:AS}
theorem gJ {α β:Type} {f:α→List β} {m:Nat}:∀ {xs:List α},(∀ x∈xs,(f x).length≤m)→(xs.flatMap f).length≤xs.length * m
 | [],_=>by simp
 | x :: xs,h=>by
  have h1:=h x (.head _)
  have h2:=gJ (xs:=xs) (f:=f) (m:=m) fun y q=>h y (.tail _ q)
  simp only [List.flatMap_cons,List.length_append,List.length_cons,Nat.succ_mul]; lia
theorem sH {be ba aX:Nat} (h0:be≤4) (h1:ba≤4) (h2:aX≤4):callF prog W (n + 40) 20 [.d (topsD [be,ba,aX])] σ=some (.d (.list ((lp be ba aX).map cellD)),σ):=by
 refine (bh (fd:=⟨1,2,b_lcells⟩) rfl rfl).trans ?_
 have inner:∀ (i j:Nat) (acc:List PyData) (loc:List (Option AV)) (out:List (Option AV)) (H:List AO) (m:Nat),(∃ l0 l3 l4 l5,loc=[l0,some (.d (iD i)),some (.d (iD j)),l3,l4,l5])→acc.length + (aX + 1)≤100000→
   ∃ loc',(∃ l0 l3 l4 l5,loc'=[l0,some (.d (iD i)),some (.d (iD j)),l3,l4,l5])∧compItems (Dg.compTurn prog W (m + 12) (.tup [(.loc 1),(.loc 2),(.loc 4)]) (.loc 4) [] []) ((List.range (aX + 1)).map iD) acc ⟨loc,out,H⟩=some (acc++(List.range (aX + 1)).map (fun k=>cellD [i,j,k]),⟨loc',out,H⟩):=by
  intro i j acc loc out H m hS hl
  refine nM (enc:=iD) (g:=fun k=>cellD [i,j,k]) (S:=fun loc=>∃ l0 l3 l4 l5,loc=[l0,some (.d (iD i)),some (.d (iD j)),l3,l4,l5]) (fun k zz acc loc hS ha=>?_) hS (by simpa using hl)
  refine tY hS fun l0 l3 l4 l5 e_1=>?_; clear hS; subst e_1
  refine (m1a2 [l0,some (.d (iD i)),some (.d (iD j)),l3,some (.d (iD k)),l5] (uC _ _ _ _ rfl) ?_)
  simp only [bd,af,aG,bb,ai,ag,ae,aE,aP,bJ,aW,aL,aR,cU,bf,AS.setLoc,az,AS.freezeAll,List.getElem?_cons_zero,List.getElem?_cons_succ,List.set_cons_zero,List.set_cons_succ,List.map_cons,List.map_nil,if_true,cB,(show acc.length < 1000000 by assumption),cellD]
 have mid:∀ (i:Nat) (acc:List PyData) (loc:List (Option AV)) (out:List (Option AV)) (H:List AO) (m:Nat),out[0]?=some (some (.d (topsD [be,ba,aX])))→(∃ l0 l2 l3 l4 l5,loc=[l0,some (.d (iD i)),l2,l3,l4,l5])→acc.length + ((List.range (ba + 1)).flatMap (fun j=>(List.range (aX + 1)).map (fun k=>cellD [i,j,k]))).length≤100000→
   ∃ loc',(∃ l0 l2 l3 l4 l5,loc'=[l0,some (.d (iD i)),l2,l3,l4,l5])∧compItems (Dg.compTurn prog W (m + 13) (.tup [(.loc 1),(.loc 2),(.loc 4)]) (.loc 2) [] [((.loc 4),(1,[(.bin .add (.sub (.out 0) (.int 2)) (.int 1))]),[])]) ((List.range (ba + 1)).map iD) acc ⟨loc,out,H⟩=some (acc++(List.range (ba + 1)).flatMap (fun j=>(List.range (aX + 1)).map (fun k=>cellD [i,j,k])),⟨loc',out,H⟩):=by
  intro i acc loc out H m ho hS hl
  refine fz (enc:=iD) (f:=fun j=>(List.range (aX + 1)).map (fun k=>cellD [i,j,k])) (S:=fun loc=>∃ l0 l2 l3 l4 l5,loc=[l0,some (.d (iD i)),l2,l3,l4,l5]) (fun j zz acc loc hS ha=>?_) hS hl
  refine bc fun hn=>?_
  refine pg hS fun l0 l2 l3 l4 l5 e_2=>?_; clear hS; subst e_2
  refine aB (inner i j acc [l0,some (.d (iD i)),some (.d (iD j)),l3,l4,l5] out H m (uC _ _ _ _ rfl) (by simpa using ha)) fun loc' t_3 e=>?_; refine tY t_3 fun a0 a3 a4 a5 e_1=>?_; clear t_3; subst e_1
  refine hn ?_
  refine (m1a2 [a0,some (.d (iD i)),some (.d (iD j)),a3,a4,a5] (pB _ _ _ _ _ rfl) ?_)
  simp only [topsD,List.map_cons,List.map_nil] at ho
  simp only [bd,ay,bM,aQ,aD,bb,ai,ag,eg,ae,aE,aP,aW,aY,aL,gP,bZ,aR,cU,bf,cV,AS.setLoc,az,AS.freezeAll,List.getElem?_cons_zero,List.getElem?_cons_succ,List.set_cons_zero,List.set_cons_succ,ho,bz,it32,cg,eZ (show aX≤1000 by exact zb1 ‹_› rfl),e]
 have outer:∀ (out:List (Option AV)) (H:List AO) (m:Nat),out[0]?=some (some (.d (topsD [be,ba,aX])))→
   ∃ loc',compItems (Dg.compTurn prog W (m + 14) (.tup [(.loc 1),(.loc 2),(.loc 4)]) (.loc 1) [] [((.loc 2),(1,[(.bin .add (.sub (.out 0) (.int 1)) (.int 1))]),[]),((.loc 4),(1,[(.bin .add (.sub (.out 0) (.int 2)) (.int 1))]),[])]) ((List.range (be + 1)).map iD) [] ⟨List.replicate 6 none,out,H⟩=some ((List.range (be + 1)).flatMap (fun i=>(List.range (ba + 1)).flatMap (fun j=>(List.range (aX + 1)).map (fun k=>cellD [i,j,k]))),⟨loc',out,H⟩):=by
  intro out H m ho
  have l25:∀ i,((List.range (ba + 1)).flatMap (fun j=>(List.range (aX + 1)).map (fun k=>cellD [i,j,k]))).length≤25:=fun i=>by
   have:=gJ (f:=fun j=>(List.range (aX + 1)).map (fun k=>cellD [i,j,k])) (m:=5) (xs:=List.range (ba + 1)) (fun j zz=>by simp; assumption)
   simp only [List.length_range] at this
   lia
  refine aB (fz (enc:=iD) (f:=fun i=>(List.range (ba + 1)).flatMap (fun j=>(List.range (aX + 1)).map (fun k=>cellD [i,j,k]))) (S:=fun loc=>∃ l0 l1 l2 l3 l4 l5,loc=[l0,l1,l2,l3,l4,l5] ) (turn:=Dg.compTurn prog W (m + 14) (.tup [(.loc 1),(.loc 2),(.loc 4)]) (.loc 1) [] [((.loc 2),(1,[(.bin .add (.sub (.out 0) (.int 1)) (.int 1))]),[]),((.loc 4),(1,[(.bin .add (.sub (.out 0) (.int 2)) (.int 1))]),[])]) (out:=out) (H:=H) (xs:=List.range (be + 1)) (acc:=[]) (loc:=List.replicate 6 none) (fun i zz acc loc hS ha=>by
   refine bc fun hn=>?_
   refine vf hS fun l0 l1 l2 l3 l4 l5 e_4=>?_; clear hS; subst e_4
   refine aB (mid i acc [l0,some (.d (iD i)),l2,l3,l4,l5] out H m ho (pB _ _ _ _ _ rfl) ha) fun loc' t_5 e=>?_; refine pg t_5 fun a0 a2 a3 a4 a5 e_2=>?_; clear t_5; subst e_2
   refine hn ?_
   refine (m1a2 [a0,some (.d (iD i)),a2,a3,a4,a5] (pA _ _ _ _ _ _ rfl) ?_)
   simp only [topsD,List.map_cons,List.map_nil] at ho
   simp only [bd,ay,bM,aQ,aD,bb,ai,ag,eg,ae,aE,aP,aW,aY,aL,gP,bZ,aR,cU,bf,cV,AS.setLoc,az,AS.freezeAll,List.getElem?_cons_zero,List.getElem?_cons_succ,List.set_cons_zero,List.set_cons_succ,ho,bz,it31,cg,eZ (show ba≤1000 by exact zb1 ‹_› rfl),e]) (pA _ _ _ _ _ _ rfl) (by
    have:=gJ (f:=fun i=>(List.range (ba + 1)).flatMap (fun j=>(List.range (aX + 1)).map (fun k=>cellD [i,j,k]))) (m:=25) (xs:=List.range (be + 1)) (fun i zz=>l25 i)
    simp only [List.length_range] at this
    simp only [List.length_nil]; lia)) fun loc' zz e=>?_
  exact ⟨loc',e⟩
 have map_flat:(lp be ba aX).map cellD=(List.range (be + 1)).flatMap (fun i=>(List.range (ba + 1)).flatMap (fun j=>(List.range (aX + 1)).map (fun k=>cellD [i,j,k]))):=by
  simp only [lp,List.map_flatMap,List.map_map]
  rfl
 obtain ⟨loc',e⟩:=outer [some (.d (topsD [be,ba,aX])),none] σ.heap (n + 22) rfl
 rw [map_flat]
 simp only [List.replicate,topsD,List.map_cons,List.map_nil] at e
 simp only [b_lcells,aq,am,aO,ay,af,aQ,aD,bu,ai,ag,eg,aE,aP,aW,aY,gP,bZ,aR,cT,cn,cV,cj,az,AS.freezeAll,List.getElem?_cons_zero,List.map_cons,List.map_nil,List.cons_append,List.nil_append,List.replicate,Nat.reduceSub,bz,topsD,qR,cg,eZ (show be≤1000 by exact zb1 ‹_› rfl),e,cf]
end
section
variable {W n b:Nat} {σ:AS}
noncomputable def hS (sv:AV) (i:Nat) (l2 l3:Option AV) (H:List AO):AS:={ loc:=[some sv,some (.d (iD i)),l2,l3],out:=[],heap:=H }
theorem jP {sv:AV} {i:Nat} {H:List AO}:∀ {sp:List (Nat×Nat)} {l2 l3:Option AV},∃ u v,forItems (forTurn prog W (n + 12) (.tup [(.loc 2),(.loc 3)]) [.ite (.cmp2 .le .le (.loc 2) (.loc 1) (.loc 3)) [.ret (.bool true)] []]) (sp.map partD) (hS sv i l2 l3 H)=
  some (if holdsP sp i then .ret (.d (.bool true)) else .next,hS sv i u v H)
 | [],l2,l3=>(bV l2 l3 rfl)
 | p :: sp,l2,l3=>by
  by_cases e1:p.1≤i
  ·by_cases e2:i≤p.2
   ·refine (bV (some (.d (iD p.1))) (some (.d (iD p.2))) ?_)
    have:holdsP (p :: sp) i=true:=by simp [holdsP,e1,e2]
    simp only [List.map_cons,forItems,forTurn,hS,partD,aq,am,aK,aO,c7,af,jR,ae,aA,ax,au,aE,aV,aL,aR,cU,cT,y4,cn,bf,AS.setLoc,List.getElem?_cons_zero,List.getElem?_cons_succ,List.set_cons_zero,List.set_cons_succ,List.map_cons,if_true,qN (show (p.1:Int)≤i by exact xb ‹_›),qN (show (i:Int)≤p.2 by exact xb ‹_›),this]
   ·obtain ⟨u,v,e⟩:=jP (sp:=sp) (l2:=some (.d (iD p.1))) (l3:=some (.d (iD p.2)))
    refine (bV u v ?_)
    have:holdsP (p :: sp) i=holdsP sp i:=by simp [holdsP,e2]
    rw [this]
    simp only [hS] at e
    simp only [List.map_cons,forItems,forTurn,hS,partD,aq,am,aK,aO,c7,af,jR,ae,aA,ax,au,aE,aV,aL,aR,db,bG,cT,y4,cn,bf,AS.setLoc,List.getElem?_cons_zero,List.getElem?_cons_succ,List.set_cons_zero,List.set_cons_succ,List.map_cons,qN (show (p.1:Int)≤i by exact xb ‹_›),sg (show ¬ (i:Int)≤p.2 by exact Dh ‹_›)]
    exact e
  ·obtain ⟨u,v,e⟩:=jP (sp:=sp) (l2:=some (.d (iD p.1))) (l3:=some (.d (iD p.2)))
   refine (bV u v ?_)
   have:holdsP (p :: sp) i=holdsP sp i:=by simp [holdsP,e1]
   rw [this]
   simp only [hS] at e
   simp only [List.map_cons,forItems,forTurn,hS,partD,aq,am,aK,aO,c7,af,jR,ae,aA,ax,au,aE,aL,aR,db,bG,cT,C3,cn,bf,AS.setLoc,List.getElem?_cons_zero,List.getElem?_cons_succ,List.set_cons_zero,List.set_cons_succ,List.map_cons,sg (show ¬ (p.1:Int)≤i by exact Dh ‹_›)]
   exact e
theorem hV {sp:List (Nat×Nat)} {i:Nat}:callF prog W (n + 20) 18 [.d (.list (sp.map partD)),.d (iD i)] σ=some (.d (.bool (holdsP sp i)),σ):=by
 refine (bh (fd:=⟨2,4,b_lholds⟩) rfl rfl).trans ?_
 refine cG (jP (W:=W) (n:=n + 5) (sv:=.d (.list (sp.map partD))) (i:=i) (H:=σ.heap) (sp:=sp) (l2:=none) (l3:=none)) fun u v e=>?_
 simp only [hS] at e
 induction q:holdsP sp i using Bool.casesOn with
 | true=>
  rw [q] at e
  simp only [if_true] at e
  simp only [b_lholds,aq,am,bm,aO,c7,af,bq,aE,aW,aR,cT,ef,cn,cj,az,List.getElem?_cons_zero,List.map_cons,List.map_nil,List.cons_append,List.nil_append,List.replicate,Nat.reduceSub,e,cf]
 | false=>
  rw [q] at e
  simp only [Bool.false_eq_true,if_false] at e
  simp only [b_lholds,aq,am,bm,aO,c7,af,bq,aE,aW,aR,bG,cT,ef,cn,cj,az,List.getElem?_cons_zero,List.map_cons,List.map_nil,List.cons_append,List.nil_append,List.replicate,Nat.reduceSub,e,cf]
noncomputable def f4 (ts:List (Nat×List (Nat×Nat))) (vals:List Nat):Bool:=ts.all fun t=>holdsP t.2 ((vals[t.1]?).getD 0)
noncomputable def saidV (vals:List Nat):List cF→PyData→PyData
 | [],e=>e
 | r :: rs,e=>if f4 r.1 vals then r.2 else saidV vals rs e
theorem uM {vals:List Nat} {k:Nat} {ts:List (Nat×List (Nat×Nat))} {out:List (Option AV)} {H:List AO} (hk:H[k]?=some (.list (vals.map iD))) (ho:out[2]?=some (some (.o k))) (hv:vals.length≤100) (ht:∀ t∈ts,t.1 < vals.length) (hl:ts.length≤100):
  ∃ loc',compItems (Dg.compTurn prog W (n + 30) (.int 1) (.tup [(.loc 1),(.loc 2)]) [.not (.call 18 [(.loc 2),(.sub (.out 2) (.loc 1))])] []) (ts.map testD) [] ⟨List.replicate 5 none,out,H⟩=
   some ((ts.filter fun t=>!holdsP t.2 ((vals[t.1]?).getD 0)).map (fun zz=>PyData.int 1),⟨loc',out,H⟩):=by
 refine aB (fz (enc:=testD) (f:=fun t=>if holdsP t.2 ((vals[t.1]?).getD 0) then [] else [PyData.int 1]) (S:=fun loc=>∃ a b c d e,loc=[a,b,c,d,e]) (turn:=Dg.compTurn prog W (n + 30) (.int 1) (.tup [(.loc 1),(.loc 2)]) [.not (.call 18 [(.loc 2),(.sub (.out 2) (.loc 1))])] []) (out:=out) (H:=H) (xs:=ts) (acc:=[]) (loc:=List.replicate 5 none) (fun t m acc loc hS ha=>by
  refine pg hS fun a b c d e e_1=>?_; clear hS; subst e_1
  have hlt:=ht t m
  have i1:itemAt (vals.map iD) (t.1:Int)=some (iD ((vals[t.1]?).getD 0)):=dy (by simp [List.getElem?_eq_getElem hlt]) (by simp; exact zb1 ‹_› rfl)
  refine (m1a2 [a,some (.d (iD t.1)),some (.d (.list (t.2.map partD))),d,e] (pB _ _ _ _ _ rfl) ?_)
  have ha':acc.length < 1000000:=by exact xa ‹_› rfl
  induction q:holdsP t.2 ((vals[t.1]?).getD 0) using Bool.casesOn with
  | true=>simp only [bd,testD,ay,af,bM,aM,aD,fH,ff,bb,cI,ai,ag,ae,aA,ax,au,aE,aP,bJ,rj,aV,aY,aL,bZ,aR,db,ri,bf,AS.setLoc,az,List.getElem?_cons_zero,List.getElem?_cons_succ,List.set_cons_zero,List.set_cons_succ,if_true,cB,ho,hk,eO,jK,i1,hV,q,vz,Bool.not_true,List.append_nil]
  | false=>simp only [bd,testD,ay,af,bM,aM,aD,fH,ff,bb,cI,ai,ag,ae,aA,ax,au,aE,aP,bJ,rj,aV,aY,aL,bZ,aR,cU,kI,bf,AS.setLoc,az,List.getElem?_cons_zero,List.getElem?_cons_succ,List.set_cons_zero,List.set_cons_succ,if_true,reduceIte,cB,ho,hk,eO,jK,i1,hV,q,vz,Bool.not_false,ha',Bool.false_eq_true]) (pB _ _ _ _ _ rfl) (by
   have:=gJ (f:=fun t:Nat×List (Nat×Nat)=>if holdsP t.2 ((vals[t.1]?).getD 0) then [] else [PyData.int 1]) (m:=1) (xs:=ts) (fun t zz=>by split <;> simp)
   simp only [List.length_nil]; lia)) fun loc' zz e=>?_
 refine ⟨loc',e.trans ?_⟩
 congr 2
 simp only [List.nil_append]
 clear e ht hl
 induction ts with
 | nil=>rfl
 | cons t ts ih=>
  simp only [List.flatMap_cons,ih]
  induction q:holdsP t.2 ((vals[t.1]?).getD 0) using Bool.casesOn with
  | true=>rw [List.filter_cons_of_neg (by simp [q])]; simp []
  | false=>rw [List.filter_cons_of_pos (by simp [q])]; simp []
theorem pL {ts:List (Nat×List (Nat×Nat))} {vals:List Nat}:f4 ts vals=decide ((ts.filter fun t=>!holdsP t.2 ((vals[t.1]?).getD 0)).map (fun zz=>PyData.int 1)=[]):=by
 unfold f4
 induction ts with
 | nil=>simp
 | cons t ts ih=>
  induction q:holdsP t.2 ((vals[t.1]?).getD 0) using Bool.casesOn with
  | true=>rw [List.filter_cons_of_neg (by simp [q])]; simp only [List.all_cons,q,Bool.true_and]; exact ih
  | false=>rw [List.filter_cons_of_pos (by simp [q])]; simp [q]
noncomputable def saS (rv ev:PyData) (k:Nat) (l3 l4:Option AV) (H:List AO):AS:={ loc:=[some (.d rv),some (.d ev),some (.o k),l3,l4],out:=[],heap:=H }
noncomputable def saB:List S:=[.ite (.cmp .eq (.comp 5 (.int 1) [((.tup [(.loc 1),(.loc 2)]),(0,[(.loc 3)]),[(.not (.call 18 [(.loc 2),(.sub (.out 2) (.loc 1))]))])]) (.list []))
    [.ret (.loc 4)]
    []]
theorem qM {σ:AS} {xs:List PyData} {k:Nat} (hx:g7 xs=true) (hd:PyData.depthAll xs≤10) (hk:σ.heap[k]?=some (.list [])):cmpV σ .eq (.d (.list xs)) (.o k)=some (decide (xs=[])):=by
 have h1:Ok 11 (.list xs):=⟨hx,by simp only [PyData.depth]; exact yB ‹_›⟩
 have h2:Ok 11 (.list []):=⟨rfl,by decide⟩
 have:cmpV σ .eq (.d (.list xs)) (.o k)=cmpV σ .eq (.d (.list xs)) (.d (.list [])):=by
  show (match σ.look (.d (.list xs)),σ.look (.o k) with | some x,some y=>if ez x && ez y then some (PyData.eqv x y) else none | _,_=>none)=_
  rw [show σ.look (.o k)=some (.list []) by show (match σ.heap[k]? with | some (.list xs)=>some (PyData.list xs) | _=>none)=_; rw [hk]]; rfl
 rw [this,iR h1.eq h2.eq]
 simp
theorem uj {rv ev:PyData} {k:Nat} {l3 l4:Option AV} {H:List AO} {vals:List Nat} {r:cF} (hk:H[k]?=some (.list (vals.map iD))) (hv:vals.length≤100) (ht:∀ t∈r.1,t.1 < vals.length) (hl:r.1.length≤100):
  forTurn prog W (n + 40) (.tup [(.loc 3),(.loc 4)]) saB (ruleD r) (saS rv ev k l3 l4 H)=
   some (if f4 r.1 vals then .ret (.d r.2) else .next,saS rv ev k (some (.d (.list (r.1.map testD)))) (some (.d r.2)) (H++[.list []])):=by
 obtain ⟨loc',e⟩:=uM (W:=W) (n:=n + 6) (out:=[some (.d rv),some (.d ev),some (.o k),some (.d (.list (r.1.map testD))),some (.d r.2)]) hk rfl hv ht hl
 have c:=pL (ts:=r.1) (vals:=vals)
 have o1:∀ (ts:List (Nat×List (Nat×Nat))),g7 (ts.map fun zz=>PyData.int 1)=true:=fun ts=>gG fun x m=>by refine aB (List.mem_map.mp m) fun zz zz e_2=>?_; subst e_2; rfl
 have o2:∀ (ts:List (Nat×List (Nat×Nat))),PyData.depthAll (ts.map fun zz=>PyData.int 1)≤10:=fun ts=>eJ fun x m=>by refine aB (List.mem_map.mp m) fun zz zz e_3=>?_; subst e_3; exact Nat.zero_le _
 have lk:=fun loc=>qM (σ:={ loc:=loc,out:=[],heap:=H++[.list []] }) (k:=H.length) (o1 (r.1.filter fun t=>!holdsP t.2 ((vals[t.1]?).getD 0))) (o2 _) eS
 rw [← c] at lk
 simp only [List.replicate] at e
 induction q:f4 r.1 vals using Bool.casesOn with
 | true=>
  rw [q] at lk
  simp only [forTurn,saB,saS,ruleD,aq,am,aK,aO,af,bg,bu,aC,ai,bq,ae,aA,ax,au,aE,aP,aW,aV,aL,aR,cU,cT,ef,cn,bf,AS.setLoc,az,AS.freezeAll,AS.alloc,List.getElem?_cons_zero,List.getElem?_cons_succ,List.set_cons_zero,List.set_cons_succ,List.replicate,if_true,e,lk]
 | false=>
  rw [q] at lk
  simp only [forTurn,saB,saS,ruleD,aq,am,aK,aO,af,bg,bu,aC,ai,bq,ae,aA,ax,au,aE,aP,aW,aV,aL,aR,db,bG,ef,bf,AS.setLoc,az,AS.freezeAll,AS.alloc,List.getElem?_cons_zero,List.getElem?_cons_succ,List.set_cons_zero,List.set_cons_succ,List.replicate,reduceIte,e,lk,Bool.false_eq_true]
theorem oz {rv ev:PyData} {k:Nat} {vals:List Nat} (hv:vals.length≤100):∀ {rs:List cF} {l3 l4:Option AV} {H:List AO},H[k]?=some (.list (vals.map iD))→(∀ r∈rs,r.1.length≤100∧∀ t∈r.1,t.1 < vals.length)→
  ∃ fl u v T,forItems (forTurn prog W (n + 40) (.tup [(.loc 3),(.loc 4)]) saB) (rs.map ruleD) (saS rv ev k l3 l4 H)=some (fl,saS rv ev k u v (H++T))∧((fl=.next∧saidV vals rs ev=ev)∨fl=.ret (.d (saidV vals rs ev)))
 | [],l3,l4,H,_,_=>(qK .next l3 l4 [] (by simp [forItems]) (.inl ⟨rfl,rfl⟩))
 | r :: rs,l3,l4,H,hk,hr=>by
  have tr:=uj (W:=W) (n:=n) (rv:=rv) (ev:=ev) (l3:=l3) (l4:=l4) hk hv (hr r (.head _)).2 (hr r (.head _)).1
  induction q:f4 r.1 vals using Bool.casesOn with
  | true=>
   rw [q] at tr
   exact (qK (.ret (.d r.2)) (some (.d (.list (r.1.map testD)))) (some (.d r.2)) [.list []] (by simp only [List.map_cons,forItems,tr,if_true]) (.inr (by simp only [saidV,q,if_true])))
  | false=>
   rw [q] at tr
   obtain ⟨fl,u,v,T,e,h⟩:=oz hv (rs:=rs) (l3:=some (.d (.list (r.1.map testD)))) (l4:=some (.d r.2)) (H:=H++[.list []]) (kA hk) (fun q m=>hr q (.tail _ m))
   refine (qK fl u v (.list [] :: T) ?_ (by simpa only [saidV,q,Bool.false_eq_true,if_false] using h))
   simp only [List.map_cons,forItems,tr,Bool.false_eq_true,if_false]
   rw [e,List.append_assoc]; rfl
theorem uk {rs:List cF} {ev:PyData} {k:Nat} {vals:List Nat} (hc:aI σ.heap=true) (hk:σ.heap[k]?=some (.list (vals.map iD))) (hv:vals.length≤100) (hr:∀ r∈rs,r.1.length≤100∧∀ t∈r.1,t.1 < vals.length):
  callF prog W (n + 60) 19 [.d (.list (rs.map ruleD)),.d ev,.o k] σ=some (.d (saidV vals rs ev),σ):=by
 refine (bh (fd:=⟨3,5,b_lsaid⟩) rfl rfl).trans ?_
 refine vg (oz (W:=W) (n:=n + 17) (rv:=.list (rs.map ruleD)) (ev:=ev) hv (rs:=rs) (l3:=none) (l4:=none) hk hr) fun fl u v T e h=>?_
 simp only [saS,saB] at e
 rcases h with ⟨rfl,h⟩ | rfl
 ·simp only [b_lsaid,aq,am,bm,aO,af,bq,aE,aW,aR,bG,cT,ef,cn,cj,az,List.getElem?_cons_zero,List.getElem?_cons_succ,List.map_cons,List.map_nil,List.cons_append,List.nil_append,List.replicate,Nat.reduceSub,e,h,di hc]
 ·simp only [b_lsaid,aq,am,bm,aO,af,bq,aE,aW,aR,cT,ef,cj,az,List.getElem?_cons_zero,List.map_cons,List.map_nil,List.cons_append,List.nil_append,List.replicate,Nat.reduceSub,e,di hc]
end
noncomputable def fget (fx:Option (Nat×Nat)) (s d:Nat):Nat:=match fx with
 | some (v,x)=>if v=s then x else d
 | none=>d
noncomputable def fxD:Option (Nat×Nat)→List (PyData×PyData)
 | some (v,x)=>[(iD v,iD x)]
 | none=>[]
theorem AW (fx:Option (Nat×Nat)) (s:Nat):dj (iD s) (fxD fx)=true:=by
 unfold dj
 rw [(Kk.int (k:=0) (i:=(s:Int))).key]
 induction fx using Option.casesOn with
 | none=>rfl
 | some p=>rfl
theorem x9 (fx:Option (Nat×Nat)) (s d:Nat):(findKey (iD s) (fxD fx)).getD (iD d)=iD (fget fx s d):=by
 induction fx using Option.casesOn with
 | none=>rfl
 | some p=>
  obtain ⟨v,x⟩:=p
  unfold findKey fget
  simp only [fxD,List.find?_cons,List.find?_nil]
  rw [iO (Ok.int (k:=0)).1 (Ok.int (k:=0)).1]
  by_cases e:v=s
  ·subst e; simp
  ·have:¬ (PyData.int (v:Int)=PyData.int (s:Int)):=by simp; exact uZ ‹_›
   simp only [this,decide_false,e,if_false]; rfl
theorem zD {s:Nat} (h:s < 3):eP 3 (s:Int)=some s:=by
 exact n3 h rfl rfl rfl
noncomputable def vals3 (fx:Option (Nat×Nat)) (aw ac ao bj bx bH:Nat):List Nat:=(([0,0,0].set aw (fget fx aw bj)).set ac (fget fx ac bx)).set ao (fget fx ao bH)
theorem pt:gX [.int 3]=some [.int 0,.int 1,.int 2]:=rfl
theorem yT {K T:List AO} {x:AO}:(K++(x :: T))[K.length]?=some x:=by refine (List.getElem?_append_right (by exact Nat.le_refl _)).trans ?_; simp
theorem zy {K T:List AO} {x z:AO}:(K++(x :: T)).set K.length z=K++(z :: T):=by refine (List.set_append_right _ _ (by exact Nat.le_refl _)).trans ?_; simp
section
variable {W n b:Nat} {σ:AS}
noncomputable def taS (rv ev sv cv:PyData) (k4 j5:Nat) (l6 l7 l8:Option AV) (H:List AO):AS:=
 { loc:=[some (.d rv),some (.d ev),some (.d sv),some (.d cv),some (.o k4),some (.o j5),l6,l7,l8,none,none],out:=[],heap:=H }
noncomputable def Dm:List S:=[.setSub (.loc 7) (.sub (.loc 2) (.loc 8)) (.get (.loc 4) (.sub (.loc 2) (.loc 8)) (.sub (.loc 6) (.loc 8)))]
theorem vE {rv ev cv:PyData} {k4 j5:Nat} {l8:Option AV} {A:List AO} {fx:Option (Nat×Nat)} {seq cell:List Nat} {p:Int} {s c:Nat} {vals:List Nat} (hk:A[k4]?=some (.dict (fxD fx))) (hs:itemAt (seq.map iD) p=some (iD s)) (hc:itemAt (cell.map iD) p=some (iD c)) (h3:s < 3) (hv:vals.length=3):
  forTurn prog W (n + 20) (.loc 8) Dm (.int p) (taS rv ev (.tuple (seq.map iD)) cv k4 j5 (some (.d (cellD cell))) (some (.o A.length)) l8 (A++[.list (vals.map iD)]))=
   some (.next,taS rv ev (.tuple (seq.map iD)) cv k4 j5 (some (.d (cellD cell))) (some (.o A.length)) (some (.d (.int p))) (A++[.list ((vals.set s (fget fx s c)).map iD)])):=by
 have g:=kA (T:=[.list (vals.map iD)]) hk
 simp only [forTurn,Dm,taS,cellD,aq,am,bw,af,uO,aD,ae,aE,bJ,aY,aL,cM,bZ,ie,Et,aR,bG,bf,tS,AS.setLoc,az,AS.put,List.getElem?_cons_zero,List.getElem?_cons_succ,List.set_cons_zero,List.set_cons_succ,if_true,bz,hs,hc,g,AW,x9,eS,mZ,xF,List.length_map,hv,zD h3,gW,List.map_set]
noncomputable def taB:List S:=[.assign (.loc 7) (.list [(.int 0),(.int 0),(.int 0)]),
   .for (.loc 8) (1,[(.int 3)]) Dm,
   .expr (.append (.loc 5) (.call 19 [(.loc 0),(.loc 1),(.loc 7)]))]
theorem xi {rs:List cF} {ev cv:PyData} {k4:Nat} {l6 l7 l8:Option AV} {K T:List AO} {fx:Option (Nat×Nat)} {aw ac ao bj bx bH:Nat} {tab:List PyData} (hc:aI K=true) (hT:∀ o∈T,plainO o=true) (hk:K[k4]?=some (.dict (fxD fx))) (h0:aw < 3) (h1:ac < 3) (h2:ao < 3)
  (hr:∀ r∈rs,r.1.length≤100∧∀ t∈r.1,t.1 < 3) (hl:tab.length≤1000):
  ∃ m7 m8 v,forTurn prog W (n + 80) (.loc 6) taB (cellD [bj,bx,bH]) (taS (.list (rs.map ruleD)) ev (.tuple ([aw,ac,ao].map iD)) cv k4 K.length l6 l7 l8 (K++(.list tab :: T)))=
   some (.next,taS (.list (rs.map ruleD)) ev (.tuple ([aw,ac,ao].map iD)) cv k4 K.length (some (.d (cellD [bj,bx,bH]))) m7 m8 (K++(.list (tab++[saidV (vals3 fx aw ac ao bj bx bH) rs ev]) :: (T++[.list v])))):=by
 have hkA:(K++(.list tab :: T))[k4]?=some (.dict (fxD fx)):=kA hk
 have a0:=vE (W:=W) (n:=n + 57) (rv:=.list (rs.map ruleD)) (ev:=ev) (cv:=cv) (j5:=K.length) (l8:=l8) (A:=K++(.list tab :: T)) (seq:=[aw,ac,ao]) (cell:=[bj,bx,bH]) (p:=0) (s:=aw) (c:=bj) (vals:=[0,0,0]) hkA qR qR h0 rfl
 have a1:=vE (W:=W) (n:=n + 57) (rv:=.list (rs.map ruleD)) (ev:=ev) (cv:=cv) (j5:=K.length) (l8:=some (.d (.int 0))) (A:=K++(.list tab :: T)) (seq:=[aw,ac,ao]) (cell:=[bj,bx,bH]) (p:=1) (s:=ac) (c:=bx) (vals:=[0,0,0].set aw (fget fx aw bj)) hkA it31 it31 h1 (by simp)
 have a2:=vE (W:=W) (n:=n + 57) (rv:=.list (rs.map ruleD)) (ev:=ev) (cv:=cv) (j5:=K.length) (l8:=some (.d (.int 1))) (A:=K++(.list tab :: T)) (seq:=[aw,ac,ao]) (cell:=[bj,bx,bH]) (p:=2) (s:=ao) (c:=bH) (vals:=([0,0,0].set aw (fget fx aw bj)).set ac (fget fx ac bx)) hkA it32 it32 h2 (by simp)
 have hcl:aI (K++(.list tab :: (T++[.list ((vals3 fx aw ac ao bj bx bH).map iD)])))=true:=c8 hc (fun o m=>by
  rcases List.mem_cons.mp m with rfl | m
  ·rfl
  ·rcases List.mem_append.mp m with m | m
   ·exact hT o m
   ·simp at m; subst m; rfl)
 have sd:=fun (loc:List (Option AV)) (j:Nat)=>uk (W:=W) (n:=j) (σ:={ loc:=loc,out:=[],heap:=K++(.list tab :: (T++[.list ((vals3 fx aw ac ao bj bx bH).map iD)])) }) (rs:=rs) (ev:=ev) (k:=K.length + (T.length + 1)) (vals:=vals3 fx aw ac ao bj bx bH) hcl (by
  refine (List.getElem?_append_right (by exact rF)).trans ?_; simp) (by simp [vals3]) (fun r m=>⟨(hr r m).1,fun t mt=>by simp [vals3]; exact (hr r m).2 t mt⟩)
 have z:List.map iD [0,0,0]=[.int 0,.int 0,.int 0]:=rfl
 refine (pC (some (.o (K.length + (T.length + 1)))) (some (.d (.int 2))) ((vals3 fx aw ac ao bj bx bH).map iD) ?_)
 simp only [taS,z,List.append_assoc,List.cons_append,List.length_append,List.length_cons] at a0 a1 a2
 have vv:(([0,0,0].set aw (fget fx aw bj)).set ac (fget fx ac bx)).set ao (fget fx ao bH)=vals3 fx aw ac ao bj bx bH:=rfl
 rw [vv] at a2
 have tl:tab.length < 1000000:=by exact og ‹_› rfl
 simp only [List.map_cons,List.map_nil] at a0 a1 a2
 unfold forTurn
 simp only [taB,taS,aq,am,av,aS,bm,ay,af,aM,aH,bg,ai,ag,eg,ae,aE,aP,bJ,aW,aL,gP,cM,dW,aR,bG,bf,AS.setLoc,az,AS.freezeAll,AS.put,AS.alloc,List.getElem?_cons_zero,List.getElem?_cons_succ,List.set_cons_zero,List.set_cons_succ,List.length_cons,List.map_cons,List.map_nil,List.cons_append,if_true,cB,pt,forItems,List.append_assoc,List.length_append,a0,a1,a2,yT,sd,tl,zy]
theorem s6 {rs:List cF} {ev cv:PyData} {k4:Nat} {K:List AO} {fx:Option (Nat×Nat)} {aw ac ao:Nat} (hc:aI K=true) (hk:K[k4]?=some (.dict (fxD fx))) (h0:aw < 3) (h1:ac < 3) (h2:ao < 3)
  (hr:∀ r∈rs,r.1.length≤100∧∀ t∈r.1,t.1 < 3) (F:List Nat→PyData) (hF:∀ a b c,F [a,b,c]=saidV (vals3 fx aw ac ao a b c) rs ev):∀ {cells:List (List Nat)} {tab:List PyData} {l6 l7 l8:Option AV} {T:List AO},(∀ c∈cells,∃ x y z,c=[x,y,z])→(∀ o∈T,plainO o=true)→tab.length + cells.length≤1000→
  ∃ m6 m7 m8 T',forItems (forTurn prog W (n + 80) (.loc 6) taB) (cells.map cellD) (taS (.list (rs.map ruleD)) ev (.tuple ([aw,ac,ao].map iD)) cv k4 K.length l6 l7 l8 (K++(.list tab :: T)))=
   some (.next,taS (.list (rs.map ruleD)) ev (.tuple ([aw,ac,ao].map iD)) cv k4 K.length m6 m7 m8 (K++(.list (tab++cells.map F) :: T')))
 | [],tab,l6,l7,l8,T,_,_,_=>⟨l6,l7,l8,T,by simp [forItems]⟩
 | c :: cells,tab,l6,l7,l8,T,hcs,hT,hl=>by
  obtain ⟨x,y,z,rfl⟩:=hcs c (.head _)
  simp only [List.length_cons] at hl
  obtain ⟨m7,m8,v,e⟩:=xi (W:=W) (n:=n) (rs:=rs) (ev:=ev) (cv:=cv) (l6:=l6) (l7:=l7) (l8:=l8) (bj:=x) (bx:=y) (bH:=z) (tab:=tab) hc hT hk h0 h1 h2 hr (by exact lC ‹_›)
  obtain ⟨p6,p7,p8,T',e2⟩:=s6 hc hk h0 h1 h2 hr F hF (cells:=cells) (tab:=tab++[saidV (vals3 fx aw ac ao x y z) rs ev]) (l6:=some (.d (cellD [x,y,z]))) (l7:=m7) (l8:=m8) (T:=T++[.list v]) (fun c m=>hcs c (.tail _ m)) (fun o m=>by
   rcases List.mem_append.mp m with m | m
   ·exact hT o m
   ·simp at m; subst m; rfl) (by simp; exact yE ‹_›)
  refine ⟨p6,p7,p8,T',?_⟩
  simp only [List.map_cons (f:=cellD),forItems,e]
  refine (e2).trans ?_
  simp [hF]
theorem rQ {rs:List cF} {ev:PyData} {k4:Nat} {fx:Option (Nat×Nat)} {aw ac ao:Nat} {cells:List (List Nat)} (hc:aI σ.heap=true) (hk:σ.heap[k4]?=some (.dict (fxD fx))) (h0:aw < 3) (h1:ac < 3) (h2:ao < 3)
  (hr:∀ r∈rs,r.1.length≤100∧∀ t∈r.1,t.1 < 3) (F:List Nat→PyData) (hF:∀ a b c,F [a,b,c]=saidV (vals3 fx aw ac ao a b c) rs ev) (hcs:∀ c∈cells,∃ x y z,c=[x,y,z]) (hl:cells.length≤1000):
  callF prog W (n + 90) 21 [.d (.list (rs.map ruleD)),.d ev,.d (.tuple [iD aw,iD ac,iD ao]),.d (.list (cells.map cellD)),.o k4] σ=some (.d (.list (cells.map F)),σ):=by
 refine (bh (fd:=⟨5,11,b_ltable⟩) rfl rfl).trans ?_
 refine tY (s6 (W:=W) (n:=n + 6) (cv:=.list (cells.map cellD)) (k4:=k4) (K:=σ.heap) hc hk h0 h1 h2 hr F hF (cells:=cells) (tab:=[]) (l6:=none) (l7:=none) (l8:=none) (T:=[]) hcs (by decide) (by simpa using hl)) fun m6 m7 m8 T' e=>?_
 simp only [taS,taB,Dm,List.map_cons (f:=iD),List.map_nil (f:=iD),List.nil_append] at e
 simp only [b_ltable,aq,am,av,bm,aO,af,bg,ai,bq,ae,aE,aP,bJ,aW,aL,dW,aR,bG,cT,ef,nR,bf,cj,AS.setLoc,az,dN,AS.freezeAll,AS.put,AS.alloc,List.getElem?_cons_zero,List.getElem?_cons_succ,List.set_cons_zero,List.set_cons_succ,List.map_cons,List.map_nil,List.cons_append,List.nil_append,List.replicate,Nat.reduceSub,e,yT,zy,di hc]
end
noncomputable def cellsL:List Nat→List (List Nat)
 | []=>[[]]
 | t :: ts=>(List.range (t + 1)).flatMap fun i=>(cellsL ts).map (i :: ·)
noncomputable def yG:List Nat→Nat
 | []=>1
 | t :: ts=>(t + 1) * yG ts
theorem pe (a b c:Nat):lp a b c=cellsL [a,b,c]:=by
 simp only [lp,cellsL,List.map_cons,List.map_nil,tI,List.map_flatMap,List.map_map]
 rfl
theorem kB {α β:Type} {f:α→List β} {w:Nat}:∀ {xs:List α},(∀ x∈xs,(f x).length=w)→(xs.flatMap f).length=xs.length * w
 | [],_=>by simp
 | x :: xs,h=>by
  have h1:=h x (.head _)
  have h2:=kB (xs:=xs) (f:=f) (w:=w) fun y m=>h y (.tail _ m)
  simp only [List.flatMap_cons,List.length_append,List.length_cons,Nat.succ_mul,h1,h2]; lia
theorem fh:∀ ts:List Nat,(cellsL ts).length=yG ts
 | []=>rfl
 | t :: ts=>by
  have:=kB (f:=fun i=>(cellsL ts).map (i :: ·)) (w:=yG ts) (xs:=List.range (t + 1)) fun i zz=>by simp [fh ts]
  simp only [cellsL,this,List.length_range,yG]
theorem yX {α:Type} {w:Nat}:∀ {fs:List (List α)} {k:Nat},(∀ f∈fs,f.length=w)→(h:k < fs.length)→((fs.flatten).drop (w * k)).take w=fs[k]
 | f :: fs,0,hw,_=>by
  have:=hw f (.head _)
  simp only [Nat.mul_zero,List.drop_zero,List.flatten_cons,List.getElem_cons_zero]
  rw [← this]; simp
 | f :: fs,k + 1,hw,h=>by
  have h1:=hw f (.head _)
  have ih:=yX (fs:=fs) (k:=k) (fun g m=>hw g (.tail _ m)) (by simpa using h)
  simp only [List.flatten_cons,List.getElem_cons_succ]
  rw [← ih,Nat.mul_succ,Nat.add_comm,← List.drop_drop,← h1]
  simp
 | [],_,_,h=>by simp at h
theorem q9 {α:Type} {w m k:Nat} {f:Nat→List α} (hw:∀ i < m,(f i).length=w) (h:k < m):(((List.range m).flatMap f).drop (w * k)).take w=f k:=by
 have:=yX (fs:=(List.range m).map f) (k:=k) (w:=w) (fun g mg=>by
  refine aB (List.mem_map.mp mg) fun i mi e_1=>?_; subst e_1
  exact hw i (by simpa using mi)) (by simpa using h)
 rw [List.flatMap_def]
 simpa using this
section
variable {D:Dia} {n l i:Nat}
noncomputable def Dia.tab (D:Dia) (l:Nat) (ts:List Nat) (n:Nat):List PyData:=(cellsL ts).map (D.val l n)
theorem vD {t:Nat} {ts:List Nat}:D.tab l (t :: ts) n=(List.range (t + 1)).flatMap fun i=>D.tab (l + 1) ts (D.sub l n i):=by
 unfold Dia.tab
 simp only [cellsL,List.map_flatMap,List.map_map]
 rfl
theorem xh {ts:List Nat}:(D.tab l ts n).length=yG ts:=by unfold Dia.tab; simp [fh]
theorem gO:∀ {ts:List Nat} {l:Nat} {c:List Nat},(∀ j,j < ts.length→D.top (l + j)=(ts[j]?).getD 0)→l + ts.length=3→(D.Box l c ↔ c∈cellsL ts)
 | [],l,c,_,hl=>by
  simp only [List.length_nil] at hl
  induction c using List.casesOn with
  | nil=>simp [Dia.Box,cellsL]; assumption
  | cons i c=>
   simp only [Dia.Box,cellsL,List.mem_singleton]; constructor
   ·intro h; lia
   ·intro h; exact cN h
 | t :: ts,l,c,ht,hl=>by
  simp only [List.length_cons] at hl
  induction c using List.casesOn with
  | nil=>
   simp only [Dia.Box,cellsL,List.mem_flatMap,List.mem_map]
   constructor
   ·intro h; lia
   ·rintro ⟨i,_,c,_,h⟩; exact cN h
  | cons i c=>
   have ih:=gO (ts:=ts) (l:=l + 1) (c:=c) (fun j hj=>by
    have:=ht (j + 1) (by simp; assumption)
    rw [show l + 1 + j=l + (j + 1) by exact DQ,this]; rfl) (by exact sS ‹_›)
   have h0:=ht 0 (by simp)
   simp only [Nat.add_zero,List.getElem?_cons_zero,Option.getD_some] at h0
   simp only [Dia.Box,h0,ih,cellsL,List.mem_flatMap,List.mem_map,List.mem_range]
   constructor
   ·rintro ⟨_,h2,h3⟩; exact (m1a2 i (by exact zc3 ‹_›) (m1a2 c h3 rfl))
   ·rintro ⟨j,hj,c',hc',e⟩
    simp only [List.cons.injEq] at e
    obtain ⟨rfl,rfl⟩:=e
    exact (cw (by exact yD ‹_›) (by exact zh ‹_›) hc')
theorem jh (w:WF D) (hl:l≤3):(∀ j,j < (D.tops.drop l).length→D.top (l + j)=((D.tops.drop l)[j]?).getD 0)∧l + (D.tops.drop l).length=3:=by
 refine dB w.tops fun a b c e zz=>?_
 refine ⟨fun j zz=>by unfold Dia.top; rw [List.getElem?_drop],by rw [List.length_drop,e]; simp; exact Dc ‹_›⟩
theorem sZ (w:WF D) {m:Nat} (hl:l≤3) (hn:n < D.nodes.length) (hm:m < D.nodes.length) (ln:l≤D.lev n) (lm:l≤D.lev m) (h:D.tab l (D.tops.drop l) n=D.tab l (D.tops.drop l) m):n=m:=by
 obtain ⟨h1,h2⟩:=jh w hl
 refine yY w (3 - l) (by exact Dc ‹_›) hn hm ln lm fun c hc=>?_
 have hm:=(gO h1 h2).mp hc
 unfold Dia.tab at h
 exact List.map_inj_left.mp h c hm
theorem om (w:WF D) (hl:l < 3):D.tops.drop l=D.top l :: D.tops.drop (l + 1):=by
 refine dB w.tops fun a b c e zz=>?_
 unfold Dia.top; rw [e]
 exact n3 hl rfl rfl rfl
noncomputable def runAt:Nat→List (Nat×Nat)→Nat→Nat×Nat
 | lo,[],_=>(lo,lo)
 | lo,p :: ps,i=>if i≤p.1 then (lo,p.1) else runAt (p.1 + 1) ps i
theorem vV:∀ {ps:List (Nat×Nat)} {lo:Nat} {z:Int} {top i:Nat},z=lo - 1→aZ z ps→aN z ps=top→gR ps→lo≤i→i≤top→
  lo≤(runAt lo ps i).1∧(runAt lo ps i).1≤i∧i≤(runAt lo ps i).2∧(runAt lo ps i).2≤top∧(∀ j,(runAt lo ps i).1≤j→j≤(runAt lo ps i).2→aF ps j=aF ps i)∧
   ((runAt lo ps i).1=lo∨(lo < (runAt lo ps i).1∧aF ps ((runAt lo ps i).1 - 1)≠aF ps i))∧((runAt lo ps i).2=top∨aF ps ((runAt lo ps i).2 + 1)≠aF ps i)
 | [],lo,z,top,i,hz,hr,hl,ha,h1,h2=>by simp only [aN] at hl; lia
 | p :: ps,lo,z,top,i,hz,hr,hl,ha,h1,h2=>by
  have hp:=cz hr
  have hp1:=hr.1
  simp only [runAt]
  by_cases e:i≤p.1
  ·rw [if_pos e]
   refine (qL (Nat.le_refl _) h1 e (by simp only; lia) (fun j zz hj=>?_) (.inl rfl) ?_)
   ·simp only [aF]; rw [if_pos hj,if_pos e]
   ·simp only
    induction ps using List.casesOn with
    | nil=>left; simp only [aN] at hl; lia
    | cons q ps=>
     right
     have hq:=hr.2.1
     simp only [aF]
     rw [if_neg (by lia),if_pos (by exact Bm ‹_›),if_pos e]
     exact fun h=>ha.1 (Option.some.inj h).symm
  ·rw [if_neg e]
   have ha':gR ps:=by
    induction ps using List.casesOn with
    | nil=>trivial
    | cons _ _=>exact ha.2
   refine pV (vV (ps:=ps) (lo:=p.1 + 1) (z:=p.1) (top:=top) (i:=i) (by lia) hr.2 hl ha' (by exact Bk ‹_›) h2) fun k1 k2 k3 k4 k5 k6 k7=>?_
   have pi:aF (p :: ps) i=aF ps i:=by simp only [aF]; rw [if_neg e]
   refine (qL (by lia) k2 k3 k4 (fun j hj1 hj2=>?_) ?_ ?_)
   ·have:=k5 j hj1 hj2
    rw [pi,← this]; simp only [aF]; rw [if_neg (by lia)]
   ·right
    refine ⟨by lia,?_⟩
    rcases k6 with k6 | ⟨k6,k6'⟩
    ·rw [k6,pi]
     induction ps using List.casesOn with
     | nil=>simp only [aN] at hl; lia
     | cons q ps=>
      have e1:aF (q :: ps) i=some q.2:=by
       have:=k5 (p.1 + 1) (by exact Gk ‹_›) (by lia)
       rw [← this]; simp only [aF]
       have:=hr.2.1
       rw [if_pos (by exact Bm ‹_›)]
      rw [e1]; simp only [aF,Nat.add_sub_cancel]
      rw [if_pos (Nat.le_refl _)]
      exact fun h=>ha.1 (Option.some.inj h)
    ·rw [pi]; simp only [aF]
     rw [if_neg (by lia)]; exact k6'
   ·rcases k7 with k7 | k7
    ·exact .inl k7
    ·right; rw [pi]; simp only [aF]; rw [if_neg (by lia)]; exact k7
end
section
variable {W n b:Nat}
noncomputable def oh (tb:List PyData) (tv cv:PyData) (km:Nat) (path:fR) (p wd:Nat) (sl mine:List PyData) (lo hi:Nat) (H:List AO):AS:=
 { loc:=[some (.d (.list tb)),some (.d tv),some (.d cv),some (.o km),some (.d (dP path)),some (.d (iD p)),some (.d (iD wd)),some (.d (.list sl)),some (.d (.list mine)),some (.d (iD lo)),some (.d (iD hi)),none,none],out:=[],heap:=H }
structure Run (S:Nat→List PyData) (t i lo hi:Nat):Prop where
 lo_i:lo≤i
 i_hi:i≤hi
 hi_t:hi≤t
 same:∀ j,lo≤j→j≤hi→S j=S i
 left:lo=0∨S (lo - 1)≠S i
 right:hi=t∨S (hi + 1)≠S i
noncomputable abbrev gh (S:Nat→List PyData) (t:Nat):List PyData:=(List.range (t + 1)).map fun k=>.list (S k)
theorem j9 {S:Nat→List PyData} {t k:Nat} (h:k≤t) (ht:t≤10):itemAt (gh S t) (k:Int)=some (.list (S k)):=
 dy (by simp [gh,List.getElem?_range (show k < t + 1 by exact zc3 ‹_›)]) (by simp [gh]; exact zb1 ‹_› rfl)
theorem mK {σ:AS} {S:Nat→List PyData} (hv:∀ k,∀ x∈S k,Val x) {a c:Nat}:cmpV σ .eq (.d (.list (S a))) (.d (.list (S c)))=some (decide (S a=S c)):=by
 have h:∀ k,Ok 1 (.list (S k)):=fun k=>Ok.list fun x m=>Kk.ok (hv k x m)
 refine (iR (h a).eq (h c).eq).trans ?_
 simp
noncomputable def Bb:E:=.conj (.cmp .gt (.loc 9) (.int 0)) (.cmp .eq (.sub (.loc 7) (.bin .sub (.loc 9) (.int 1))) (.loc 8))
noncomputable def Ab:E:=.conj (.cmp .lt (.loc 10) (.sub (.loc 1) (.loc 5))) (.cmp .eq (.sub (.loc 7) (.bin .add (.loc 10) (.int 1))) (.loc 8))
theorem xQ {S:Nat→List PyData} {tb:List PyData} {tv cv:PyData} {km p wd t i lo hi h':Nat} {path:fR} {H:List AO} (hv:∀ k,∀ x∈S k,Val x) (R:Run S t i lo hi) (ht:t≤10):∀ (d k:Nat),lo + d≤i→
  whileIt (whTest prog W (n + 12) Bb) (whBody prog W (n + 12) [.augLoc 9 .sub (.int 1)]) (k + d + 1) (oh tb tv cv km path p wd (gh S t) (S i) (lo + d) h' H)=some (.next,oh tb tv cv km path p wd (gh S t) (S i) lo h' H):=by
 have hh:=R.i_hi
 have hht:=R.hi_t
 intro d
 induction d with
 | zero=>
  intro k hl
  refine eB ?_
  rcases R.left with e | e
  ·subst e
   rfl
  ·by_cases z:lo=0
   ·subst z
    rfl
   ·have i1:itemAt (gh S t) ((lo:Int) - 1)=some (.list (S (lo - 1))):=by
     rw [pw (show lo > 0 by exact Bu ‹_›)]; exact j9 (by lia) ht
    simp only [whTest,Bb,oh,ay,af,aQ,aD,aC,b8,aE,aV,aY,bZ,aR,kI,sI,List.getElem?_cons_zero,List.getElem?_cons_succ,Nat.add_zero,su (show ((lo:Int) > 0) by exact Gg ‹_›),mL,dp,i1,mK hv,e,decide_false]
 | succ d ih=>
  intro k hl
  have e1:k + (d + 1) + 1=(k + d + 1) + 1:=by exact rfl
  have i1:itemAt (gh S t) (((lo + (d + 1):Nat):Int) - 1)=some (.list (S (lo + d))):=by
   rw [pw (show lo + (d + 1) > 0 by lia)]
   exact j9 (k:=lo + (d + 1) - 1) (by lia) ht
  have e2:S (lo + d)=S i:=R.same _ (by exact rF) (by exact DD ‹_› ‹_›)
  rw [e1,ej (aa:=oh tb tv cv km path p wd (gh S t) (S i) (lo + (d + 1)) h' H) (ah:=oh tb tv cv km path p wd (gh S t) (S i) (lo + d) h' H) ?_ ?_]
  ·exact ih k (by exact DV ‹_›)
  ·simp only [whTest,Bb,oh,ay,af,aQ,aD,aC,b8,aE,aV,aY,bZ,aR,kI,sI,List.getElem?_cons_zero,List.getElem?_cons_succ,su (show (((lo + (d + 1):Nat):Int) > 0) by lia),mL,dp,i1,mK hv,e2,decide_true]
  ·have e3:(((lo + (d + 1):Nat):Int) - 1)=((lo + d:Nat):Int):=by lia
   simp only [whBody,oh,aq,am,lT,ay,aY,bZ,yL,bG,y3,AS.setLoc,List.getElem?_cons_zero,List.getElem?_cons_succ,List.set_cons_zero,List.set_cons_succ,mL,e3]
theorem xY {S:Nat→List PyData} {tb:List PyData} {tv:List Nat} {cv:PyData} {km p wd t i lo hi l':Nat} {path:fR} {H:List AO} (hv:∀ k,∀ x∈S k,Val x) (R:Run S t i lo hi) (ht:t≤10) (htp:itemAt (tv.map iD) (p:Int)=some (iD t)):∀ (d k:Nat) {j:Nat},j + d=hi→i≤j→
  whileIt (whTest prog W (n + 12) Ab) (whBody prog W (n + 12) [.augLoc 10 .add (.int 1)]) (k + d + 1) (oh tb (.tuple (tv.map iD)) cv km path p wd (gh S t) (S i) l' j H)=some (.next,oh tb (.tuple (tv.map iD)) cv km path p wd (gh S t) (S i) l' hi H):=by
 have hh:=R.lo_i
 have hht:=R.hi_t
 intro d
 induction d with
 | zero=>
  intro k j hj hij
  have:j=hi:=by assumption
  subst this
  refine eB ?_
  by_cases z:j=t
  ·subst z
   simp only [whTest,Ab,oh,ay,af,aQ,aD,aC,b8,aE,aV,aY,bZ,aR,ri,List.getElem?_cons_zero,List.getElem?_cons_succ,bz,htp,B5 (show ¬ ((j:Int) < j) by lia)]
  ·rcases R.right with e | e
   ·exact absurd e z
   ·have i1:itemAt (gh S t) ((j:Int) + 1)=some (.list (S (j + 1))):=by
     rw [iX]; exact j9 (by exact zn11 ‹_› ‹_›) ht
    simp only [whTest,Ab,oh,ay,af,aQ,aD,aC,b8,aE,aV,aY,bZ,aR,kI,cV,List.getElem?_cons_zero,List.getElem?_cons_succ,bz,dp,htp,z5 (show ((j:Int) < t) by lia),cg,i1,mK hv,e,decide_false]
 | succ d ih=>
  intro k j hj hij
  have e1:k + (d + 1) + 1=(k + d + 1) + 1:=by exact rfl
  have i1:itemAt (gh S t) ((j:Int) + 1)=some (.list (S (j + 1))):=by
   rw [iX]; exact j9 (by lia) ht
  have e2:S (j + 1)=S i:=R.same _ (by lia) (by lia)
  rw [e1,ej (aa:=oh tb (.tuple (tv.map iD)) cv km path p wd (gh S t) (S i) l' j H) (ah:=oh tb (.tuple (tv.map iD)) cv km path p wd (gh S t) (S i) l' (j + 1) H) ?_ ?_]
  ·exact ih k (by exact sS ‹_›) (by exact Fz ‹_›)
  ·simp only [whTest,Ab,oh,ay,af,aQ,aD,aC,b8,aE,aV,aY,bZ,aR,kI,cV,List.getElem?_cons_zero,List.getElem?_cons_succ,bz,dp,htp,z5 (show ((j:Int) < t) by lia),cg,i1,mK hv,e2,decide_true]
  ·simp only [whBody,oh,aq,am,lT,ay,aY,bZ,yL,bG,y3,AS.setLoc,List.getElem?_cons_zero,List.getElem?_cons_succ,List.set_cons_zero,List.set_cons_succ,cg,iX]
theorem vO {xs:List PyData} {a c:Nat} (h:a≤c) (h2:c≤xs.length) (h3:xs.length≤1000):kS (.list xs) (.int a) (.int c)=some (.list ((xs.drop a).take (c - a))):=by
 unfold kS
 simp only
 refine (if_pos (fS (by exact Br) (by exact xb ‹_›) (by exact xb ‹_›) (by unfold dz; exact zb1 ‹_› rfl))).trans ?_
 congr 4
 exact Gd ‹_›
theorem tR {a c:Nat} (h:a≤1000) (h2:c≤1000):binD .mul (.int a) (.int c)=some (.int ((a * c:Nat):Int)):=by
 show (if (a:Int).natAbs≤cB∧(c:Int).natAbs≤cB then some (PyData.int ((a:Int) * c)) else none)=_
 refine (if_pos ⟨by unfold cB; lia,by unfold cB; lia⟩).trans ?_
 simp
theorem nQ {w t:Nat} (ht:t≤100):binD .fdiv (.int ((t + 1) * w:Nat)) (.int ((t:Int) + 1))=some (.int (w:Int)):=by
 show (if ((t:Int) + 1)≠0∧((t:Int) + 1).natAbs≤cB then some (PyData.int (Int.fdiv ((t + 1) * w:Nat) ((t:Int) + 1))) else none)=_
 refine (if_pos ⟨by lia,by unfold cB; lia⟩).trans ?_
 congr 2
 rw [Int.fdiv_eq_ediv_of_nonneg _ (by lia),Int.natCast_mul,Int.natCast_add]
 exact Int.mul_ediv_cancel_left _ (by lia)
theorem qh {S:Nat→List PyData} {w t:Nat} {tb:List PyData} {out:List (Option AV)} {H:List AO} (htb:tb=(List.range (t + 1)).flatMap S) (hS:∀ k,k < t + 1→(S k).length=w) (hw:w≤100) (ht:t≤5) (o0:out[0]?=some (some (.d (.list tb)))) (o6:out[6]?=some (some (.d (iD w)))):
  ∃ loc',compItems (Dg.compTurn prog W (n + 20) (.slice (.out 0) (.bin .mul (.out 6) (.loc 1)) (.bin .mul (.out 6) (.bin .add (.loc 1) (.int 1)))) (.loc 1) [] []) ((List.range (t + 1)).map iD) [] ⟨List.replicate 4 none,out,H⟩=some (gh S t,⟨loc',out,H⟩):=by
 have tl:tb.length=(t + 1) * w:=by
  rw [htb,kB (w:=w) (fun x m=>hS x (by simpa using m)),List.length_range]
 refine aB (nM (enc:=iD) (g:=fun k=>.list (S k)) (S:=fun loc=>∃ a b c d,loc=[a,b,c,d]) (turn:=Dg.compTurn prog W (n + 20) (.slice (.out 0) (.bin .mul (.out 6) (.loc 1)) (.bin .mul (.out 6) (.bin .add (.loc 1) (.int 1)))) (.loc 1) [] []) (out:=out) (H:=H) (xs:=List.range (t + 1)) (acc:=[]) (loc:=List.replicate 4 none) (fun k m acc loc hS' ha=>by
  refine tY hS' fun a b c d e_1=>?_; clear hS'; subst e_1
  have hk:k < t + 1:=by simpa using m
  have s1:w * k≤w * (k + 1):=Nat.mul_le_mul_left _ (by exact rF)
  have s2:w * (k + 1)≤tb.length:=by rw [tl,Nat.mul_comm (t + 1)]; exact Nat.mul_le_mul_left _ (by exact yF ‹_›)
  have s3:tb.length≤1000:=by
   rw [tl]
   have:=Nat.mul_le_mul (show t + 1≤6 by exact yB ‹_›) hw
   exact zb1 ‹_› rfl
  have sl:kS (.list tb) (.int ((w * k:Nat):Int)) (.int ((w * (k + 1):Nat):Int))=some (.list (S k)):=by
   rw [vO s1 s2 s3]
   have e:w * (k + 1) - w * k=w:=by rw [Nat.mul_succ]; lia
   rw [e,htb,q9 (fun i hi=>hS i hi) hk]
  refine (m1a2 [a,some (.d (iD k)),c,d] (uC _ _ _ _ rfl) ?_)
  simp only [bd,ay,af,bM,aQ,qX,bb,ae,aE,bJ,aY,aL,bZ,aR,cU,bf,cV,AT,AS.setLoc,az,List.getElem?_cons_zero,List.getElem?_cons_succ,List.set_cons_zero,List.set_cons_succ,if_true,cB,o0,o6,cg,iX,tR (show w≤1000 by exact zb1 ‹_› rfl) (show k≤1000 by exact DE ‹_› ‹_› rfl),tR (show w≤1000 by exact zb1 ‹_› rfl) (show k + 1≤1000 by lia),sl,ha]) (uC _ _ _ _ rfl) (by simp; exact zb1 ‹_› rfl)) fun loc' zz e=>?_
 exact ⟨loc',e⟩
end
section
variable {W n b:Nat}
noncomputable def wyG (tb:List PyData) (tv cv:PyData) (km:Nat) (path:fR) (l5 l6 l7 l8 l9 l10:Option AV) (H:List AO):AS:=
 { loc:=[some (.d (.list tb)),some (.d tv),some (.d cv),some (.o km),some (.d (dP path)),l5,l6,l7,l8,l9,l10,none,none],out:=[],heap:=H }
noncomputable def wyB:List S:=[.assign (.loc 6) (.bin .fdiv (.len (.loc 0)) (.bin .add (.sub (.loc 1) (.loc 5)) (.int 1))),
   .assign (.loc 7) (.comp 4 (.slice (.out 0) (.bin .mul (.out 6) (.loc 1)) (.bin .mul (.out 6) (.bin .add (.loc 1) (.int 1)))) [((.loc 1),(1,[(.bin .add (.sub (.loc 1) (.loc 5)) (.int 1))]),[])]),
   .assign (.loc 8) (.sub (.loc 7) (.sub (.loc 2) (.loc 5))),
   .assign (.tup [(.loc 9),(.loc 10)]) (.tup [(.sub (.loc 2) (.loc 5)),(.sub (.loc 2) (.loc 5))]),
   .while Bb
    [.augLoc 9 .sub (.int 1)],
   .while Ab
    [.augLoc 10 .add (.int 1)],
   .ite (.cmp .ne (.tup [(.loc 9),(.loc 10)]) (.tup [(.int 0),(.sub (.loc 1) (.loc 5))]))
    [.assign (.loc 4) (.bin .add (.loc 4) (.tup [(.tup [(.loc 5),(.tup [(.loc 9),(.loc 10)])])])),
     .ite (.cmp .notin (.tup [(.loc 5),(.loc 0)]) (.loc 3))
      [.expr (.append (.loc 3) (.tup [(.loc 5),(.loc 0)]))]
      []]
    [],
   .assign (.loc 0) (.loc 8)]
theorem tT {x:PyData} (hx:okd x=true):∀ {ms:List PyData},(∀ m∈ms,okd m=true)→(ms.any fun y=>PyData.eqv y x)=decide (x∈ms)
 | [],_=>by simp
 | m :: ms,h=>by
  simp only [List.any_cons,tT hx (ms:=ms) fun y q=>h y (.tail _ q)]
  rw [iO (h m (.head _)) hx]
  by_cases e:m=x
  ·subst e; simp
  ·simp [e,show x≠m from fun z=>e z.symm]
theorem lg {σ:AS} {k:Nat} {ms:List PyData} {x:PyData} {j:Nat} (hk:σ.heap[k]?=some (.list ms)) (hx:Ok j x) (hj:j≤20) (hm:∀ m∈ms,okd m=true):isIn σ x (.o k)=some (decide (x∈ms)):=by
 simp only [sm,Es,hk,hx.eq hj,gG hm,Bool.and_self,if_true,tT hx.1 hm]
noncomputable def wyKey (p:Nat) (tb:List PyData):PyData:=.tuple [iD p,.list tb]
theorem pW {p:Nat} {tb:List PyData} (h:∀ x∈tb,Val x):Ok 2 (wyKey p tb):=Ok.tup fun x m=>by
 simp at m
 rcases m with rfl | rfl
 ·exact Ok.int
 ·exact Ok.list fun x m=>Kk.ok (h x m)
noncomputable def addK (x:PyData) (ms:List PyData):List PyData:=if x∈ms then ms else ms++[x]
theorem xf {S:Nat→List PyData} {t i lo hi w p km:Nat} {tb:List PyData} {tv cell:List Nat} {path:fR} {l5 l6 l7 l8 l9 l10:Option AV} {H:List AO} {ms:List PyData} (hW:100≤W) (htb:tb=(List.range (t + 1)).flatMap S) (hS:∀ k,k < t + 1→(S k).length=w) (hw:w≤100) (ht:t≤5)
  (hv:∀ k,∀ x∈S k,Val x) (R:Run S t i lo hi) (htp:itemAt (tv.map iD) (p:Int)=some (iD t)) (hci:itemAt (cell.map iD) (p:Int)=some (iD i)) (hm:H[km]?=some (.list ms)) (hok:∀ m∈ms,okd m=true) (hml:ms.length≤1000) (hp:path.length≤10):
  ∃ m6 m7 m8 m9 m10,forTurn prog W (n + 60) (.loc 5) wyB (iD p) (wyG tb (.tuple (tv.map iD)) (.tuple (cell.map iD)) km path l5 l6 l7 l8 l9 l10 H)=
   some (.next,wyG (S i) (.tuple (tv.map iD)) (.tuple (cell.map iD)) km (if (lo,hi)=(0,t) then path else path++[(p,(lo,hi))]) (some (.d (iD p))) m6 m7 m8 m9 m10 (if (lo,hi)=(0,t) then H else H.set km (.list (addK (wyKey p tb) ms)))):=by
 have tl:tb.length=(t + 1) * w:=by
  rw [htb,kB (w:=w) (fun x m=>hS x (by simpa using m)),List.length_range]
 have tl2:tb.length≤2000000:=by
  rw [tl]
  have:=Nat.mul_le_mul (show t + 1≤6 by exact yB ‹_›) hw
  exact zb1 ‹_› rfl
 have tl3:(t + 1) * w≤2000000:=by rw [← tl]; exact tl2
 have h1:=R.lo_i
 have h2:=R.i_hi
 have h3:=R.hi_t
 have tv':∀ x∈tb,Val x:=fun x m=>by
  rw [htb,List.mem_flatMap] at m
  refine aB m fun k zz m=>?_
  exact hv k x m
 obtain ⟨loc',sc⟩:=qh (W:=W) (n:=n + 36) (out:=[some (.d (.list tb)),some (.d (.tuple (tv.map iD))),some (.d (.tuple (cell.map iD))),some (.o km),some (.d (dP path)),some (.d (iD p)),some (.d (iD w)),l7,l8,l9,l10,none,none]) (H:=H) htb hS hw ht rfl rfl
 have lw:whileIt (whTest prog W (n + 54) Bb) (whBody prog W (n + 54) [.augLoc 9 .sub (.int 1)]) W (oh tb (.tuple (tv.map iD)) (.tuple (cell.map iD)) km path p w (gh S t) (S i) i i H)=some (.next,oh tb (.tuple (tv.map iD)) (.tuple (cell.map iD)) km path p w (gh S t) (S i) lo i H):=by
  have:=xQ (W:=W) (n:=n + 42) (tb:=tb) (tv:=.tuple (tv.map iD)) (cv:=.tuple (cell.map iD)) (km:=km) (p:=p) (wd:=w) (h':=i) (path:=path) (H:=H) hv R (by exact zb1 ‹_› rfl) (i - lo) (W - (i - lo) - 1) (by lia)
  rw [show W - (i - lo) - 1 + (i - lo) + 1=W by lia,show lo + (i - lo)=i by exact Dc ‹_›] at this
  exact this
 have hw':whileIt (whTest prog W (n + 53) Ab) (whBody prog W (n + 53) [.augLoc 10 .add (.int 1)]) W (oh tb (.tuple (tv.map iD)) (.tuple (cell.map iD)) km path p w (gh S t) (S i) lo i H)=some (.next,oh tb (.tuple (tv.map iD)) (.tuple (cell.map iD)) km path p w (gh S t) (S i) lo hi H):=by
  have:=xY (W:=W) (n:=n + 41) (tb:=tb) (tv:=tv) (cv:=.tuple (cell.map iD)) (km:=km) (p:=p) (wd:=w) (l':=lo) (path:=path) (H:=H) hv R (by exact zb1 ‹_› rfl) htp (hi - i) (W - (hi - i) - 1) (j:=i) (by exact Dc ‹_›) (Nat.le_refl _)
  rw [show W - (hi - i) - 1 + (hi - i) + 1=W by lia] at this
  exact this
 have cm:∀ σ:AS,cmpV σ .ne (.d (.tuple [iD lo,iD hi])) (.d (.tuple [.int 0,iD t]))=some (!decide ((lo,hi)=(0,t))):=fun σ=>by
  have k1:Ok 1 (.tuple [iD lo,iD hi]):=Ok.tup fun x m=>by simp at m; rcases m with rfl | rfl <;> exact Ok.int
  have k2:Ok 1 (.tuple [.int 0,iD t]):=Ok.tup fun x m=>by simp at m; rcases m with rfl | rfl <;> exact Ok.int
  refine (pM k1.eq k2.eq).trans ?_
  have q:(PyData.tuple [iD lo,iD hi]=.tuple [.int 0,iD t]) ↔ ((lo,hi)=(0,t)):=by
   simp only [PyData.tuple.injEq,List.cons.injEq,PyData.int.injEq,and_true,Prod.mk.injEq]
   lia
  congr 2
  exact decide_eq_decide.mpr q
 have nin:∀ loc,isIn { loc:=loc,out:=[],heap:=H } (wyKey p tb) (.o km)=some (decide (wyKey p tb∈ms)):=fun loc=>lg hm (pW tv') (by decide) hok
 simp only [wyKey] at nin
 have pb:∀ x,binD .add (.tuple (path.map entD)) (.tuple [x])=some (.tuple (path.map entD++[x])):=fun x=>pO (by simp; exact zb1 ‹_› rfl)
 have sl:=j9 (S:=S) (show i≤t by exact sT ‹_› ‹_›) (show t≤10 by exact zb1 ‹_› rfl)
 simp only [oh] at lw hw'
 refine (pB (some (.d (iD w))) (some (.d (.list (gh S t)))) (some (.d (.list (S i)))) (some (.d (iD lo))) (some (.d (iD hi))) ?_)
 unfold forTurn
 simp only [List.replicate] at sc
 by_cases e:(lo,hi)=(0,t)
 ·simp only [wyB,wyG,aq,am,av,aS,aK,eI,ay,af,aQ,aH,br,aD,aG,bu,aC,ai,ag,eg,ae,aA,ax,au,aE,aP,aW,aV,aY,aL,gP,bZ,aR,db,bG,mf,bf,cV,iV,AS.setLoc,az,AS.freezeAll,AS.put,List.getElem?_cons_zero,List.getElem?_cons_succ,List.set_cons_zero,List.set_cons_succ,List.replicate,if_true,dz,cB,tl3,tl,bz,dp,htp,hci,cg,nQ (show t≤100 by exact zb1 ‹_› rfl),eZ (show t≤1000 by exact zb1 ‹_› rfl),sc,sl,lw,hw',cm,e,decide_true,Bool.not_true]
 ·simp only [dP] at sc lw hw'
  by_cases q:wyKey p tb∈ms
  ·have q':addK (wyKey p tb) ms=ms:=if_pos q
   simp only [q',gF hm]
   simp only [wyKey] at q
   simp only [q,decide_true] at nin
   simp only [wyB,wyG,aq,am,av,aS,aK,eI,ay,af,aQ,aH,br,aD,aG,bu,aC,ai,ag,eg,ae,aA,ax,au,aE,aP,aW,aV,aY,aL,gP,bZ,aR,cU,db,bG,mf,bf,cV,iV,AS.setLoc,az,AS.freezeAll,AS.put,List.getElem?_cons_zero,List.getElem?_cons_succ,List.set_cons_zero,List.set_cons_succ,List.map_cons,List.map_nil,List.replicate,if_true,reduceIte,dz,cB,tl3,tl,bz,dp,htp,hci,cg,nQ (show t≤100 by exact zb1 ‹_› rfl),eZ (show t≤1000 by exact zb1 ‹_› rfl),sc,sl,lw,hw',cm,e,decide_false,Bool.not_false,dP,pb,List.map_append,entD,cX,nin,Option.map_some,Bool.not_true]
  ·have q':addK (wyKey p tb) ms=ms++[wyKey p tb]:=if_neg q
   simp only [q']
   simp only [wyKey] at q ⊢
   simp only [q,decide_false] at nin
   simp only [wyB,wyG,aq,am,av,aS,aK,eI,ay,af,aQ,aH,br,aD,aG,bu,aC,ai,ag,eg,ae,aA,ax,au,aE,aP,bJ,aW,aV,aY,aL,gP,cM,bZ,dW,aR,cU,bG,mf,bf,cV,iV,AS.setLoc,az,AS.freezeAll,AS.put,List.getElem?_cons_zero,List.getElem?_cons_succ,List.set_cons_zero,List.set_cons_succ,List.map_cons,List.map_nil,List.replicate,if_true,reduceIte,dz,cB,tl3,tl,bz,dp,htp,hci,cg,nQ (show t≤100 by exact zb1 ‹_› rfl),eZ (show t≤1000 by exact zb1 ‹_› rfl),sc,sl,lw,hw',cm,e,decide_false,Bool.not_false,dP,pb,List.map_append,entD,cX,nin,Option.map_some,hm,(show ms.length < 1000000 by exact og ‹_› rfl)]
end
section
variable {W m b:Nat} {D:Dia} {n l i:Nat}
theorem jX (w:WF D):∀ {c:List Nat} {l n:Nat},n < D.nodes.length→l≤D.lev n→D.Box l c→Val (D.val l n c)
 | [],l,n,hn,hl,hb=>by
  have:l=3:=hb
  subst this
  obtain ⟨v,g⟩:=mI w hn hl
  simp only [Dia.val,Dia.leafv,g]
  exact w.ok _ (List.mem_of_getElem? g)
 | i :: c,l,n,hn,hl,hb=>by
  have h3:=hb.1
  rcases w.sub_lev hn hb.2.1 hl with h | h
  ·show Val (D.val (l + 1) (D.sub l n i) c)
   exact jX w (w.sub_lt hn hb.2.1) h hb.2.2
  ·lia
theorem s5 (w:WF D) (hl:l≤3) (hn:n < D.nodes.length) (ln:l≤D.lev n):∀ x∈D.tab l (D.tops.drop l) n,Val x:=fun x mx=>by
 refine aB (List.mem_map.mp mx) fun c hc e_1=>?_; subst e_1
 obtain ⟨h1,h2⟩:=jh w hl
 exact jX w hn ln ((gO h1 h2).mpr hc)
theorem mP (w:WF D) (hl:l≤3):yG (D.tops.drop l)≤125∧(1≤l→yG (D.tops.drop l)≤25):=by
 refine ga w.tops fun a b c e h1 h2 h3=>?_
 rw [e]
 have q1:(c + 1) * 1≤5:=by lia
 have q2:(b + 1) * ((c + 1) * 1)≤5 * 5:=Nat.mul_le_mul (by exact yB ‹_›) q1
 have q3:(a + 1) * ((b + 1) * ((c + 1) * 1))≤5 * (5 * 5):=Nat.mul_le_mul (by exact yB ‹_›) q2
 have z1:1≤25:=by decide
 have z2:(c + 1) * 1≤25:=Nat.le_trans q1 (by decide)
 have e2:(b + 1) * ((c + 1) * 1)≤25:=q2
 exact n4 (Nat.lt_succ_of_le hl) ⟨q3,fun h=>absurd h (by decide)⟩ ⟨Nat.le_trans e2 (by decide),fun zz=>e2⟩ ⟨Nat.le_trans z2 (by decide),fun zz=>z2⟩ ⟨Nat.le_trans z1 (by decide),fun zz=>z1⟩
noncomputable def Dia.runN (D:Dia) (l n i:Nat):Nat×Nat:=if D.lev n=l then runAt 0 (D.parts n) i else (0,D.top l)
noncomputable def Dia.slice (D:Dia) (l n k:Nat):List PyData:=if k≤D.top l then D.tab (l + 1) (D.tops.drop (l + 1)) (D.sub l n k) else []
theorem zC (w:WF D) (hl:l < 3) (hn:n < D.nodes.length) (ln:l≤D.lev n) (hi:i≤D.top l):
  Run (D.slice l n) (D.top l) i (D.runN l n i).1 (D.runN l n i).2∧(D.runN l n i=(0,D.top l) ↔ D.lev n≠l):=by
 have sl:∀ k,k≤D.top l→l + 1≤D.lev (D.sub l n k):=fun k hk=>by
  rcases w.sub_lev hn hk ln with h | h <;> lia
 have eqs:∀ j k,j≤D.top l→k≤D.top l→(D.slice l n j=D.slice l n k ↔ D.sub l n j=D.sub l n k):=fun j k hj hk=>by
  unfold Dia.slice
  rw [if_pos hj,if_pos hk]
  exact ⟨fun h=>sZ w (by exact yF ‹_›) (w.sub_lt hn hj) (w.sub_lt hn hk) (sl j hj) (sl k hk) h,fun h=>by rw [h]⟩
 by_cases e:D.lev n=l
 ·obtain ⟨ps,g⟩:=dZ w hn e hl
  refine dR (w.inner n l ps g) fun h1 h2 h3 h4 h5=>?_
  have ep:D.parts n=ps:=by unfold Dia.parts; rw [g]
  have er:D.runN l n i=runAt 0 ps i:=by unfold Dia.runN; rw [if_pos e,ep]
  have es:∀ k,k≤D.top l→∃ c,aF ps k=some c∧D.sub l n k=c:=fun k hk=>by
   refine aB (h2.part hk) fun c hc zz=>?_
   exact (m1a2 c hc (by unfold Dia.sub; rw [g]; simp only [if_true]; rw [hc]; rfl))
  have ee:∀ j k,j≤D.top l→k≤D.top l→(D.sub l n j=D.sub l n k ↔ aF ps j=aF ps k):=fun j k hj hk=>by
   refine bc fun hn=>?_
   refine aB (es j hj) fun c hc sc=>?_
   refine aB (es k hk) fun d hd sd=>?_
   refine hn ?_
   rw [sc,sd,hc,hd]; simp
  refine pV (vV (ps:=ps) (lo:=0) (z:=-1) (top:=D.top l) (i:=i) (by decide) h2.rise h2.last h4 (Nat.zero_le _) hi) fun k1 k2 k3 k4 k5 k6 k7=>?_
  rw [er]
  refine ⟨⟨k2,k3,k4,fun j h1 h2=>(eqs j i (by exact sT ‹_› ‹_›) hi).mpr ((ee j i (by exact sT ‹_› ‹_›) hi).mpr (k5 j h1 h2)),?_,?_⟩,?_⟩
  ·rcases k6 with k6 | ⟨k6,k6'⟩
   ·exact .inl k6
   ·right; intro q; exact k6' ((ee _ _ (by lia) hi).mp ((eqs _ _ (by lia) hi).mp q))
  ·rcases k7 with k7 | k7
   ·exact .inl k7
   ·by_cases z:(runAt 0 ps i).2=D.top l
    ·exact .inl z
    ·right; intro q; exact k7 ((ee _ _ (by exact zn11 ‹_› ‹_›) hi).mp ((eqs _ _ (by exact zn11 ‹_› ‹_›) hi).mp q))
  ·constructor
   ·intro q
    exfalso
    refine kY w g (m:=D.sub l n i) fun j hj=>(ee j i hj hi).mpr (k5 j ?_ ?_)
    ·rw [q]; exact Nat.zero_le _
    ·rw [q]; exact hj
   ·intro q; exact absurd e q
 ·have er:D.runN l n i=(0,D.top l):=by unfold Dia.runN; rw [if_neg e]
  rw [er]
  refine ⟨⟨Nat.zero_le _,hi,Nat.le_refl _,fun j zz hj=>(eqs j i hj hi).mpr (by rw [dF (fun q=>e q.symm) hl,dF (fun q=>e q.symm) hl]),.inl rfl,.inl rfl⟩,⟨fun zz=>e,fun zz=>rfl⟩⟩
noncomputable def Dia.mkey (D:Dia) (n:Nat):PyData:=match D.nodes[n]? with
 | some (.inner x _)=>wyKey x (D.tab x (D.tops.drop x) n)
 | _=>.list [D.leafv n]
theorem fb {x:Nat} {ps:List (Nat×Nat)} (g:D.nodes[n]?=some (.inner x ps)):D.mkey n=wyKey x (D.tab x (D.tops.drop x) n):=by unfold Dia.mkey; rw [g]
theorem fG {v:PyData} (g:D.nodes[n]?=some (.leaf v)):D.mkey n=.list [v]:=by unfold Dia.mkey Dia.leafv; rw [g]
theorem we (w:WF D) {k:Nat} (hn:n < D.nodes.length) (hk:k < D.nodes.length) (h:D.mkey n=D.mkey k):n=k:=by
 have gn:=List.getElem?_eq_getElem hn
 have gk:=List.getElem?_eq_getElem hk
 induction e1:D.nodes[n] using Nd.casesOn with
 | leaf v=>
  rw [e1] at gn
  induction e2:D.nodes[k] using Nd.casesOn with
  | leaf u=>
   rw [e2] at gk
   rw [fG gn,fG gk] at h
   simp at h
   subst h
   exact (List.getElem?_inj hn w.nodup).mp (gn.trans gk.symm)
  | inner x ps=>rw [e2] at gk; rw [fG gn,fb gk] at h; simp [wyKey] at h
 | inner x ps=>
  rw [e1] at gn
  induction e2:D.nodes[k] using Nd.casesOn with
  | leaf u=>rw [e2] at gk; rw [fb gn,fG gk] at h; simp [wyKey] at h
  | inner y qs=>
   rw [e2] at gk
   rw [fb gn,fb gk] at h
   simp only [wyKey,PyData.tuple.injEq,List.cons.injEq,PyData.int.injEq,PyData.list.injEq,and_true] at h
   have hxy:x=y:=by lia
   subst hxy
   have hx:=(w.inner n x ps gn).1
   exact sZ w (by exact FB ‹_›) hn hk (by rw [cE gn]; exact Nat.le_refl _) (by rw [cE gk]; exact Nat.le_refl _) h.2
theorem tw (w:WF D) (hn:n < D.nodes.length):Ok 2 (D.mkey n):=by
 have gn:=List.getElem?_eq_getElem hn
 induction e1:D.nodes[n] using Nd.casesOn with
 | leaf v=>
  rw [e1] at gn
  rw [fG gn]
  exact (Ok.list (k:=0) fun x mx=>by simp at mx; subst mx; exact Kk.ok (w.ok _ (List.mem_of_getElem? gn))).le (by decide)
 | inner x ps=>
  rw [e1] at gn
  rw [fb gn]
  exact pW (s5 w (by have:=(w.inner n x ps gn).1; exact FB ‹_›) hn (by rw [cE gn]; exact Nat.le_refl _))
noncomputable def addM (M:List Nat) (n:Nat):List Nat:=if n∈M then M else M++[n]
theorem tU (w:WF D) (hn:n < D.nodes.length) {M:List Nat} (hM:∀ k∈M,k < D.nodes.length):addK (D.mkey n) (M.map D.mkey)=(addM M n).map D.mkey:=by
 unfold addK addM
 by_cases e:n∈M
 ·rw [if_pos e,if_pos (List.mem_map_of_mem e)]
 ·rw [if_neg e,if_neg (fun q=>by
   refine aB (List.mem_map.mp q) fun k mk ek=>?_
   exact e (we w (hM k mk) hn ek▸mk))]
  simp
noncomputable def Dia.pathOf (D:Dia):Nat→Nat→List Nat→fR
 | _,_,[]=>[]
 | l,n,i :: c=>(if D.lev n=l then [(l,D.runN l n i)] else [])++D.pathOf (l + 1) (D.sub l n i) c
noncomputable def Dia.visOf (D:Dia):Nat→Nat→List Nat→List Nat
 | _,n,[]=>[n]
 | l,n,i :: c=>(if D.lev n=l then [n] else [])++D.visOf (l + 1) (D.sub l n i) c
theorem kQ {km:Nat} {cell:List Nat} {path:fR} {l5 l6 l7 l8 l9 l10:Option AV} {H:List AO} {M:List Nat} (hW:100≤W) (w:WF D) (hl:l < 3) (hn:n < D.nodes.length) (ln:l≤D.lev n) (hi:i≤D.top l) (hci:itemAt (cell.map iD) (l:Int)=some (iD i))
  (hm:H[km]?=some (.list (M.map D.mkey))) (hM:∀ k∈M,k < D.nodes.length) (hml:M.length≤1000) (hp:path.length≤10):
  ∃ m6 m7 m8 m9 m10,forTurn prog W (m + 60) (.loc 5) wyB (iD l) (wyG (D.tab l (D.tops.drop l) n) (.tuple (D.tops.map iD)) (.tuple (cell.map iD)) km path l5 l6 l7 l8 l9 l10 H)=
   some (.next,wyG (D.tab (l + 1) (D.tops.drop (l + 1)) (D.sub l n i)) (.tuple (D.tops.map iD)) (.tuple (cell.map iD)) km (path++if D.lev n=l then [(l,D.runN l n i)] else []) (some (.d (iD l))) m6 m7 m8 m9 m10
    (H.set km (.list ((if D.lev n=l then addM M n else M).map D.mkey)))):=by
 obtain ⟨R,hr⟩:=zC w hl hn ln hi
 obtain ⟨ht,ht4⟩:=w.topx hl
 have tl:D.tops.length=3:=by refine dB w.tops fun a b c e zz=>?_; rw [e]; rfl
 have htp:itemAt (D.tops.map iD) (l:Int)=some (iD (D.top l)):=dy (by simp [ht]) (by simp [tl])
 have htb:D.tab l (D.tops.drop l) n=(List.range (D.top l + 1)).flatMap (D.slice l n):=by
  rw [om w hl,vD]
  refine cK fun k mk=>?_
  have:k≤D.top l:=by have:=List.mem_range.mp mk; exact zh ‹_›
  unfold Dia.slice; rw [if_pos this]
 have hS:∀ k,k < D.top l + 1→(D.slice l n k).length=yG (D.tops.drop (l + 1)):=fun k hk=>by
  unfold Dia.slice; rw [if_pos (by exact zh ‹_›),xh]
 have hv:∀ k,∀ x∈D.slice l n k,Val x:=fun k x mx=>by
  unfold Dia.slice at mx
  split at mx
  ·rename_i hk
   have:=w.sub_lev hn hk ln
   exact s5 w (by exact yF ‹_›) (w.sub_lt hn hk) (by lia) x mx
  ·exact (List.not_mem_nil mx).elim
 have hs:D.slice l n i=D.tab (l + 1) (D.tops.drop (l + 1)) (D.sub l n i):=by unfold Dia.slice; rw [if_pos hi]
 refine pg (xf (W:=W) (n:=m) (path:=path) (l5:=l5) (l6:=l6) (l7:=l7) (l8:=l8) (l9:=l9) (l10:=l10) hW htb hS (by have:=(mP w (l:=l + 1) (by exact yF ‹_›)).2 (by exact Dj); exact zb1 ‹_› rfl) (by exact zb1 ‹_› rfl) hv R htp hci hm (fun x mx=>by
  refine aB (List.mem_map.mp mx) fun k mk e_2=>?_; subst e_2
  exact (tw w (hM k mk)).1) (by simpa using hml) hp) fun m6 m7 m8 m9 m10 e=>?_
 refine (pB m6 m7 m8 m9 m10 ?_)
 have e0:((D.runN l n i).1,(D.runN l n i).2)=D.runN l n i:=rfl
 rw [e,hs,e0]
 by_cases q:D.lev n=l
 ·have nr:¬ (D.runN l n i=(0,D.top l)):=fun z=>(hr.mp z) q
  obtain ⟨ps,g⟩:=dZ w hn q hl
  have ek:wyKey l (D.tab l (D.tops.drop l) n)=D.mkey n:=(fb g).symm
  rw [ek,tU w hn hM]
  simp only [q,nr,if_true,if_false]
 ·have yr:D.runN l n i=(0,D.top l):=hr.mpr q
  simp only [yr,q,if_true,if_false,List.append_nil,gF hm]
end
section
variable {W m b:Nat} {D:Dia} {n l i:Nat} {σ:AS}
theorem kM {M:List Nat} {n k:Nat}:k∈addM M n ↔ k∈M∨k=n:=by
 unfold addM
 split
 ·rename_i h
  exact ⟨fun q=>.inl q,fun q=>by rcases q with q | rfl <;> assumption⟩
 ·simp
theorem kN {M:List Nat} {n:Nat}:(addM M n).length≤M.length + 1:=by
 unfold addM; split <;> simp
theorem sJ {M:List Nat} {n:Nat} (h:M.Nodup):(addM M n).Nodup:=by
 unfold addM
 split
 ·exact h
 ·rename_i q
  exact List.nodup_append.mpr (cw h (by simp) (fun a ha b hb e=>by simp at hb; subst hb; subst e; exact q ha))
theorem pp {H:List AO} {k:Nat} {x y:AO}:(H.set k x).set k y=H.set k y:=by simp
theorem mH (w:WF D) (hl:l < 3) (hn:n < D.nodes.length) (ln:l≤D.lev n) (hi:i≤D.top l):l + 1≤D.lev (D.sub l n i):=by
 rcases w.sub_lev hn hi ln with h | h <;> lia
theorem vj {km bj bx bH:Nat} {M:List Nat} (hW:100≤W) (w:WF D) (hn:n < D.nodes.length) (hb:D.Box 0 [bj,bx,bH]) (hm:σ.heap[km]?=some (.list (M.map D.mkey))) (hM:∀ k∈M,k < D.nodes.length) (hml:M.length≤900):
  callF prog W (m + 80) 22 [.d (.list (D.tab 0 D.tops n)),.d (topsD D.tops),.d (cellD [bj,bx,bH]),.o km] σ=
   some (.d (dm (D.pathOf 0 n [bj,bx,bH],D.val 0 n [bj,bx,bH])),{ σ with heap:=σ.heap.set km (.list (((D.visOf 0 n [bj,bx,bH]).foldl addM M).map D.mkey)) }):=by
 refine (bh (fd:=⟨4,13,b_lway⟩) rfl rfl).trans ?_
 refine pV hb fun zz b0 zz b1 zz b2 zz=>?_; clear hb
 have n1:=w.sub_lt hn b0
 have v1:=mH w (by decide) hn (Nat.zero_le _) b0
 have n2:=w.sub_lt n1 b1
 have v2:=mH w (by decide) n1 v1 b1
 have n3:=w.sub_lt n2 b2
 have v3:=mH w (by decide) n2 v2 b2
 have km':=(List.getElem?_eq_some_iff.mp hm).1
 refine pg (kQ (W:=W) (m:=m + 16) (cell:=[bj,bx,bH]) (path:=[]) (l5:=none) (l6:=none) (l7:=none) (l8:=none) (l9:=none) (l10:=none) hW w (l:=0) (by decide) hn (Nat.zero_le _) b0 qR hm hM (by exact zb1 ‹_› rfl) (by simp)) fun a6 a7 a8 a9 a10 e0=>?_
 generalize hM1:(if D.lev n=0 then addM M n else M)=M1 at e0
 have m1:∀ k∈M1,k < D.nodes.length:=fun k mk=>by
  rw [← hM1] at mk
  split at mk
  ·rcases kM.mp mk with q | rfl
   ·exact hM k q
   ·exact hn
  ·exact hM k mk
 have L1:M1.length≤901:=by
  rw [← hM1]; split
  ·have:=kN (M:=M) (n:=n); exact pU ‹_› ‹_› rfl
  ·exact zb1 ‹_› rfl
 refine pg (kQ (W:=W) (m:=m + 16) (H:=σ.heap.set km (.list (M1.map D.mkey))) (km:=km) (cell:=[bj,bx,bH]) (path:=[]++if D.lev n=0 then [(0,D.runN 0 n bj)] else []) (l5:=some (.d (iD 0))) (l6:=a6) (l7:=a7) (l8:=a8) (l9:=a9) (l10:=a10) hW w (l:=1) (by decide) n1 v1 b1 it31 (fX hm) m1 (by exact zb1 ‹_› rfl) (by split <;> simp)) fun d6 d7 d8 d9 d10 e1=>?_
 generalize hM2:(if D.lev (D.sub 0 n bj)=1 then addM M1 (D.sub 0 n bj) else M1)=M2 at e1
 have m2:∀ k∈M2,k < D.nodes.length:=fun k mk=>by
  rw [← hM2] at mk
  split at mk
  ·rcases kM.mp mk with q | rfl
   ·exact m1 k q
   ·exact n1
  ·exact m1 k mk
 have L2:M2.length≤902:=by
  rw [← hM2]; split
  ·have:=kN (M:=M1) (n:=D.sub 0 n bj); exact pU ‹_› ‹_› rfl
  ·exact zb1 ‹_› rfl
 rw [pp] at e1
 refine pg (kQ (W:=W) (m:=m + 16) (H:=σ.heap.set km (.list (M2.map D.mkey))) (km:=km) (cell:=[bj,bx,bH]) (path:=([]++if D.lev n=0 then [(0,D.runN 0 n bj)] else [])++if D.lev (D.sub 0 n bj)=1 then [(1,D.runN 1 (D.sub 0 n bj) bx)] else []) (l5:=some (.d (iD 1))) (l6:=d6) (l7:=d7) (l8:=d8) (l9:=d9) (l10:=d10) hW w (l:=2) (by decide) n2 v2 b2 it32 (fX hm) m2 (by exact zb1 ‹_› rfl) (by split <;> split <;> simp)) fun f6 f7 f8 f9 f10 e2=>?_
 generalize hM3:(if D.lev (D.sub 1 (D.sub 0 n bj) bx)=2 then addM M2 (D.sub 1 (D.sub 0 n bj) bx) else M2)=M3 at e2
 have m3:∀ k∈M3,k < D.nodes.length:=fun k mk=>by
  rw [← hM3] at mk
  split at mk
  ·rcases kM.mp mk with q | rfl
   ·exact m2 k q
   ·exact n2
  ·exact m2 k mk
 have L3:M3.length≤903:=by
  rw [← hM3]; split
  ·have:=kN (M:=M2) (n:=D.sub 1 (D.sub 0 n bj) bx); exact pU ‹_› ‹_› rfl
  ·exact zb1 ‹_› rfl
 rw [pp] at e2
 obtain ⟨v,g⟩:=mI w n3 v3
 have hleaf:D.tab (2 + 1) (D.tops.drop (2 + 1)) (D.sub 2 (D.sub 1 (D.sub 0 n bj) bx) bH)=[v]:=by
  refine dB w.tops fun a b c e zz=>?_
  rw [e]
  show [D.leafv _]=_
  unfold Dia.leafv; rw [g]
 rw [hleaf] at e2
 have hval:D.val 0 n [bj,bx,bH]=v:=by
  show D.leafv _=v
  unfold Dia.leafv; rw [g]
 have hpath:D.pathOf 0 n [bj,bx,bH]=(([]++if D.lev n=0 then [(0,D.runN 0 n bj)] else [])++if D.lev (D.sub 0 n bj)=1 then [(1,D.runN 1 (D.sub 0 n bj) bx)] else [])++if D.lev (D.sub 1 (D.sub 0 n bj) bx)=2 then [(2,D.runN 2 (D.sub 1 (D.sub 0 n bj) bx) bH)] else []:=by
  simp only [Dia.pathOf,List.nil_append,List.append_nil,List.append_assoc]
 have hvis:(D.visOf 0 n [bj,bx,bH]).foldl addM M=addM M3 (D.sub 2 (D.sub 1 (D.sub 0 n bj) bx) bH):=by
  rw [← hM3,← hM2,← hM1]
  simp only [Dia.visOf,List.foldl_append,List.foldl_cons,List.foldl_nil]
  congr 1
  split <;> split <;> split <;> simp only [List.foldl_cons,List.foldl_nil]
 rw [hval,hvis,hpath]
 generalize (([]++if D.lev n=0 then [(0,D.runN 0 n bj)] else [])++if D.lev (D.sub 0 n bj)=1 then [(1,D.runN 1 (D.sub 0 n bj) bx)] else [])++(if D.lev (D.sub 1 (D.sub 0 n bj) bx)=2 then [(2,D.runN 2 (D.sub 1 (D.sub 0 n bj) bx) bH)] else [])=P3 at e2
 have hk:D.mkey (D.sub 2 (D.sub 1 (D.sub 0 n bj) bx) bH)=.list [v]:=fG g
 have hadd:=tU w n3 m3
 rw [hk] at hadd
 have hv:Val v:=w.ok _ (List.mem_of_getElem? g)
 have hin:∀ loc,isIn { loc:=loc,out:=[],heap:=σ.heap.set km (.list (M3.map D.mkey)) } (.list [v]) (.o km)=some (decide (PyData.list [v]∈M3.map D.mkey)):=fun loc=>
  lg (fX hm) (Ok.list (k:=0) fun x mx=>by simp at mx; subst mx; exact Kk.ok hv) (by decide) (fun x mx=>by
   refine aB (List.mem_map.mp mx) fun k mk e_1=>?_; subst e_1
   exact (tw w (m3 k mk)).1)
 have t0:D.tops.drop 0=D.tops:=rfl
 rw [t0] at e0
 have z0:iD 0=.int 0:=rfl
 have z1:iD 1=.int 1:=rfl
 have z2:iD 2=.int 2:=rfl
 simp only [z0,z1,z2,Nat.reduceAdd] at e0 e1 e2
 have loop:forItems (forTurn prog W (m + 76) (.loc 5) wyB) [.int 0,.int 1,.int 2] (wyG (D.tab 0 D.tops n) (.tuple (D.tops.map iD)) (.tuple ([bj,bx,bH].map iD)) km [] none none none none none none σ.heap)=some (.next,wyG [v] (.tuple (D.tops.map iD)) (.tuple ([bj,bx,bH].map iD)) km P3 (some (.d (.int 2))) f6 f7 f8 f9 f10 (σ.heap.set km (.list (M3.map D.mkey)))):=by
  simp only [forItems,e0,e1,e2]
 simp only [wyG,wyB,Bb,Ab,dP,List.map_nil,List.map_cons] at loop
 have gk:(σ.heap.set km (.list (M3.map D.mkey)))[km]?=some (.list (M3.map D.mkey)):=fX hm
 by_cases q:PyData.list [v]∈M3.map D.mkey
 ·unfold addK at hadd
  rw [if_pos q] at hadd
  rw [← hadd]
  simp only [q,decide_true] at hin
  simp only [b_lway,topsD,cellD,aq,am,av,aS,aK,bm,aO,ay,af,aH,aD,aG,aC,ai,ag,eg,ae,aE,aP,aW,aV,aY,aL,gP,bZ,aR,db,bG,cT,cn,bf,cj,AS.setLoc,az,AS.freezeAll,AS.put,List.getElem?_cons_zero,List.getElem?_cons_succ,List.set_cons_zero,List.set_cons_succ,List.map_cons,List.map_nil,List.cons_append,List.nil_append,List.replicate,Nat.reduceSub,cB,pt,loop,cX,hin,Option.map_some,Bool.not_true,dp,z9,dm,dP]
  rw [gM (by simp)]
 ·unfold addK at hadd
  rw [if_neg q] at hadd
  rw [← hadd]
  simp only [q,decide_false] at hin
  simp only [b_lway,topsD,cellD,aq,am,av,aS,aK,bm,aO,ay,af,aH,aD,aG,aC,ai,ag,eg,ae,aE,aP,bJ,aW,aV,aY,aL,gP,cM,bZ,dW,aR,cU,bG,cT,cn,bf,cj,AS.setLoc,az,AS.freezeAll,AS.put,List.getElem?_cons_zero,List.getElem?_cons_succ,List.set_cons_zero,List.set_cons_succ,List.map_cons,List.map_nil,List.cons_append,List.nil_append,List.replicate,Nat.reduceSub,if_true,cB,pt,loop,cX,hin,Option.map_some,Bool.not_false,dp,z9,dm,dP,gk,List.length_map,(show M3.length < 1000000 by exact og ‹_› rfl),pp]
  rw [gM (by simp)]
end
noncomputable abbrev f5:=fR×PyData
noncomputable def gB (acc:List f5) (w:f5):List f5:=if w∈acc then acc else acc++[w]
noncomputable abbrev ddF (acc:List f5) (xs:List f5):List f5:=xs.foldl gB acc
theorem rD {acc:List f5} {w x:f5}:x∈gB acc w ↔ x∈acc∨x=w:=by
 unfold gB
 split
 ·rename_i h
  exact ⟨fun q=>.inl q,fun q=>by rcases q with q | rfl <;> assumption⟩
 ·simp
theorem sB {x:f5}:∀ {xs acc:List f5},x∈ddF acc xs ↔ x∈acc∨x∈xs
 | [],acc=>by simp
 | w :: xs,acc=>by
  simp only [ddF,List.foldl_cons]
  rw [show List.foldl gB (gB acc w) xs=ddF (gB acc w) xs from rfl,sB,rD]
  simp [or_assoc]
theorem yV:∀ {xs acc:List f5},(∀ x∈xs,x∈acc)→ddF acc xs=acc
 | [],_,_=>rfl
 | w :: xs,acc,h=>by
  have:gB acc w=acc:=if_pos (h w (.head _))
  simp only [ddF,List.foldl_cons,this]
  exact yV fun x m=>h x (.tail _ m)
theorem wC:∀ {xs acc b:List f5},(∀ x∈xs,x ∉ acc)→ddF (acc++b) xs=acc++ddF b xs
 | [],_,_,_=>rfl
 | w :: xs,acc,b,h=>by
  have hw:=h w (.head _)
  have:gB (acc++b) w=acc++gB b w:=by
   unfold gB
   by_cases e:w∈b
   ·rw [if_pos e,if_pos (List.mem_append_right _ e)]
   ·rw [if_neg e,if_neg (by simp [hw,e])]; simp
  simp only [ddF,List.foldl_cons,this]
  exact wC fun x m=>h x (.tail _ m)
theorem wD {f:f5→f5} (hf:∀ a b,f a=f b→a=b):∀ {xs acc:List f5},ddF (acc.map f) (xs.map f)=(ddF acc xs).map f
 | [],_=>rfl
 | w :: xs,acc=>by
  have:gB (acc.map f) (f w)=(gB acc w).map f:=by
   unfold gB
   by_cases e:w∈acc
   ·rw [if_pos e,if_pos (List.mem_map_of_mem e)]
   ·rw [if_neg e,if_neg (fun q=>by
     refine aB (List.mem_map.mp q) fun a ma ea=>?_
     exact e (hf _ _ ea▸ma))]
    simp
  simp only [ddF,List.map_cons,List.foldl_cons,this]
  exact wD hf
theorem sC {acc xs ys:List f5}:ddF acc (xs++ys)=ddF (ddF acc xs) ys:=by simp [ddF]
theorem wA {α:Type} {g:α→List f5} {X:List f5}:∀ {is:List α} {acc:List f5},(∀ i∈is,g i=X)→(∀ x∈X,x∈acc)→ddF acc (is.flatMap g)=acc
 | [],_,_,_=>rfl
 | i :: is,acc,h,hx=>by
  rw [List.flatMap_cons,sC,h i (.head _),yV hx]
  exact wA (fun j m=>h j (.tail _ m)) hx
theorem tM {α:Type} {g:α→List f5} {X:List f5} {i:α} {is:List α} {acc:List f5} (h:∀ j∈i :: is,g j=X):ddF acc ((i :: is).flatMap g)=ddF acc X:=by
 rw [List.flatMap_cons,sC,h i (.head _)]
 exact wA (fun j m=>h j (.tail _ m)) fun x m=>sB.mpr (.inr m)
noncomputable def pre (l:Nat) (r:Nat×Nat) (w:f5):f5:=((l,r) :: w.1,w.2)
theorem xB {l:Nat} {r:Nat×Nat}:∀ a b,pre l r a=pre l r b→a=b:=fun a b h=>by
 simp only [pre,Prod.mk.injEq,List.cons.injEq,true_and] at h
 exact Prod.ext h.1 h.2
theorem tL {l:Nat} {Lc:Nat→List f5}:∀ {ps:List (Nat×Nat)} {lo top:Nat} {z:Int} {acc:List f5},z=lo - 1→aZ z ps→aN z ps=top→(∀ w∈acc,∃ lo' h r,lo' < lo∧w.1=(l,(lo',h)) :: r)→
  ddF acc ((List.range' lo (top + 1 - lo)).flatMap fun i=>(Lc ((aF ps i).getD 0)).map (pre l (runAt lo ps i)))=acc++(runsFrom lo ps).flatMap fun r=>(ddF [] (Lc r.2)).map (pre l r.1)
 | [],lo,top,z,acc,hz,hr,hl,ha=>by
  simp only [aN] at hl
  have:top + 1 - lo=0:=by lia
  rw [this]; simp [runsFrom,ddF]
 | p :: ps,lo,top,z,acc,hz,hr,hl,ha=>by
  have hp:=cz hr
  have hp1:=hr.1
  have e:top + 1 - lo=(p.1 - lo + 1) + (top + 1 - (p.1 + 1)):=by lia
  rw [e,← List.range'_append_1,List.flatMap_append,sC,show lo + (p.1 - lo + 1)=p.1 + 1 by lia,List.range'_succ]
  have X:∀ j∈lo :: List.range' (lo + 1) (p.1 - lo),(Lc ((aF (p :: ps) j).getD 0)).map (pre l (runAt lo (p :: ps) j))=(Lc p.2).map (pre l (lo,p.1)):=fun j mj=>by
   have:j≤p.1:=by
    rcases List.mem_cons.mp mj with rfl | mj
    ·lia
    ·have:=List.mem_range'_1.mp mj; lia
   simp only [aF,runAt]
   rw [if_pos this,if_pos this]; rfl
  rw [tM X]
  have h1:ddF acc ((Lc p.2).map (pre l (lo,p.1)))=acc++(ddF [] (Lc p.2)).map (pre l (lo,p.1)):=by
   have:=wC (b:=[]) (acc:=acc) (xs:=(Lc p.2).map (pre l (lo,p.1))) (fun x mx hx=>by
    refine aB (List.mem_map.mp mx) fun w mw e_1=>?_; subst e_1
    refine dB (ha _ hx) fun lo' h r hlt eq=>?_
    simp only [pre,List.cons.injEq,Prod.mk.injEq] at eq
    lia)
   rw [List.append_nil] at this
   refine (this).trans ?_
   congr 1
   have:=wD (f:=pre l (lo,p.1)) xB (xs:=Lc p.2) (acc:=[])
   simpa using this
  rw [h1]
  have Y:((List.range' (p.1 + 1) (top + 1 - (p.1 + 1))).flatMap fun i=>(Lc ((aF (p :: ps) i).getD 0)).map (pre l (runAt lo (p :: ps) i)))=(List.range' (p.1 + 1) (top + 1 - (p.1 + 1))).flatMap fun i=>(Lc ((aF ps i).getD 0)).map (pre l (runAt (p.1 + 1) ps i)):=cK fun i mi=>by
   have:=(List.mem_range'_1.mp mi).1
   simp only [aF,runAt]
   rw [if_neg (by lia),if_neg (by lia)]
  rw [Y,tL (ps:=ps) (lo:=p.1 + 1) (top:=top) (z:=p.1) (by lia) hr.2 hl (fun w mw=>by
   rcases List.mem_append.mp mw with mw | mw
   ·refine dB (ha w mw) fun lo' h r hlt eq=>?_
    exact (fc lo' h r (by lia) eq)
   ·refine aB (List.mem_map.mp mw) fun v zz e_2=>?_; subst e_2
    exact (fc lo p.1 v.1 (by lia) rfl))]
  simp only [runsFrom,List.flatMap_cons,List.append_assoc]
section
variable {D:Dia} {n l i:Nat}
noncomputable def Dia.wayF (D:Dia) (l n:Nat) (c:List Nat):f5:=(D.pathOf l n c,D.val l n c)
theorem uu (t:Nat):List.range (t + 1)=List.range' 0 (t + 1 - 0):=by refine (List.range_eq_range').trans ?_; rfl
theorem wx (w:WF D):∀ (k:Nat) {l n:Nat},l + k=3→n < D.nodes.length→l≤D.lev n→ddF [] ((cellsL (D.tops.drop l)).map (D.wayF l n))=D.waysP k l n:=by
 intro k
 induction k with
 | zero=>
  intro l n hl hn ln
  have h3:l=3:=by assumption
  subst h3
  have:D.tops.drop 3=[]:=by refine dB w.tops fun a b c e zz=>?_; rw [e]; rfl
  rw [this]
  rfl
 | succ k ih=>
  intro l n hl hn ln
  have hl3:l < 3:=by exact yD ‹_›
  rw [om w hl3]
  simp only [cellsL,List.map_flatMap,List.map_map,Dia.waysP]
  by_cases e:D.lev n=l
  ·rw [if_pos e]
   obtain ⟨ps,g⟩:=dZ w hn e hl3
   refine dR (w.inner n l ps g) fun h1 h2 h3 h4 h5=>?_
   have ep:D.parts n=ps:=by unfold Dia.parts; rw [g]
   rw [ep]
   have A:((List.range (D.top l + 1)).flatMap fun i=>(cellsL (D.tops.drop (l + 1))).map (D.wayF l n ∘ fun x=>i :: x))=(List.range' 0 (D.top l + 1 - 0)).flatMap fun i=>((cellsL (D.tops.drop (l + 1))).map (D.wayF (l + 1) ((aF ps i).getD 0))).map (pre l (runAt 0 ps i)):=by
    rw [uu]
    refine cK fun i mi=>?_
    rw [List.map_map]
    refine List.map_congr_left fun c zz=>?_
    have es:D.sub l n i=(aF ps i).getD 0:=by unfold Dia.sub; rw [g]; simp
    simp only [Function.comp,Dia.wayF,Dia.pathOf,Dia.val,e,if_true,es,pre,Dia.runN,ep,List.cons_append,List.nil_append]
   rw [A,tL (Lc:=fun c=>(cellsL (D.tops.drop (l + 1))).map (D.wayF (l + 1) c)) (z:=-1) (by decide) h2.rise h2.last (by simp)]
   simp only [List.nil_append]
   refine cK fun r mr=>?_
   refine aB (iw mr) fun p mp epp=>?_
   have hp:=h5 p mp
   rw [← epp,ih (by exact sS ‹_›) (by exact u9 ‹_› ‹_›) (by lia)]
   rfl
  ·rw [if_neg e]
   have A:((List.range (D.top l + 1)).flatMap fun i=>(cellsL (D.tops.drop (l + 1))).map (D.wayF l n ∘ fun x=>i :: x))=(0 :: List.range' 1 (D.top l)).flatMap fun zz=>(cellsL (D.tops.drop (l + 1))).map (D.wayF (l + 1) n):=by
    rw [List.range_eq_range',List.range'_succ]
    refine cK fun i mi=>?_
    refine List.map_congr_left fun c zz=>?_
    simp only [Function.comp,Dia.wayF,Dia.pathOf,Dia.val,e,if_false,dF (fun q=>e q.symm) hl3,List.nil_append]
   rw [A,tM fun zz zz=>rfl]
   exact ih (by exact sS ‹_›) hn (by lia)
end
section
variable {D:Dia} {n l i:Nat}
theorem mQ (w:WF D):∀ {c:List Nat} {l n:Nat},n < D.nodes.length→l≤D.lev n→D.Box l c→n∈D.visOf l n c
 | [],l,n,_,_,_=>by simp [Dia.visOf]
 | i :: c,l,n,hn,hl,hb=>by
  simp only [Dia.visOf]
  by_cases e:D.lev n=l
  ·rw [if_pos e]; simp
  ·rw [if_neg e,dF (fun q=>e q.symm) hb.1]
   exact mQ w hn (by lia) hb.2.2
theorem qB:∀ {ps:List (Nat×Nat)} {a:Int} {p:Nat×Nat},aZ a ps→p∈ps→aF ps p.1=some p.2∧(p.1:Int)≤aN a ps∧a < p.1
 | q :: ps,a,p,hr,m=>by
  rcases List.mem_cons.mp m with rfl | m
  ·exact (cw (by simp only [aF]; rw [if_pos (Nat.le_refl _)]) (cz hr) hr.1)
  ·refine gD (qB hr.2 m) fun h1 h2 h3=>?_
   have:=hr.1
   exact (cw (by simp only [aF]; refine (if_neg (by lia)).trans ?_; exact h1) h2 (by lia))
 | [],_,_,_,m=>by exact (List.not_mem_nil m).elim
theorem pY (w:WF D) {x k:Nat} {ps:List (Nat×Nat)} {p:Nat×Nat} (g:D.nodes[k]?=some (.inner x ps)) (mp:p∈ps):∀ {c:List Nat} {l n:Nat},n < D.nodes.length→l≤D.lev n→D.Box l c→k∈D.visOf l n c→∃ c',D.Box l c'∧p.2∈D.visOf l n c'
 | [],l,n,hn,hl,hb,hk=>by
  simp only [Dia.visOf,List.mem_singleton] at hk
  subst hk
  have:l=3:=hb
  have h1:=(w.inner k x ps g).1
  have e:D.lev k=x:=cE g
  lia
 | i :: c,l,n,hn,hl,hb,hk=>by
  simp only [Dia.visOf,List.mem_append] at hk
  rcases hk with hk | hk
  ·split at hk
   ·rename_i e
    simp only [List.mem_singleton] at hk
    subst hk
    have ex:D.lev k=x:=cE g
    have hx:x=l:=by lia
    subst hx
    refine bc fun hn=>?_
    refine dR (w.inner k x ps g) fun h1 h2 h3 h4 h5=>?_
    refine gD (qB h2.rise mp) fun e1 e2 e3=>?_
    refine hn ?_
    rw [h2.last] at e2
    have hp:=h5 p mp
    have es:D.sub x k p.1=p.2:=by unfold Dia.sub; rw [g]; simp [e1]
    refine (m1a2 (p.1 :: c) (cw hb.1 (by exact zg ‹_›) hb.2.2) ?_)
    simp only [Dia.visOf,es,List.mem_append]
    exact .inr (mQ w (by exact u9 ‹_› ‹_›) (by lia) hb.2.2)
   ·exact (List.not_mem_nil hk).elim
  ·refine aB (pY w g mp (w.sub_lt hn hb.2.1) (mH w hb.1 hn hl hb.2.1) hb.2.2 hk) fun c' b' m'=>?_
   exact (m1a2 (i :: c') (cw hb.1 hb.2.1 b') (by simp only [Dia.visOf,List.mem_append]; exact .inr m'))
theorem qr {a b c:Nat} (h:Reach D a b) (k:Reach D b c):Reach D a c:=by
 induction k with
 | refl=>exact h
 | step _ g m ih=>exact .step ih g m
theorem ug (w:WF D) (hn:n < D.nodes.length) (hi:i≤D.top l):Reach D n (D.sub l n i):=by
 have g:=List.getElem?_eq_getElem hn
 induction e:D.nodes[n] using Nd.casesOn with
 | leaf v=>rw [e] at g; unfold Dia.sub; rw [g]; exact .refl
 | inner x ps=>
  rw [e] at g
  unfold Dia.sub; rw [g]
  simp only
  split
  ·rename_i q
   subst q
   refine aB ((w.inner n x ps g).2.1.part hi) fun c hc t_1=>?_; refine aB t_1 fun p mp ep=>?_
   rw [hc,← ep]; exact .step .refl g mp
  ·exact .refl
theorem ol (w:WF D):∀ {c:List Nat} {l n:Nat},n < D.nodes.length→D.Box l c→∀ k∈D.visOf l n c,Reach D n k
 | [],l,n,_,_,k,hk=>by simp only [Dia.visOf,List.mem_singleton] at hk; subst hk; exact .refl
 | i :: c,l,n,hn,hb,k,hk=>by
  simp only [Dia.visOf,List.mem_append] at hk
  rcases hk with hk | hk
  ·split at hk
   ·simp only [List.mem_singleton] at hk; subst hk; exact .refl
   ·exact (List.not_mem_nil hk).elim
  ·exact qr (ug w hn hb.2.1) (ol w (w.sub_lt hn hb.2.1) hb.2.2 k hk)
theorem ur (w:WF D) (hn:n < D.nodes.length) {k:Nat} (h:Reach D n k) (hne:∃ c,D.Box 0 c):∃ c,D.Box 0 c∧k∈D.visOf 0 n c:=by
 induction h with
 | refl=>obtain ⟨c,hc⟩:=hne; exact (m1a2 c hc (mQ w hn (Nat.zero_le _) hc))
 | step _ g mp ih=>
  refine aB ih fun c hc hk=>?_; clear ih
  exact pY w g mp hn (Nat.zero_le _) hc hk
noncomputable def metAll (D:Dia) (n:Nat) (M:List Nat) (cells:List (List Nat)):List Nat:=cells.foldl (fun M c=>(D.visOf 0 n c).foldl addM M) M
theorem jU {k:Nat}:∀ {vs M:List Nat},k∈vs.foldl addM M ↔ k∈M∨k∈vs
 | [],M=>by simp
 | v :: vs,M=>by simp only [List.foldl_cons]; rw [jU,kM]; simp [or_assoc]
theorem kO:∀ {vs M:List Nat},M.Nodup→(vs.foldl addM M).Nodup
 | [],M,h=>h
 | v :: vs,M,h=>by simp only [List.foldl_cons]; exact kO (sJ h)
theorem nY:∀ {vs M:List Nat},(vs.foldl addM M).length≤M.length + vs.length
 | [],M=>by simp
 | v :: vs,M=>by
  have h1:=nY (vs:=vs) (M:=addM M v)
  have h2:=kN (M:=M) (n:=v)
  simp only [List.foldl_cons,List.length_cons]; lia
theorem tz {k:Nat}:∀ {cells:List (List Nat)} {M:List Nat},k∈metAll D n M cells ↔ k∈M∨∃ c∈cells,k∈D.visOf 0 n c
 | [],M=>by simp [metAll]
 | c :: cells,M=>by
  have:=tz (k:=k) (cells:=cells) (M:=(D.visOf 0 n c).foldl addM M)
  simp only [metAll,List.foldl_cons] at this ⊢
  rw [this,jU]; simp [or_assoc]
theorem oJ:∀ {cells:List (List Nat)} {M:List Nat},M.Nodup→(metAll D n M cells).Nodup
 | [],M,h=>h
 | c :: cells,M,h=>oJ (cells:=cells) (kO h)
theorem nq:∀ {xs ys:List Nat},xs.Nodup→(∀ x∈xs,x∈ys)→xs.length≤ys.length
 | [],_,_,_=>by simp
 | x :: xs,ys,nd,h=>by
  obtain ⟨n1,n2⟩:=List.nodup_cons.mp nd
  have hx:=h x (.head _)
  have:=nq (xs:=xs) (ys:=ys.erase x) n2 (fun y m=>(List.mem_erase_of_ne (a:=y) (b:=x) (fun e=>n1 (by rw [← e]; exact m))).mpr (h y (.tail _ m)))
  rw [List.length_erase_of_mem hx] at this
  have:0 < ys.length:=List.length_pos_of_mem hx
  simp only [List.length_cons]; exact Gc ‹_› ‹_›
theorem qH (w:WF D) (hn:n < D.nodes.length) {cells:List (List Nat)} (hc:∀ c,D.Box 0 c ↔ c∈cells) (hne:∃ c,D.Box 0 c) {seen:List Nat} (hs:seen.Nodup) (hr:∀ k,k∈seen ↔ Reach D n k):seen.length=(metAll D n [] cells).length:=by
 have h1:∀ k,k∈metAll D n [] cells ↔ Reach D n k:=fun k=>by
  refine (tz).trans ?_
  constructor
  ·rintro (h | ⟨c,mc,hk⟩)
   ·exact (List.not_mem_nil h).elim
   ·exact ol w hn ((hc c).mpr mc) k hk
  ·intro h
   refine aB (ur w hn h hne) fun c hb hk=>?_
   exact .inr (m1a2 c ((hc c).mp hb) hk)
 exact Nat.le_antisymm (nq hs fun k m=>(h1 k).mpr ((hr k).mp m)) (nq (oJ List.nodup_nil) fun k m=>(hr k).mpr ((h1 k).mp m))
theorem sU:∀ {c:List Nat} {l n:Nat},(D.visOf l n c).length≤c.length + 1
 | [],_,_=>by simp [Dia.visOf]
 | i :: c,l,n=>by
  have:=sU (c:=c) (l:=l + 1) (n:=D.sub l n i)
  simp only [Dia.visOf,List.length_append,List.length_cons]
  split <;> simp <;> lia
theorem vo (w:WF D):∀ {c:List Nat} {l n:Nat},n < D.nodes.length→D.Box l c→∀ k∈D.visOf l n c,k < D.nodes.length
 | [],l,n,hn,_,k,hk=>by simp only [Dia.visOf,List.mem_singleton] at hk; subst hk; exact hn
 | i :: c,l,n,hn,hb,k,hk=>by
  simp only [Dia.visOf,List.mem_append] at hk
  rcases hk with hk | hk
  ·split at hk
   ·simp only [List.mem_singleton] at hk; subst hk; exact hn
   ·exact (List.not_mem_nil hk).elim
  ·exact vo w (w.sub_lt hn hb.2.1) hb.2.2 k hk
end
theorem yb (e:Nat×(Nat×Nat)):Kk 2 (entD e):=Kk.tup fun x m=>by
 simp at m
 rcases m with rfl | rfl
 ·exact Kk.int
 ·exact Kk.tup fun y q=>by simp at q; rcases q with rfl | rfl <;> exact Kk.int
theorem pk {w:f5} (h:Val w.2):Kk 4 (dm w):=Kk.tup fun x m=>by
 simp at m
 rcases m with rfl | rfl
 ·exact Kk.tup fun y q=>by refine aB (List.mem_map.mp q) fun e zz e_1=>?_; subst e_1; exact yb e
 ·exact h.le (by decide)
theorem wr {a b:Nat×(Nat×Nat)} (h:entD a=entD b):a=b:=by
 simp only [entD,PyData.tuple.injEq,List.cons.injEq,PyData.int.injEq,and_true] at h
 exact Prod.ext (by lia) (Prod.ext (by lia) (by lia))
theorem vk {a b:f5} (h:dm a=dm b):a=b:=by
 simp only [dm,dP,PyData.tuple.injEq,List.cons.injEq,and_true] at h
 exact Prod.ext (pz (fun zz zz=>wr) h.1) h.2
section
variable {W m b:Nat} {D:Dia} {n l i:Nat} {σ:AS}
noncomputable def shS (b number:Nat) (cv tv:PyData) (K:List AO) (D:Dia) (M:List Nat) (due:List f5) (l6 l7:Option AV):AS:=
 { loc:=[some (.o b),some (.d (iD number)),some (.d cv),some (.d tv),some (.o K.length),some (.o (K.length + 1)),l6,l7,none,none,none,none],out:=[],heap:=K++[.list (M.map D.mkey),.list (due.map dm)] }
noncomputable def shB:List S:=[.assign (.loc 7) (.call 22 [(.loc 3),(.attr (.loc 0) 0),(.loc 6),(.loc 4)]),
   .ite (.cmp .notin (.loc 7) (.loc 5))
    [.expr (.append (.loc 5) (.loc 7))]
    []]
theorem xu {cv:PyData} {K:List AO} {M:List Nat} {due:List f5} {l6 l7:Option AV} {bj bx bH:Nat} (hW:100≤W) (w:WF D) (h:HoldsAt b D K) (hn:n < D.nodes.length) (hb:D.Box 0 [bj,bx,bH]) (hM:∀ k∈M,k < D.nodes.length) (hml:M.length≤900) (hdl:due.length≤900) (hdv:∀ w∈due,Val w.2):
  ∃ u v,forTurn prog W (m + 100) (.loc 6) shB (cellD [bj,bx,bH]) (shS b n cv (.list (D.tab 0 D.tops n)) K D M due l6 l7)=some (.next,shS b n cv (.list (D.tab 0 D.tops n)) K D ((D.visOf 0 n [bj,bx,bH]).foldl addM M) (gB due (D.wayF 0 n [bj,bx,bH])) u v):=by
 have g0:∀ x y:AO,(K++[x,y])[K.length]?=some x:=fun x y=>Be
 have g1:∀ x y:AO,(K++[x,y])[K.length + 1]?=some y:=fun x y=>xZ
 have s0:∀ x y z:AO,(K++[x,y]).set K.length z=K++[z,y]:=fun x y z=>Dn
 have s1:∀ x y z:AO,(K++[x,y]).set (K.length + 1) z=K++[x,z]:=fun x y z=>A9
 have wc:=fun (loc:List (Option AV)) (j:Nat)=>vj (W:=W) (m:=j) (σ:={ loc:=loc,out:=[],heap:=K++[.list (M.map D.mkey),.list (due.map dm)] }) hW w hn hb (g0 _ _) hM hml
 simp only [s0] at wc
 have hv:Val (D.wayF 0 n [bj,bx,bH]).2:=jX w hn (Nat.zero_le _) hb
 have sf:=(h.app [.list (M.map D.mkey),.list (due.map dm)]).self
 generalize hM':(D.visOf 0 n [bj,bx,bH]).foldl addM M=M' at wc
 have ew:(D.pathOf 0 n [bj,bx,bH],D.val 0 n [bj,bx,bH])=D.wayF 0 n [bj,bx,bH]:=rfl
 rw [ew] at wc
 generalize D.wayF 0 n [bj,bx,bH]=wy at wc hv
 have hin:∀ loc,isIn { loc:=loc,out:=[],heap:=K++[.list (M'.map D.mkey),.list (due.map dm)] } (dm wy) (.o (K.length + 1))=some (decide (dm wy∈due.map dm)):=fun loc=>lg (g1 _ _) (pk hv).ok (by decide) (fun x mx=>by
  refine aB (List.mem_map.mp mx) fun v mv e_2=>?_; subst e_2
  exact (pk (hdv v mv)).ok.1)
 have iff:dm wy∈due.map dm ↔ wy∈due:=⟨fun q=>by refine aB (List.mem_map.mp q) fun v mv e=>?_; exact vk e▸mv,fun q=>List.mem_map_of_mem q⟩
 refine (bV (some (.d (cellD [bj,bx,bH]))) (some (.d (dm wy))) ?_)
 by_cases e:wy∈due
 ·have e':=iff.mpr e
  simp only [e',decide_true] at hin
  have ea:gB due wy=due:=if_pos e
  rw [ea]
  simp only [forTurn,shB,shS,aq,am,av,aS,aK,af,bl,aM,aH,aC,ai,ag,ae,aE,aP,aV,aL,fA,cM,eM,aR,db,bG,bf,AS.setLoc,AS.put,List.getElem?_cons_zero,List.getElem?_cons_succ,List.set_cons_zero,List.set_cons_succ,cB,sf,wc,cX,hin,Option.map_some,Bool.not_true]
 ·have e':¬ dm wy∈due.map dm:=fun q=>e (iff.mp q)
  simp only [e',decide_false] at hin
  have ea:gB due wy=due++[wy]:=if_neg e
  rw [ea]
  simp only [forTurn,shB,shS,aq,am,av,aS,aK,af,bl,aM,aH,aC,ai,ag,ae,aE,aP,bJ,aV,aL,fA,cM,dW,eM,aR,cU,bG,bf,AS.setLoc,az,AS.put,List.getElem?_cons_zero,List.getElem?_cons_succ,List.set_cons_zero,List.set_cons_succ,List.map_cons,List.map_nil,if_true,cB,sf,wc,cX,hin,Option.map_some,Bool.not_false,g1,s1,List.length_map,(show due.length < 1000000 by exact og ‹_› rfl),List.map_append]
theorem nX {acc:List f5} {w:f5}:(gB acc w).length≤acc.length + 1:=by
 unfold gB; split <;> simp
theorem jk {D:Dia} {c:List Nat} (h:D.Box 0 c):∃ x y z,c=[x,y,z]:=by
 induction c using List.casesOn with
 | nil=>exact absurd h (show ¬ (0:Nat)=3 by decide)
 | cons a c=>induction c using List.casesOn with
  | nil=>exact absurd h.2.2 (show ¬ (1:Nat)=3 by decide)
  | cons b c=>induction c using List.casesOn with
   | nil=>exact absurd h.2.2.2.2 (show ¬ (2:Nat)=3 by decide)
   | cons d c=>induction c using List.casesOn with
    | nil=>exact (pC a b d rfl)
    | cons e c=>exact absurd h.2.2.2.2.2.2.1 (show ¬ (3:Nat) < 3 by decide)
theorem s7 {cv:PyData} {K:List AO} (hW:100≤W) (w:WF D) (h:HoldsAt b D K) (hn:n < D.nodes.length):∀ {cells:List (List Nat)} {M:List Nat} {due:List f5} {l6 l7:Option AV},(∀ c∈cells,D.Box 0 c)→(∀ k∈M,k < D.nodes.length)→M.length + 4 * cells.length≤900→due.length + cells.length≤900→(∀ w∈due,Val w.2)→
  ∃ u v,forItems (forTurn prog W (m + 100) (.loc 6) shB) (cells.map cellD) (shS b n cv (.list (D.tab 0 D.tops n)) K D M due l6 l7)=some (.next,shS b n cv (.list (D.tab 0 D.tops n)) K D (metAll D n M cells) (ddF due (cells.map (D.wayF 0 n))) u v)
 | [],M,due,l6,l7,_,_,_,_,_=>(bV l6 l7 rfl)
 | c :: cells,M,due,l6,l7,hb,hM,h1,h2,hv=>by
  have hbc:=hb c (.head _)
  refine n5 (jk hbc) fun bj bx bH ec=>?_; subst ec
  simp only [List.length_cons] at h1 h2
  refine cG (xu (W:=W) (m:=m) (cv:=cv) (M:=M) (due:=due) (l6:=l6) (l7:=l7) hW w h hn hbc hM (by exact lC ‹_›) (by exact lC ‹_›) hv) fun u v e=>?_
  have vl:=sU (D:=D) (c:=[bj,bx,bH]) (l:=0) (n:=n)
  have al:=nY (vs:=D.visOf 0 n [bj,bx,bH]) (M:=M)
  have wl:=nX (acc:=due) (w:=D.wayF 0 n [bj,bx,bH])
  simp only [List.length_cons,List.length_nil] at vl
  refine cG (s7 (cv:=cv) hW w h hn (cells:=cells) (M:=(D.visOf 0 n [bj,bx,bH]).foldl addM M) (due:=gB due (D.wayF 0 n [bj,bx,bH])) (l6:=u) (l7:=v) (fun c mc=>hb c (.tail _ mc)) (fun k mk=>by
   rcases jU.mp mk with q | q
   ·exact hM k q
   ·exact vo w hn hbc k q) (by lia) (by exact DM ‹_› ‹_›) (fun x mx=>by
   rcases rD.mp mx with q | rfl
   ·exact hv x q
   ·exact jX w hn (Nat.zero_le _) hbc)) fun u' v' e'=>?_
  refine (bV u' v' ?_)
  simp only [List.map_cons,forItems,e]
  exact e'
theorem rV (hW:9500≤W) (w:WF D) (h:HoldsAt b D σ.heap) (hc:aI σ.heap=true) (F:Fits D) (hN:D.nodes.length≤8900) (hn:n < D.nodes.length) {cells:List (List Nat)} (hcells:cells=cellsL D.tops):
  callF prog W (m + 120) 23 [.o b,.d (iD n),.d (.list (cells.map cellD)),.d (.list (D.tab 0 D.tops n))] σ=some (.d (.bool true),σ):=by
 obtain ⟨q1,q2⟩:=jh w (l:=0) (by decide)
 have bc:∀ c,D.Box 0 c ↔ c∈cells:=fun c=>by
  rw [hcells]
  exact gO (ts:=D.tops) (l:=0) (c:=c) q1 q2
 have clen:cells.length≤125:=by rw [hcells,fh]; exact (mP w (l:=0) (by decide)).1
 have hne:∃ c,D.Box 0 c:=⟨[0,0,0],(qL (by decide) (Nat.zero_le _) (by decide) (Nat.zero_le _) (by decide) (Nat.zero_le _) rfl)⟩
 refine cG (s7 (W:=W) (m:=m + 15) (cv:=.list (cells.map cellD)) (l6:=none) (l7:=none) (by exact zi ‹_› rfl) w h hn (cells:=cells) (M:=[]) (due:=[]) (fun c mc=>(bc c).mpr mc) (by simp) (by simp only [List.length_nil]; lia) (by simp only [List.length_nil]; exact y7 ‹_› rfl) (by simp)) fun u v loop=>?_
 have hdue:ddF [] (cells.map (D.wayF 0 n))=D.waysN n:=by
  rw [hcells]
  have:=wx w 3 (l:=0) rfl hn (Nat.zero_le _)
  rw [show D.tops.drop 0=D.tops from rfl] at this
  refine (this).trans ?_
  exact gS hn w rfl (Nat.zero_le _)
 rw [hdue] at loop
 have dl:(D.waysN n).length≤900:=by
  rw [← hdue]
  have:∀ (xs:List f5) (acc:List f5),(ddF acc xs).length≤acc.length + xs.length:=by
   intro xs
   induction xs with
   | nil=>intro acc; simp
   | cons x xs ih=>intro acc; have h1:=ih (gB acc x); have h2:=nX (acc:=acc) (w:=x); simp only [ddF,List.foldl_cons,List.length_cons] at h1 ⊢; lia
  have:=this (cells.map (D.wayF 0 n)) []
  simp only [List.length_nil,List.length_map] at this
  lia
 have dv:∀ x∈D.waysN n,Val x.2:=fun x mx=>by
  rw [← hdue,sB] at mx
  rcases mx with q | q
  ·exact (List.not_mem_nil q).elim
  ·refine aB (List.mem_map.mp q) fun c mc e_3=>?_; subst e_3
   exact jX w hn (Nat.zero_le _) ((bc c).mpr mc)
 generalize hMM:metAll D n [] cells=MM at loop
 have g0:∀ x y:AO,(σ.heap++[x,y])[σ.heap.length]?=some x:=fun x y=>Be
 have g1:∀ x y:AO,(σ.heap++[x,y])[σ.heap.length + 1]?=some y:=fun x y=>xZ
 have hcl:∀ x y:List PyData,aI (σ.heap++[.list x,.list y])=true:=fun x y=>c8 hc (by simp [plainO])
 have wc:=fun (loc:List (Option AV)) (j:Nat)=>oi (W:=W) (n:=j) (σ:={ loc:=loc,out:=[],heap:=σ.heap++[.list (MM.map D.mkey),.list ((D.waysN n).map dm)] }) (most:=(D.waysN n).length) (by exact zi ‹_› rfl) w (h.app _) (hcl _ _) F (by exact zb1 ‹_› rfl) hn (Nat.le_refl _)
 have zc:=fun (loc:List (Option AV)) (j:Nat)=>ui (W:=W) (n:=j) (σ:={ loc:=loc,out:=[],heap:=σ.heap++[.list (MM.map D.mkey),.list ((D.waysN n).map dm)] }) (by exact zi ‹_› rfl) w (h.app _) (hcl _ _) F hN hn
 have zc':∀ (loc:List (Option AV)) (j:Nat),callF prog W (j + 40) 11 [.o b,.d (iD n)] { loc:=loc,out:=[],heap:=σ.heap++[.list (MM.map D.mkey),.list ((D.waysN n).map dm)] }=some (.d (iD MM.length),{ loc:=loc,out:=[],heap:=σ.heap++[.list (MM.map D.mkey),.list ((D.waysN n).map dm)] }):=fun loc j=>by
  refine fq (zc loc j) fun seen s1 s2 s3=>?_
  rw [s3,qH w hn bc hne s1 s2,hMM]
 have ml:MM.length≤2000000:=by
  refine fq (zc [] 0) fun seen s1 s2 zz=>?_
  rw [← hMM,← qH w hn bc hne s1 s2]
  have:=nu s1 (N:=D.nodes.length) (fun k mk=>by
   have:=(s2 k).mp mk
   clear zc wc
   induction this with
   | refl=>exact hn
   | step hr g mp ih=>
    have hl:=(List.getElem?_eq_some_iff.mp g).1
    have:=((w.inner _ _ _ g).2.2.2.2 _ mp).1
    exact DY ‹_› ‹_›)
  exact Bi ‹_› ‹_› rfl
 have ce:∀ loc,cmpV { loc:=loc,out:=[],heap:=σ.heap++[.list (MM.map D.mkey),.list ((D.waysN n).map dm)] } .eq (.d (.list ((D.waysN n).map dm))) (.o (σ.heap.length + 1))=some true:=fun loc=>by
  have o:Ok 5 (.list ((D.waysN n).map dm)):=Ok.list fun x mx=>by
   refine aB (List.mem_map.mp mx) fun y my e_4=>?_; subst e_4
   exact (pk (dv y my)).ok
  have e1:cmpV { loc:=loc,out:=[],heap:=σ.heap++[.list (MM.map D.mkey),.list ((D.waysN n).map dm)] } .eq (.d (.list ((D.waysN n).map dm))) (.o (σ.heap.length + 1))=cmpV σ .eq (.d (.list ((D.waysN n).map dm))) (.d (.list ((D.waysN n).map dm))):=by
   simp only [cmpV,AS.look,g1]
  rw [e1,iR o.eq o.eq]; simp
 refine (bh (fd:=⟨4,12,b_lis_shown⟩) rfl rfl).trans ?_
 simp only [shS,shB,List.map_nil] at loop
 simp only [b_lis_shown,aq,am,av,bm,aO,af,uP,sx,aM,br,bg,ai,ag,bq,ae,aE,aP,aW,aV,aL,aR,Fj,bG,cT,iU,jr,ef,cn,bf,cj,AS.setLoc,az,AS.freezeAll,AS.alloc,List.getElem?_cons_zero,List.getElem?_cons_succ,List.set_cons_zero,List.set_cons_succ,List.length_cons,List.length_nil,List.map_cons,List.map_nil,List.cons_append,List.nil_append,List.replicate,Nat.reduceAdd,Nat.reduceSub,if_true,dz,List.append_assoc,List.length_append,loop,g0,g1,List.length_map,(show (D.waysN n).length≤2000000 by exact zb1 ‹_› rfl),wc,ce,zc',ml,mD (show (MM.length:Int)=MM.length from rfl),di hc]
end
section
variable {W n b:Nat} {σ:AS}
noncomputable def uw:List Int:=[0,0,0,1,1,0,5,8,0,18,19,13,7,0,12,0,0,30]
noncomputable def bP (ns:List Int):List Int:=(List.range 18).map fun k=>(uw[k]?).getD 0 + (ns[k]?).getD 0
theorem dK {xs:List Int} {k:Nat} (h:k < xs.length) (hl:xs.length≤1000):itemAt (xs.map .int) (k:Int)=some (.int ((xs[k]?).getD 0)):=
 dy (by simp [List.getElem?_eq_getElem h]) (by simp; exact zb1 ‹_› rfl)
theorem sy {ns:List Int} (hl:ns.length≤63) (hc:aI σ.heap=true):callF prog W (n + 40) 13 [.d (.list (ns.map .int))] σ=some (.d (.list ((bP ns).map .int)),σ):=by
 refine (bh (fd:=⟨1,4,b_ldrawn⟩) rfl rfl).trans ?_
 refine aB (nM (enc:=iD) (g:=fun k=>.int ((uw[k]?).getD 0 + (ns[k]?).getD 0)) (S:=fun loc=>∃ a b c d e,loc=[a,b,c,d,e]) (turn:=Dg.compTurn prog W (n + 35) (.bin .add (.sub (.out 1) (.loc 1)) (.ife (.cmp .lt (.loc 1) (.len (.out 0))) (.sub (.out 0) (.loc 1)) (.int 0))) (.loc 1) [] [])
  (out:=[some (.d (.list (ns.map .int))),some (.o σ.heap.length),none,none]) (H:=σ.heap++[.list (uw.map .int)]) (xs:=List.range 18) (acc:=[]) (loc:=List.replicate 5 none) (fun k m acc loc hS ha=>by
  refine pg hS fun a b c d e e_1=>?_; clear hS; subst e_1
  have hk:k < 18:=by simpa using m
  have i1:=dK (xs:=uw) (k:=k) hk (by decide)
  refine (m1a2 [a,some (.d (iD k)),c,d,e] (pB _ _ _ _ _ rfl) ?_)
  by_cases q:k < ns.length
  ·have i2:=dK (xs:=ns) (k:=k) q (by exact zb1 ‹_› rfl)
   simp only [bd,ay,af,bM,aQ,cW,br,aD,aC,bb,ae,aE,bJ,aV,aY,aL,bZ,aR,cU,mf,bf,cV,AS.setLoc,az,List.getElem?_cons_zero,List.getElem?_cons_succ,List.set_cons_zero,List.set_cons_succ,if_true,dz,cB,eS,dp,eO,jK,i1,List.length_map,(show ns.length≤2000000 by exact zb1 ‹_› rfl),z5 (show (k:Int) < ns.length by exact Bs ‹_›),i2,cg,ha]
  ·have i2:(ns[k]?).getD 0=0:=by rw [List.getElem?_eq_none (by exact Gh ‹_›)]; rfl
   simp only [bd,ay,af,bM,aQ,cW,br,aD,aC,bb,ae,aE,bJ,aV,aY,aL,bZ,aR,cU,db,mf,bf,cV,AS.setLoc,az,List.getElem?_cons_zero,List.getElem?_cons_succ,List.set_cons_zero,List.set_cons_succ,if_true,dz,cB,eS,eO,jK,i1,List.length_map,(show ns.length≤2000000 by exact zb1 ‹_› rfl),B5 (show ¬ (k:Int) < ns.length by lia),i2,cg,ha]) (pB _ _ _ _ _ rfl) (by decide)) fun loc' zz e=>?_
 have r18:gX [.int 18]=some ((List.range 18).map iD):=qt (n:=18) (by decide)
 have eo:uw.map PyData.int=[.int 0,.int 0,.int 0,.int 1,.int 1,.int 0,.int 5,.int 8,.int 0,.int 18,.int 19,.int 13,.int 7,.int 0,.int 12,.int 0,.int 0,.int 30]:=rfl
 have et:(bP ns).map PyData.int=(List.range 18).map fun k=>.int ((uw[k]?).getD 0 + (ns[k]?).getD 0):=by unfold bP; refine (List.map_map).trans ?_; rfl
 have c18:((18:Nat):Int)=18:=rfl
 rw [et]
 rw [eo] at e
 simp only [List.replicate] at e
 simp only [b_ldrawn,aq,am,av,aO,ay,af,br,bg,bu,ai,ag,eg,ae,aE,aP,aW,aL,gP,aR,bG,cT,iU,jr,cn,bf,cj,AS.setLoc,az,AS.freezeAll,AS.alloc,List.getElem?_cons_zero,List.getElem?_cons_succ,List.set_cons_zero,List.set_cons_succ,List.length_cons,List.length_nil,List.map_cons,List.map_nil,List.cons_append,List.nil_append,List.replicate,Nat.reduceAdd,Nat.reduceSub,if_true,dz,Nat.reduceLeDiff,eS,c18,r18,e]
 rw [di hc]
theorem fw (x:Int) (k:Nat) (h:0 < k):∃ a:Nat,x.fmod k=(a:Int)∧a < k:=by
 have h1:=Int.fmod_nonneg_of_pos x (b:=(k:Int)) (by exact Fx ‹_›)
 have h2:=Int.fmod_lt_of_pos x (b:=(k:Int)) (by exact Fx ‹_›)
 exact (m1a2 ((x.fmod k).toNat) (by exact Gb ‹_›) (by exact DL ‹_› ‹_›))
theorem ei {x y:Int} (h:y≠0):binD .mod (.int x) (.int y)=some (.int (x.fmod y)):=if_neg h
theorem ls {x y:Int} (h:y≠0) (h2:y.natAbs≤1000):binD .fdiv (.int x) (.int y)=some (.int (x.fdiv y)):=if_pos ⟨h,by unfold cB; exact zb1 ‹_› rfl⟩
theorem tA (a c:Nat):(if (a:Int) < c then (c:Int) else a)=((max a c:Nat):Int):=by
 split <;> lia
theorem rU {x:Int} {top:Nat} (ht:top≤4):∃ sp,SpOk top sp∧∀ (n:Nat) (σ:AS),aI σ.heap=true→callF prog W (n + 30) 14 [.d (.int x),.d (iD top)] σ=some (.d (.list (sp.map partD)),σ):=by
 refine bc fun hn=>?_
 refine aB (fw x (top + 2) (by exact yC)) fun a ea la=>?_
 refine aB (fw (x.fdiv 5) (top + 2) (by exact yC)) fun c ec lc=>?_
 refine aB (fw (x.fdiv 50) (top + 1) (by exact yC)) fun d ed ld=>?_
 refine hn ?_
 have e2:((top + 2:Nat):Int)=(top:Int) + 2:=by exact rfl
 have e1:((top + 1:Nat):Int)=(top:Int) + 1:=by exact rfl
 rw [e2] at ea ec
 rw [e1] at ed
 have m1:binD .mod (.int x) (.int ((top:Int) + 2))=some (iD a):=by rw [ei (by lia),ea]
 have m2:binD .mod (.int (x.fdiv 5)) (.int ((top:Int) + 2))=some (iD c):=by rw [ei (by lia),ec]
 have m3:binD .mod (.int (x.fdiv 50)) (.int ((top:Int) + 1))=some (iD d):=by rw [ei (by lia),ed]
 have f1:binD .fdiv (.int x) (.int 5)=some (.int (x.fdiv 5)):=ls (by decide) (by decide)
 have f2:binD .fdiv (.int x) (.int 25)=some (.int (x.fdiv 25)):=ls (by decide) (by decide)
 have f3:binD .fdiv (.int x) (.int 50)=some (.int (x.fdiv 50)):=ls (by decide) (by decide)
 have m4:binD .mod (.int (x.fdiv 25)) (.int 2)=some (.int ((x.fdiv 25).fmod 2)):=ei (by decide)
 by_cases q:(x.fdiv 25).fmod 2=1
 ·refine (m1a2 [(min a c,max a c),(0,d)] (.two (by exact Fs) (by lia) (by exact zh ‹_›)) (fun n σ hc=>?_))
  refine (bh (fd:=⟨2,7,b_lspans⟩) rfl rfl).trans ?_
  simp only [b_lspans,aq,am,av,aS,aK,aO,ay,af,aQ,aH,eA,nG,aG,bg,aC,ai,ag,ae,aA,ax,au,aE,aP,bJ,aW,aV,aY,aL,cM,ie,dW,aR,cU,bG,cT,nR,bf,cV,iV,gw,cj,AS.setLoc,az,dN,AS.freezeAll,AS.put,AS.alloc,List.getElem?_cons_zero,List.getElem?_cons_succ,List.set_cons_zero,List.set_cons_succ,List.length_cons,List.length_nil,List.map_cons,List.map_nil,List.cons_append,List.nil_append,List.replicate,Nat.reduceAdd,Nat.reduceSub,Nat.reduceLT,if_true,cB,cg,m1,m2,m3,m4,f1,f2,f3,iZ,tA,mD q,eS,gW,partD,di hc]
  rfl
 ·refine (m1a2 [(min a c,max a c)] (.one (by exact Fs) (by lia)) (fun n σ hc=>?_))
  refine (bh (fd:=⟨2,7,b_lspans⟩) rfl rfl).trans ?_
  simp only [b_lspans,aq,am,av,aS,aK,aO,ay,af,aQ,aH,eA,nG,aG,bg,aC,ai,ag,ae,aA,ax,au,aE,aP,bJ,aW,aV,aY,aL,ie,dW,aR,db,bG,cT,nR,bf,cV,iV,gw,cj,AS.setLoc,az,dN,AS.freezeAll,AS.put,AS.alloc,List.getElem?_cons_zero,List.getElem?_cons_succ,List.set_cons_zero,List.set_cons_succ,List.map_cons,List.map_nil,List.cons_append,List.nil_append,List.replicate,Nat.reduceSub,cB,cg,m1,m2,m4,f1,f2,iZ,tA,li q,eS,gW,partD,di hc]
theorem Gs {a b c:PyData}:itemAt [a,b,c] ((0:Nat):Int)=some a:=rfl
theorem Gr {a b c:PyData}:itemAt [a,b,c] ((1:Nat):Int)=some b:=rfl
theorem Gq {a b c:PyData}:itemAt [a,b,c] ((2:Nat):Int)=some c:=rfl
theorem jV {x:Int}:∃ v,Val v∧∀ (n:Nat) (σ:AS),callF prog W (n + 20) 15 [.d (.int x)] σ=some (.d v,σ):=by
 refine aB (fw x 3 (by exact yC)) fun a ea la=>?_
 have m1:binD .mod (.int x) (.int 3)=some (iD a):=by refine (ei (by decide)).trans ?_; exact congrArg (fun z=>some (PyData.int z)) ea
 have g:∃ v,Val v∧itemAt [.str (Str.ofString "accept"),.str (Str.ofString "drop"),.int 7] (a:Int)=some v:=n3 la ⟨_,⟨by decide +kernel,by decide⟩,Gs⟩ ⟨_,⟨by decide +kernel,by decide⟩,Gr⟩ ⟨_,jW 7,Gq⟩
 refine aB g fun v hv g=>(m1a2 v hv fun n σ=>?_)
 refine (bh (fd:=⟨1,1,b_lverdict⟩) rfl rfl).trans ?_
 simp only [b_lverdict,aq,am,aO,ay,cC,af,aQ,aD,aG,ai,ag,aE,aP,aW,aY,bZ,aR,cT,cn,gw,cj,az,AS.freezeAll,List.getElem?_cons_zero,List.map_cons,List.map_nil,List.cons_append,List.nil_append,List.replicate,Nat.reduceSub,m1,bz,g,cf]
theorem FL {a b c d e f:PyData}:itemAt [a,b,c,d,e,f] ((0:Nat):Int)=some a:=rfl
theorem FK {a b c d e f:PyData}:itemAt [a,b,c,d,e,f] ((1:Nat):Int)=some b:=rfl
theorem FJ {a b c d e f:PyData}:itemAt [a,b,c,d,e,f] ((2:Nat):Int)=some c:=rfl
theorem FI {a b c d e f:PyData}:itemAt [a,b,c,d,e,f] ((3:Nat):Int)=some d:=rfl
theorem FH {a b c d e f:PyData}:itemAt [a,b,c,d,e,f] ((4:Nat):Int)=some e:=rfl
theorem FG {a b c d e f:PyData}:itemAt [a,b,c,d,e,f] ((5:Nat):Int)=some f:=rfl
inductive Perm3:Nat→Nat→Nat→Prop where
 | a:Perm3 0 1 2
 | b:Perm3 2 0 1
 | c:Perm3 1 2 0
 | d:Perm3 0 2 1
 | e:Perm3 2 1 0
 | f:Perm3 1 0 2
theorem jp {x:Int}:∃ aw ac ao,Perm3 aw ac ao∧∀ (n:Nat) (σ:AS),callF prog W (n + 20) 16 [.d (.int x)] σ=some (.d (.tuple [iD aw,iD ac,iD ao]),σ):=by
 refine aB (fw x 6 (by exact yC)) fun a ea la=>?_
 have m1:binD .mod (.int x) (.int 6)=some (iD a):=by refine (ei (by decide)).trans ?_; exact congrArg (fun z=>some (PyData.int z)) ea
 have g:∃ aw ac ao:Nat,Perm3 aw ac ao∧itemAt [.tuple [.int 0,.int 1,.int 2],.tuple [.int 2,.int 0,.int 1],.tuple [.int 1,.int 2,.int 0],.tuple [.int 0,.int 2,.int 1],.tuple [.int 2,.int 1,.int 0],.tuple [.int 1,.int 0,.int 2]] (a:Int)=some (.tuple [iD aw,iD ac,iD ao]):=
  n6 la (fc _ _ _ .a FL) (fc _ _ _ .b FK) (fc _ _ _ .c FJ) (fc _ _ _ .d FI) (fc _ _ _ .e FH) (fc _ _ _ .f FG)
 refine dB g fun aw ac ao p g=>(fc _ _ _ p fun n σ=>?_)
 refine (bh (fd:=⟨1,1,b_lsequence⟩) rfl rfl).trans ?_
 simp only [b_lsequence,aq,am,aO,ay,af,aQ,aD,aG,ai,ag,aE,aP,aW,aY,bZ,aR,cT,cn,gw,cj,az,AS.freezeAll,List.getElem?_cons_zero,List.map_cons,List.map_nil,List.cons_append,List.nil_append,List.replicate,Nat.reduceSub,m1,bz,g,cf]
end
section
variable {W n b:Nat} {σ:AS}
structure RuleV (T:List Nat) (r:cF):Prop where
 val:Val r.2
 nodup:(r.1.map (·.1)).Nodup
 len:r.1.length≤3
 spans:∀ t∈r.1,t.1 < 3∧SpOk ((T[t.1]?).getD 0) t.2
theorem tQ {v:Nat} (h:v≤2):binD .pow (.int 2) (.int (v:Int))=some (.int (2 ^ v)):=by
 exact n3 (Nat.lt_succ_of_le h) rfl rfl rfl
noncomputable def ruElt:E:=.tup [(.loc 1),(.call 14 [(.sub (.out 0) (.bin .add (.bin .add (.out 3) (.int 1)) (.loc 1))),(.sub (.out 1) (.loc 1))])]
noncomputable def ruIf:E:=.cmp .eq (.bin .mod (.bin .fdiv (.sub (.out 0) (.out 3)) (.bin .pow (.int 2) (.loc 1))) (.int 2)) (.int 1)
theorem rX {told:List Int} {T:List Nat} {at_:Nat} (hT:T.length=3) (hT4:∀ t∈T,t≤4) (ha:at_ + 4≤told.length) (hl:told.length≤100):
  ∃ ts:List (Nat×List (Nat×Nat)),(ts.map (·.1)).Nodup∧ts.length≤3∧(∀ t∈ts,t.1 < 3∧SpOk ((T[t.1]?).getD 0) t.2)∧
   ∀ (n:Nat) (H:List AO) (out:List (Option AV)),out[0]?=some (some (.d (.list (told.map .int))))→out[1]?=some (some (.d (.tuple (T.map iD))))→out[3]?=some (some (.d (iD at_)))→aI H=true→∃ loc',compItems (Dg.compTurn prog W (n + 50) ruElt (.loc 1) [ruIf] []) [.int 0,.int 1,.int 2] [] ⟨List.replicate 6 none,out,H⟩=some (ts.map testD,⟨loc',out,H⟩):=by
 have sp:∀ v:Nat,∃ s,v < 3→SpOk ((T[v]?).getD 0) s∧∀ (n:Nat) (σ:AS),aI σ.heap=true→callF prog W (n + 30) 14 [.d (.int ((told[at_ + 1 + v]?).getD 0)),.d (iD ((T[v]?).getD 0))] σ=some (.d (.list (s.map partD)),σ):=fun v=>by
  by_cases h:v < 3
  ·have hv:v < T.length:=by exact zf ‹_› ‹_›
   refine aB (rU (W:=W) (x:=(told[at_ + 1 + v]?).getD 0) (top:=(T[v]?).getD 0) (by rw [List.getElem?_eq_getElem hv]; exact hT4 _ (List.getElem_mem hv))) fun s h1 h2=>?_
   exact ⟨s,fun zz=>⟨h1,h2⟩⟩
  ·exact ⟨[],fun q=>absurd q h⟩
 have spf:∃ f:Nat→List (Nat×Nat),∀ v,v < 3→SpOk ((T[v]?).getD 0) (f v)∧∀ (n:Nat) (σ:AS),aI σ.heap=true→callF prog W (n + 30) 14 [.d (.int ((told[at_ + 1 + v]?).getD 0)),.d (iD ((T[v]?).getD 0))] σ=some (.d (.list ((f v).map partD)),σ):=⟨fun v=>Classical.choose (sp v),fun v=>Classical.choose_spec (sp v)⟩
 obtain ⟨f,hf⟩:=spf
 let cond:Nat→Bool:=fun v=>decide ((((told[at_]?).getD 0).fdiv (2 ^ v)).fmod 2=1)
 refine (xN (([0,1,2].filter cond).map fun v=>(v,f v)) ?_ ?_ ?_ (fun n H out o0 o1 o3 hc=>?_))
 ·rw [List.map_map]
  have:((fun t:Nat×List (Nat×Nat)=>t.1) ∘ fun v=>(v,f v))=id:=rfl
  rw [this,List.map_id]
  exact (show ([0,1,2]:List Nat).Nodup by decide).filter _
 ·rw [List.length_map]; exact List.length_filter_le _ _
 ·intro t mt
  refine aB (List.mem_map.mp mt) fun v mv e_1=>?_; subst e_1
  have hv:v < 3:=by
   have:=(List.mem_filter.mp mv).1
   simp at this; lia
  exact ⟨hv,(hf v hv).1⟩
 ·refine aB (fz (enc:=iD) (f:=fun v=>if cond v then [testD (v,f v)] else []) (S:=fun loc=>∃ a b c d e g,loc=[a,b,c,d,e,g]) (turn:=Dg.compTurn prog W (n + 50) ruElt (.loc 1) [ruIf] []) (out:=out) (H:=H) (xs:=[0,1,2]) (acc:=[]) (loc:=List.replicate 6 none) (fun v mv acc loc hS hacc=>by
   refine vf hS fun a b c d e g e_2=>?_; clear hS; subst e_2
   have hv:v < 3:=by simp at mv; lia
   have i0:itemAt (told.map .int) (at_:Int)=some (.int ((told[at_]?).getD 0)):=dK (by exact DU ‹_›) (by exact zb1 ‹_› rfl)
   have i1:itemAt (told.map .int) ((at_:Int) + 1 + v)=some (.int ((told[at_ + 1 + v]?).getD 0)):=by
    rw [show (at_:Int) + 1 + v=((at_ + 1 + v:Nat):Int) by exact rfl]
    exact dK (by lia) (by exact zb1 ‹_› rfl)
   have i2:itemAt (T.map iD) (v:Int)=some (iD ((T[v]?).getD 0)):=dy (by simp [List.getElem?_eq_getElem (show v < T.length by exact zf ‹_› ‹_›)]) (by simp; exact vb ‹_› rfl)
   have p2:((2:Int) ^ v)≠0∧((2:Int) ^ v).natAbs≤1000:=by
    exact n3 hv (by decide) (by decide) (by decide)
   have sc:=fun (loc:List (Option AV)) (j:Nat)=>(hf v hv).2 j { loc:=loc,out:=out,heap:=H } hc
   have ha':acc.length < 1000000:=by exact xa ‹_› rfl
   refine (m1a2 [a,some (.d (iD v)),c,d,e,g] (pA _ _ _ _ _ _ rfl) ?_)
   by_cases q:(((told[at_]?).getD 0).fdiv (2 ^ v)).fmod 2=1
   ·have cq:cond v=true:=decide_eq_true q
    simp only [bd,ruElt,ruIf,ay,af,bM,aQ,aM,aD,aG,aC,bb,cI,ai,ag,ae,aE,aP,bJ,aW,aV,aY,aL,bZ,aR,cU,kI,bf,cV,iV,gw,wU,AS.setLoc,az,AS.freezeAll,List.getElem?_cons_zero,List.getElem?_cons_succ,List.set_cons_zero,List.set_cons_succ,if_true,cB,o0,o1,o3,bz,dp,i0,i1,i2,tQ (show v≤2 by exact zh ‹_›),ls p2.1 p2.2,ei (show (2:Int)≠0 by decide),mD q,cg,sc,cq,ha',testD]
   ·have cq:cond v=false:=decide_eq_false q
    simp only [bd,ruElt,ruIf,ay,af,bM,aQ,aM,aD,aG,aC,bb,cI,ai,ag,ae,aE,aP,aV,aY,aL,bZ,aR,db,ri,bf,iV,gw,wU,AS.setLoc,List.getElem?_cons_zero,List.getElem?_cons_succ,List.set_cons_zero,List.set_cons_succ,reduceIte,cB,o0,o3,dp,i0,tQ (show v≤2 by exact zh ‹_›),ls p2.1 p2.2,ei (show (2:Int)≠0 by decide),li q,cq,Bool.false_eq_true,List.append_nil]) (pA _ _ _ _ _ _ rfl) (by
    have:=gJ (f:=fun v=>if cond v then [testD (v,f v)] else []) (m:=1) (xs:=[0,1,2]) (fun t zz=>by split <;> simp)
    simp only [List.length_nil,List.length_cons] at this ⊢; exact y7 ‹_› rfl)) fun loc' zz e=>?_
  refine ⟨loc',e.trans ?_⟩
  congr 2
  simp only [List.nil_append]
  generalize [0,1,2]=xs
  induction xs with
  | nil=>rfl
  | cons v xs ih=>
   simp only [List.flatMap_cons,ih]
   induction q:cond v using Bool.casesOn with
   | true=>rw [List.filter_cons_of_pos q]; simp
   | false=>rw [List.filter_cons_of_neg (by simp [q])]; simp
noncomputable def ruuS (told:List Int) (T:List Nat) (l3 l4:Option AV) (K:List AO) (acc:List cF):AS:=
 { loc:=[some (.d (.list (told.map .int))),some (.d (.tuple (T.map iD))),some (.o K.length),l3,l4,none,none,none],out:=[],heap:=K++[.list (acc.map ruleD)] }
noncomputable def ruuB:List S:=[.assign (.loc 4) (.comp 6 ruElt [((.loc 1),(1,[(.int 3)]),[ruIf])]),
   .expr (.append (.loc 2) (.tup [(.loc 4),(.call 15 [(.bin .fdiv (.sub (.loc 0) (.loc 3)) (.int 8))])]))]
theorem m0 {told:List Int} {T:List Nat} {at_:Nat} (hT:T.length=3) (hT4:∀ t∈T,t≤4) (ha:at_ + 4≤told.length) (hl:told.length≤100):
  ∃ r,RuleV T r∧∀ (n:Nat) (K:List AO) (acc:List cF) (l3 l4:Option AV),aI K=true→acc.length≤100→∃ u,forTurn prog W (n + 70) (.loc 3) ruuB (iD at_) (ruuS told T l3 l4 K acc)=some (.next,ruuS told T (some (.d (iD at_))) u K (acc++[r])):=by
 refine bc fun hn=>?_
 refine aB (jV (W:=W) (x:=((told[at_]?).getD 0).fdiv 8)) fun v hv vc=>?_
 refine t4 (rX (W:=W) (told:=told) (T:=T) (at_:=at_) hT hT4 ha hl) fun ts h1 h2 h3 h4=>?_
 refine hn ?_
 refine (m1a2 (ts,v) ⟨hv,h1,h2,h3⟩ (fun n K acc l3 l4 hc hacc=>?_))
 obtain ⟨loc',e⟩:=h4 (n + 17) (K++[.list (acc.map ruleD)]) [some (.d (.list (told.map .int))),some (.d (.tuple (T.map iD))),some (.o K.length),some (.d (iD at_)),l4,none,none,none] rfl rfl rfl (c8 hc (by simp [plainO]))
 have i0:itemAt (told.map .int) (at_:Int)=some (.int ((told[at_]?).getD 0)):=dK (by exact DU ‹_›) (by exact zb1 ‹_› rfl)
 have f8:=ls (x:=(told[at_]?).getD 0) (y:=8) (by decide) (by decide)
 refine ⟨some (.d (.list (ts.map testD))),?_⟩
 simp only [List.replicate] at e
 simp only [forTurn,ruuB,ruuS,aq,am,av,aS,ay,af,aQ,aM,aH,aD,aG,bu,ai,ag,eg,ae,aE,aP,bJ,aW,aY,aL,gP,cM,bZ,dW,aR,bG,bf,iV,AS.setLoc,az,AS.freezeAll,AS.put,List.getElem?_cons_zero,List.getElem?_cons_succ,List.set_cons_zero,List.set_cons_succ,List.map_cons,List.map_nil,List.replicate,if_true,cB,pt,e,eS,dp,i0,f8,vc,ruleD,List.length_map,(show acc.length < 1000000 by exact og ‹_› rfl),gW,List.map_append]
theorem rW {told:List Int} {T:List Nat} (hT:T.length=3) (hT4:∀ t∈T,t≤4) (hl:told.length=18):
  ∃ rules:List cF,rules.length=3∧(∀ r∈rules,RuleV T r)∧∀ (n:Nat) (σ:AS),aI σ.heap=true→callF prog W (n + 80) 17 [.d (.list (told.map .int)),.d (.tuple (T.map iD))] σ=some (.d (.list (rules.map ruleD)),σ):=by
 refine bc fun hn=>?_
 refine aB (m0 (W:=W) (told:=told) (at_:=6) hT hT4 (by exact DX ‹_› rfl) (by exact vb ‹_› rfl)) fun r1 a1 b1=>?_
 refine aB (m0 (W:=W) (told:=told) (at_:=10) hT hT4 (by exact DX ‹_› rfl) (by exact vb ‹_› rfl)) fun r2 a2 b2=>?_
 refine aB (m0 (W:=W) (told:=told) (at_:=14) hT hT4 (by exact DX ‹_› rfl) (by exact vb ‹_› rfl)) fun r3 a3 b3=>?_
 refine hn ?_
 refine (dT [r1,r2,r3] rfl (by simp; exact (cw a1 a2 a3)) (fun n σ hc=>?_))
 refine (bh (fd:=⟨2,8,b_lrules⟩) rfl rfl).trans ?_
 refine bc fun hn=>?_
 obtain ⟨u1,e1⟩:=b1 (n + 6) σ.heap [] none none hc (by simp)
 obtain ⟨u2,e2⟩:=b2 (n + 6) σ.heap [r1] (some (.d (iD 6))) u1 hc (by simp)
 obtain ⟨u3,e3⟩:=b3 (n + 6) σ.heap [r1,r2] (some (.d (iD 10))) u2 hc (by simp)
 refine hn ?_
 have rg:gX [.int 6,.int 18,.int 4]=some [iD 6,iD 10,iD 14]:=rfl
 have c18:((18:Nat):Int)=18:=rfl
 simp only [ruuS,ruuB,ruElt,ruIf,List.map_nil,List.map_cons (f:=ruleD),List.nil_append,List.cons_append] at e1 e2 e3
 simp only [b_lrules,aq,am,av,bm,aO,ay,af,br,bg,ai,ag,eg,ae,aE,aP,bJ,aW,aL,gP,dW,aR,bG,cT,mf,nR,bf,cj,AS.setLoc,az,dN,AS.freezeAll,AS.put,AS.alloc,List.getElem?_cons_zero,List.getElem?_cons_succ,List.set_cons_zero,List.set_cons_succ,List.map_cons,List.map_nil,List.cons_append,List.nil_append,List.replicate,Nat.reduceSub,if_true,dz,Nat.reduceLeDiff,List.length_map,hl,c18,rg,forItems,e1,e2,e3,eS,gW,di hc]
end
noncomputable abbrev pT:=Nat×List (Nat×Nat)
noncomputable def io (var val:Nat) (t:pT):Bool:=decide (t.1=var) && !holdsP t.2 val
noncomputable def gK (var:Nat) (t:pT):Bool:=decide (t.1≠var)
noncomputable def fixR (var val:Nat) (r:cF):List cF:=if (r.1.filter (io var val)).map (fun zz=>PyData.int 1)=[] then [(r.1.filter (gK var),r.2)] else []
section
variable {W n b:Nat} {σ:AS}
theorem fY {f:pT→Bool} {g:pT→PyData}:∀ {ts:List pT},ts.flatMap (fun t=>if f t then [g t] else [])=(ts.filter f).map g
 | []=>rfl
 | t :: ts=>by
  simp only [List.flatMap_cons,fY (ts:=ts)]
  induction q:f t using Bool.casesOn with
  | true=>rw [List.filter_cons_of_pos q]; simp
  | false=>rw [List.filter_cons_of_neg (by simp [q])]; simp
theorem oX {f:pT→Bool} {g:pT→PyData} {ts:List pT}:(ts.flatMap (fun t=>if f t then [g t] else [])).length≤ts.length:=by
 rw [fY,List.length_map]; exact List.length_filter_le _ _
theorem wo {var val:Nat} {ts:List pT} {out:List (Option AV)} {H:List AO} (o1:out[1]?=some (some (.d (iD var)))) (o2:out[2]?=some (some (.d (iD val)))) (hl:ts.length≤100):
  ∃ loc',compItems (Dg.compTurn prog W (n + 40) (.int 1) (.tup [(.loc 1),(.loc 2)]) [.conj (.cmp .eq (.loc 1) (.out 1)) (.not (.call 18 [(.loc 2),(.out 2)]))] []) (ts.map testD) [] ⟨List.replicate 6 none,out,H⟩=some ((ts.filter (io var val)).map (fun zz=>PyData.int 1),⟨loc',out,H⟩):=by
 refine aB (fz (enc:=testD) (f:=fun t=>if io var val t then [PyData.int 1] else []) (S:=fun loc=>∃ a b c d e g,loc=[a,b,c,d,e,g]) (turn:=Dg.compTurn prog W (n + 40) (.int 1) (.tup [(.loc 1),(.loc 2)]) [.conj (.cmp .eq (.loc 1) (.out 1)) (.not (.call 18 [(.loc 2),(.out 2)]))] []) (out:=out) (H:=H) (xs:=ts) (acc:=[]) (loc:=List.replicate 6 none) (fun t mt acc loc hS ha=>by
  refine vf hS fun a b c d e g e_1=>?_; clear hS; subst e_1
  have ha':acc.length < 1000000:=by exact xa ‹_› rfl
  refine (m1a2 [a,some (.d (iD t.1)),some (.d (.list (t.2.map partD))),d,e,g] (pA _ _ _ _ _ _ rfl) ?_)
  by_cases q:t.1=var
  ·induction h:holdsP t.2 val using Bool.casesOn with
   | true=>
    have:io var val t=false:=by simp [io,h]
    simp only [bd,testD,ay,af,bM,aM,fH,aC,b8,ff,bb,cI,ai,ag,ae,aA,ax,au,aE,aP,bJ,rj,aV,aL,aR,db,kI,ri,bf,AS.setLoc,az,List.getElem?_cons_zero,List.getElem?_cons_succ,List.set_cons_zero,List.set_cons_succ,reduceIte,cB,o1,o2,mD (show (t.1:Int)=var by exact Df ‹_›),hV,h,vz,Bool.not_true,this,Bool.false_eq_true,List.append_nil]
   | false=>
    have:io var val t=true:=by simp [io,h,q]
    simp only [bd,testD,ay,af,bM,aM,fH,aC,b8,ff,bb,cI,ai,ag,ae,aA,ax,au,aE,aP,bJ,rj,aV,aL,aR,cU,kI,bf,AS.setLoc,az,List.getElem?_cons_zero,List.getElem?_cons_succ,List.set_cons_zero,List.set_cons_succ,if_true,cB,o1,o2,mD (show (t.1:Int)=var by exact Df ‹_›),hV,h,vz,Bool.not_false,this,ha']
  ·have:io var val t=false:=by simp [io,q]
   simp only [bd,testD,ay,af,bM,aM,fH,aC,b8,ff,bb,cI,ai,ag,ae,aA,ax,au,aE,aP,bJ,aV,aL,aR,db,ri,bf,AS.setLoc,az,List.getElem?_cons_zero,List.getElem?_cons_succ,List.set_cons_zero,List.set_cons_succ,reduceIte,cB,o1,li (show (t.1:Int)≠var by exact uZ ‹_›),this,Bool.false_eq_true,List.append_nil]) (pA _ _ _ _ _ _ rfl) (by
   have:=oX (f:=io var val) (g:=fun zz=>PyData.int 1) (ts:=ts)
   exact Nat.le_trans (Nat.add_le_add_left this ([]:List PyData).length) (by simp; exact zb1 ‹_› rfl))) fun loc' zz e=>?_
 exact ⟨loc',by rw [e,fY]; rfl⟩
theorem wn {var:Nat} {ts:List pT} {out:List (Option AV)} {H:List AO} (o1:out[1]?=some (some (.d (iD var)))) (hl:ts.length≤100):
  ∃ loc',compItems (Dg.compTurn prog W (n + 40) (.loc 1) (.loc 1) [.cmp .ne (.sub (.loc 1) (.int 0)) (.out 1)] []) (ts.map testD) [] ⟨List.replicate 3 none,out,H⟩=some ((ts.filter (gK var)).map testD,⟨loc',out,H⟩):=by
 refine aB (fz (enc:=testD) (f:=fun t=>if gK var t then [testD t] else []) (S:=fun loc=>∃ a b c,loc=[a,b,c]) (turn:=Dg.compTurn prog W (n + 40) (.loc 1) (.loc 1) [.cmp .ne (.sub (.loc 1) (.int 0)) (.out 1)] []) (out:=out) (H:=H) (xs:=ts) (acc:=[]) (loc:=List.replicate 3 none) (fun t mt acc loc hS ha=>by
  refine n5 hS fun a b c e_2=>?_; clear hS; subst e_2
  have ha':acc.length < 1000000:=by exact xa ‹_› rfl
  refine (m1a2 [a,some (.d (testD t)),c] (pC _ _ _ rfl) ?_)
  by_cases q:t.1=var
  ·have:gK var t=false:=by simp [gK,q]
   simp only [bd,testD,ay,af,bM,aD,aC,bb,cI,ae,aE,aV,aY,aL,bZ,aR,db,ri,bf,AS.setLoc,List.getElem?_cons_zero,List.getElem?_cons_succ,List.set_cons_zero,List.set_cons_succ,reduceIte,cB,o1,bz,sj,zK (show (t.1:Int)=var by exact Df ‹_›),this,Bool.false_eq_true,List.append_nil]
  ·have:gK var t=true:=by simp [gK,q]
   simp only [bd,testD,ay,af,bM,aD,aC,bb,cI,ae,aE,bJ,aV,aY,aL,bZ,aR,cU,kI,bf,AS.setLoc,az,List.getElem?_cons_zero,List.getElem?_cons_succ,List.set_cons_zero,List.set_cons_succ,if_true,cB,o1,bz,sj,Eu (show (t.1:Int)≠var by exact uZ ‹_›),this,ha']) (pC _ _ _ rfl) (by
   have:=oX (f:=gK var) (g:=testD) (ts:=ts)
   exact Nat.le_trans (Nat.add_le_add_left this ([]:List PyData).length) (by simp; exact zb1 ‹_› rfl))) fun loc' zz e=>?_
 exact ⟨loc',by rw [e,fY]; rfl⟩
noncomputable def fxS (pv:AV) (var val:Nat) (l4 l5:Option AV) (K:List AO) (kept:List cF) (T:List AO):AS:=
 { loc:=[some pv,some (.d (iD var)),some (.d (iD val)),some (.o K.length),l4,l5],out:=[],heap:=K++(.list (kept.map ruleD) :: T) }
noncomputable def fxB:List S:=[.ite (.cmp .eq (.comp 6 (.int 1) [((.tup [(.loc 1),(.loc 2)]),(0,[(.loc 4)]),[(.conj (.cmp .eq (.loc 1) (.out 1)) (.not (.call 18 [(.loc 2),(.out 2)])))])]) (.list []))
    [.expr (.append (.loc 3) (.tup [(.comp 3 (.loc 1) [((.loc 1),(0,[(.loc 4)]),[(.cmp .ne (.sub (.loc 1) (.int 0)) (.out 1))])]),(.loc 5)]))]
    []]
theorem x0 {pv:AV} {var val:Nat} {l4 l5:Option AV} {K T:List AO} {kept:List cF} {r:cF} (hl:r.1.length≤100) (hk:kept.length≤1000):
  forTurn prog W (n + 60) (.tup [(.loc 4),(.loc 5)]) fxB (ruleD r) (fxS pv var val l4 l5 K kept T)=some (.next,fxS pv var val (some (.d (.list (r.1.map testD)))) (some (.d r.2)) K (kept++fixR var val r) (T++[.list []])):=by
 refine bc fun hn=>?_
 obtain ⟨loc1,e1⟩:=wo (W:=W) (n:=n + 16) (var:=var) (val:=val) (ts:=r.1) (out:=[some pv,some (.d (iD var)),some (.d (iD val)),some (.o K.length),some (.d (.list (r.1.map testD))),some (.d r.2)]) (H:=K++(.list (kept.map ruleD) :: T)) rfl rfl hl
 obtain ⟨loc2,e2⟩:=wn (W:=W) (n:=n + 12) (var:=var) (ts:=r.1) (out:=[some pv,some (.d (iD var)),some (.d (iD val)),some (.o K.length),some (.d (.list (r.1.map testD))),some (.d r.2)]) (H:=K++(.list (kept.map ruleD) :: (T++[.list []]))) rfl hl
 refine hn ?_
 have o1:g7 ((r.1.filter (io var val)).map fun zz=>PyData.int 1)=true:=gG fun x m=>by refine aB (List.mem_map.mp m) fun zz zz e_3=>?_; subst e_3; rfl
 have o2:PyData.depthAll ((r.1.filter (io var val)).map fun zz=>PyData.int 1)≤10:=eJ fun x m=>by refine aB (List.mem_map.mp m) fun zz zz e_4=>?_; subst e_4; exact Nat.zero_le _
 have gT:∀ x:AO,(K++(.list (kept.map ruleD) :: (T++[x])))[K.length + (T.length + 1)]?=some x:=fun x=>by
  refine (List.getElem?_append_right (by exact rF)).trans ?_; simp
 have lk:=fun loc=>qM (σ:={ loc:=loc,out:=[],heap:=K++(.list (kept.map ruleD) :: (T++[.list []])) }) (k:=K.length + (T.length + 1)) o1 o2 (gT _)
 simp only [List.replicate] at e1 e2
 by_cases q:(r.1.filter (io var val)).map (fun zz=>PyData.int 1)=[]
 ·have hf:fixR var val r=[(r.1.filter (gK var),r.2)]:=if_pos q
  rw [q] at e1
  simp only [q,decide_true] at lk
  unfold forTurn
  simp only [fxB,fxS,ruleD,aq,am,aS,aK,af,aH,aG,bg,bu,aC,ai,ag,bq,ae,aA,ax,au,aE,aP,bJ,aW,aV,aL,cM,dW,aR,cU,bG,ef,bf,AS.setLoc,az,AS.freezeAll,AS.put,AS.alloc,List.getElem?_cons_zero,List.getElem?_cons_succ,List.set_cons_zero,List.set_cons_succ,List.length_cons,List.map_cons,List.map_nil,List.cons_append,List.replicate,if_true,cB,e1,List.append_assoc,List.length_append,lk,yT,zy,e2,hf,List.length_map,(show kept.length < 1000000 by exact og ‹_› rfl),List.map_append]
 ·have hf:fixR var val r=[]:=if_neg q
  simp only [q,decide_false] at lk
  unfold forTurn
  simp only [fxB,fxS,ruleD,aq,am,aS,aK,af,aH,aG,bg,bu,aC,ai,ag,bq,ae,aA,ax,au,aE,aP,aW,aV,aL,aR,db,bG,ef,bf,AS.setLoc,az,AS.freezeAll,AS.put,AS.alloc,List.getElem?_cons_zero,List.getElem?_cons_succ,List.set_cons_zero,List.set_cons_succ,List.length_cons,List.cons_append,List.replicate,cB,e1,List.append_assoc,List.length_append,lk,hf,List.append_nil]
theorem qV {var val:Nat} {r:cF}:(fixR var val r).length≤1:=by
 unfold fixR; split <;> simp
theorem tH {pv:AV} {var val:Nat} {K:List AO}:∀ {rs:List cF} {l4 l5:Option AV} {T:List AO} {kept:List cF},(∀ r∈rs,r.1.length≤100)→kept.length + rs.length≤1000→
  ∃ u v T',forItems (forTurn prog W (n + 60) (.tup [(.loc 4),(.loc 5)]) fxB) (rs.map ruleD) (fxS pv var val l4 l5 K kept T)=some (.next,fxS pv var val u v K (kept++rs.flatMap (fixR var val)) T')
 | [],l4,l5,T,kept,_,_=>⟨l4,l5,T,by simp [forItems]⟩
 | r :: rs,l4,l5,T,kept,hr,hl=>by
  simp only [List.length_cons] at hl
  have fl:=qV (var:=var) (val:=val) (r:=r)
  obtain ⟨u,v,T',e⟩:=tH (pv:=pv) (K:=K) (rs:=rs) (l4:=some (.d (.list (r.1.map testD)))) (l5:=some (.d r.2)) (T:=T++[.list []]) (kept:=kept++fixR var val r) (fun q m=>hr q (.tail _ m)) (by rw [List.length_append]; lia)
  refine ⟨u,v,T',?_⟩
  simp only [List.map_cons,forItems,x0 (hr r (.head _)) (show kept.length≤1000 by exact lC ‹_›),List.flatMap_cons]
  rw [e,List.append_assoc]
theorem oY {pv:AV} {var val:Nat} {K:List AO} {rs:List cF} (hlen:K.length=σ.heap.length) (hc:aI K=true)
  (hfr:∀ (loc out:List (Option AV)) (T:List AO),AS.freeze { loc:=loc,out:=out,heap:=σ.heap++T } pv=some (.list (rs.map ruleD),{ loc:=loc,out:=out,heap:=K++T }))
  (hr:∀ r∈rs,r.1.length≤100) (hl:rs.length≤1000):callF prog W (n + 70) 25 [pv,.d (iD var),.d (iD val)] σ=some (.d (.list ((rs.flatMap (fixR var val)).map ruleD)),{ σ with heap:=K }):=by
 refine (bh (fd:=⟨3,6,b_lfixed⟩) rfl rfl).trans ?_
 refine n5 (tH (W:=W) (n:=n + 6) (pv:=pv) (var:=var) (val:=val) (K:=K) (rs:=rs) (l4:=none) (l5:=none) (T:=[]) (kept:=[]) hr (by simpa using hl)) fun u v T' e=>?_
 simp only [fxS,fxB,List.map_nil,List.nil_append] at e
 rw [hlen] at e
 have g0:∀ x:AO,(K++(x :: T'))[σ.heap.length]?=some x:=fun x=>by rw [← hlen]; exact yT
 have s0:∀ x z:AO,(K++(x :: T')).set σ.heap.length z=K++(z :: T'):=fun x z=>by rw [← hlen]; exact zy
 simp only [b_lfixed,aq,am,av,bm,aO,af,bg,ai,bq,ae,aE,aP,bJ,aW,aL,dW,aR,bG,cT,ef,nR,bf,cj,AS.setLoc,dN,AS.freezeAll,AS.put,AS.alloc,List.getElem?_cons_zero,List.getElem?_cons_succ,List.set_cons_zero,List.set_cons_succ,List.map_cons,List.map_nil,List.cons_append,List.nil_append,List.replicate,Nat.reduceSub,hfr,e,g0,s0]
 rw [gN hc hlen.symm]
end
noncomputable def mB (ts:List pT) (s c:Nat):Bool:=match testAt ts s with | some sp=>holdsP sp c | none=>true
theorem jC:∀ {ts:List pT} {t:pT},(ts.map (·.1)).Nodup→t∈ts→testAt ts t.1=some t.2
 | u :: ts,t,nd,m=>by
  simp only [List.map_cons] at nd
  obtain ⟨n1,n2⟩:=List.nodup_cons.mp nd
  rcases List.mem_cons.mp m with rfl | m
  ·simp [testAt,List.find?_cons]
  ·have hne:¬ u.1=t.1:=fun e=>n1 (e▸List.mem_map_of_mem (f:=(·.1)) m)
   have:=jC n2 m
   unfold testAt at this ⊢
   rw [List.find?_cons_of_neg (by simp [hne])]; exact this
theorem p5 {ts:List pT} {s:Nat} {sp:List (Nat×Nat)} (h:testAt ts s=some sp):∃ t∈ts,t.1=s∧t.2=sp:=by
 unfold testAt at h
 refine aB (Option.map_eq_some_iff.mp h) fun t ht e=>?_
 have:=List.find?_some ht
 simp only [decide_eq_true_eq] at this
 exact (dT t (List.mem_of_find?_eq_some ht) this e)
theorem zR {ts:List pT} {s c:Nat} (nd:(ts.map (·.1)).Nodup):mB ts s c=true ↔ ∀ t∈ts,t.1=s→holdsP t.2 c=true:=by
 unfold mB
 induction h:testAt ts s using Option.casesOn with
 | none=>
  simp only [true_iff]
  intro t mt e
  have:=jC nd mt
  rw [e,h] at this; exact nS this
 | some sp=>
  refine fq (p5 h) fun t mt e1 e2=>?_
  constructor
  ·intro q u mu eu
   have:=jC nd mu
   rw [eu,h] at this
   cases this; exact q
  ·intro q
   have:=q t mt e1
   rw [e2] at this; exact this
theorem yk {ts:List pT} {aw ac ao bj bx bH:Nat}:iQ ts [aw,ac,ao] [bj,bx,bH]=(mB ts aw bj && (mB ts ac bx && (mB ts ao bH && true))):=rfl
theorem ji {ts:List pT} {vals:List Nat}:f4 ts vals=true ↔ ∀ t∈ts,holdsP t.2 ((vals[t.1]?).getD 0)=true:=by
 unfold f4; rw [List.all_eq_true]
theorem yj {ts:List pT} {aw ac ao bj bx bH:Nat} (p:Perm3 aw ac ao) (nd:(ts.map (·.1)).Nodup) (h3:∀ t∈ts,t.1 < 3):iQ ts [aw,ac,ao] [bj,bx,bH]=f4 ts (vals3 none aw ac ao bj bx bH):=by
 rw [Bool.eq_iff_iff,ji,yk]
 simp only [Bool.and_eq_true,zR nd,and_true]
 constructor
 ·rintro ⟨h0,h1,h2⟩ t mt
  have:=h3 t mt
  have d:t.1=0∨t.1=1∨t.1=2:=by lia
  induction p <;> rcases d with e | e | e <;> (rw [e]; first | exact h0 t mt e | exact h1 t mt e | exact h2 t mt e)
 ·intro h
  refine (cw (fun t mt e=>?_) (fun t mt e=>?_) (fun t mt e=>?_)) <;> (have:=h t mt; rw [e] at this; induction p <;> exact this)
theorem s8 {rs:List cF} {e:PyData} {aw ac ao bj bx bH:Nat} (p:Perm3 aw ac ao) (h:∀ r∈rs,(r.1.map (·.1)).Nodup∧∀ t∈r.1,t.1 < 3):jq [aw,ac,ao] rs e [bj,bx,bH]=saidV (vals3 none aw ac ao bj bx bH) rs e:=by
 induction rs with
 | nil=>rfl
 | cons r rs ih=>
  simp only [jq,saidV]
  rw [yj p (h r (.head _)).1 (h r (.head _)).2,ih fun q m=>h q (.tail _ m)]
theorem qn {vals:List Nat} {var val:Nat} {e:PyData} (hv:vals.length=3):∀ {rs:List cF},(∀ r∈rs,∀ t∈r.1,t.1 < 3)→saidV vals (rs.flatMap (fixR var val)) e=saidV (vals.set var val) rs e
 | [],_=>rfl
 | r :: rs,h=>by
  have ih:=qn hv (var:=var) (val:=val) (e:=e) (rs:=rs) fun q m=>h q (.tail _ m)
  have get:∀ t∈r.1,(((vals.set var val)[t.1]?).getD 0)=if t.1=var then val else (vals[t.1]?).getD 0:=fun t mt=>by
   have:=h r (.head _) t mt
   rw [List.getElem?_set]
   by_cases q:t.1=var
   ·rw [if_pos q.symm,if_pos q,if_pos (by lia)]; rfl
   ·rw [if_neg (fun z=>q z.symm),if_neg q]
  simp only [List.flatMap_cons]
  by_cases q:(r.1.filter (io var val)).map (fun zz=>PyData.int 1)=[]
  ·have hf:fixR var val r=[(r.1.filter (gK var),r.2)]:=if_pos q
   rw [hf]
   have nb:∀ t∈r.1,t.1=var→holdsP t.2 val=true:=fun t mt e=>by
    induction hh:holdsP t.2 val using Bool.casesOn with
    | true=>rfl
    | false=>
     exfalso
     have:t∈r.1.filter (io var val):=List.mem_filter.mpr ⟨mt,by simp [io,e,hh]⟩
     rw [List.map_eq_nil_iff] at q
     rw [q] at this; exact (List.not_mem_nil this).elim
   have hc:f4 (r.1.filter (gK var)) vals=f4 r.1 (vals.set var val):=by
    rw [Bool.eq_iff_iff,ji,ji]
    constructor
    ·intro k t mt
     rw [get t mt]
     by_cases z:t.1=var
     ·rw [if_pos z]; exact nb t mt z
     ·rw [if_neg z]; exact k t (List.mem_filter.mpr ⟨mt,by simp [gK,z]⟩)
    ·intro k t mt
     obtain ⟨m1,m2⟩:=List.mem_filter.mp mt
     have z:¬ t.1=var:=by simpa [gK] using m2
     have:=k t m1
     rw [get t m1,if_neg z] at this; exact this
   simp only [List.cons_append,List.nil_append,saidV,hc,ih]
  ·have hf:fixR var val r=[]:=if_neg q
   rw [hf]
   have hc:f4 r.1 (vals.set var val)=false:=by
    rw [Bool.eq_false_iff]
    intro z
    rw [ji] at z
    refine q ?_
    rw [List.map_eq_nil_iff,List.filter_eq_nil_iff]
    intro t mt
    have:=z t mt
    rw [get t mt] at this
    by_cases y:t.1=var
    ·rw [if_pos y] at this; simp [io,this]
    ·simp [io,y]
   simp only [List.nil_append,saidV,hc,ih,Bool.false_eq_true,if_false]
theorem t8 {aw ac ao bj bx bH var val:Nat} (p:Perm3 aw ac ao):(vals3 none aw ac ao bj bx bH).set var val=vals3 (some (var,val)) aw ac ao bj bx bH:=by
 rcases Nat.lt_or_ge var 3 with h | h
 ·induction p <;> exact n3 h rfl rfl rfl
 ·have e0:¬ var=0:=by lia
  have e1:¬ var=1:=by lia
  have e2:¬ var=2:=by lia
  induction p <;> (rw [List.set_eq_of_length_le (by simp [vals3]; assumption)]; simp [vals3,fget,e0,e1,e2])
noncomputable def takenR (p:List Nat) (w:f5):cF:=(w.1.map fun e=>((p[e.1]?).getD 0,[e.2]),w.2)
noncomputable def matchB (x:Nat→Nat) (w:f5):Bool:=w.1.all fun e=>decide (e.2.1≤x e.1) && decide (x e.1≤e.2.2)
theorem mT {p vals:List Nat} {x:Nat→Nat} {e:PyData} (hx:∀ l,l < 3→(vals[(p[l]?).getD 0]?).getD 0=x l):∀ {ws:List f5},(∀ w∈ws,∀ en∈w.1,en.1 < 3)→
  saidV vals (ws.map (takenR p)) e=match ws.find? (matchB x) with
   | some w=>w.2
   | none=>e
 | [],_=>rfl
 | w :: ws,h=>by
  have ih:=mT hx (e:=e) (ws:=ws) fun v m=>h v (.tail _ m)
  have hc:f4 (takenR p w).1 vals=matchB x w:=by
   have:=h w (.head _)
   unfold f4 takenR matchB
   simp only [List.all_map]
   rw [Bool.eq_iff_iff,List.all_eq_true,List.all_eq_true]
   constructor
   ·intro k en men
    have:=k en men
    simp only [Function.comp,hx en.1 (h w (.head _) en men),holdsP,List.any_cons,List.any_nil,Bool.or_false] at this
    exact this
   ·intro k en men
    have:=k en men
    simp only [Function.comp,hx en.1 (h w (.head _) en men),holdsP,List.any_cons,List.any_nil,Bool.or_false]
    exact this
  simp only [List.map_cons,saidV,hc,List.find?_cons]
  induction q:matchB x w using Bool.casesOn with
  | true=>simp [takenR]
  | false=>simp only [Bool.false_eq_true,if_false]; exact ih
theorem oK {x:Nat→Nat} {l:Nat} {r:Nat×Nat} {w:f5}:matchB x (pre l r w)=((decide (r.1≤x l) && decide (x l≤r.2)) && matchB x w):=rfl
theorem o4 {x:Nat→Nat} {l:Nat} {Lw:Nat→List f5} {V:Nat→PyData}:∀ {ps:List (Nat×Nat)} {lo:Nat} {z:Int},z=lo - 1→aZ z ps→lo≤x l→(x l:Int)≤aN z ps→(∀ p∈ps,∃ w,(Lw p.2).find? (matchB x)=some w∧w.2=V p.2)→
  ∃ w,((runsFrom lo ps).flatMap fun r=>(Lw r.2).map (pre l r.1)).find? (matchB x)=some w∧w.2=V ((aF ps (x l)).getD 0)
 | [],lo,z,hz,hr,h1,h2,_=>by simp only [aN] at h2; lia
 | p :: ps,lo,z,hz,hr,h1,h2,hw=>by
  simp only [runsFrom,List.flatMap_cons,List.find?_append,List.find?_map]
  by_cases e:x l≤p.1
  ·refine aB (hw p (.head _)) fun w e1 e2=>?_
   have:(matchB x ∘ pre l (lo,p.1))=matchB x:=by
    funext v
    simp only [Function.comp,oK,decide_eq_true h1,decide_eq_true e,Bool.and_self,Bool.true_and]
   refine (m1a2 (pre l (lo,p.1) w) ?_ ?_)
   ·rw [this,e1]; rfl
   ·simp only [aF]; rw [if_pos e]; exact e2
  ·have:(Lw p.2).find? (matchB x ∘ pre l (lo,p.1))=none:=by
    rw [List.find?_eq_none]
    intro v _
    simp only [Function.comp,oK,decide_eq_false e,Bool.and_false,Bool.false_and]
    decide
   refine aB (o4 (Lw:=Lw) (V:=V) (ps:=ps) (lo:=p.1 + 1) (z:=p.1) (by lia) hr.2 (by exact Bk ‹_›) h2 fun q m=>hw q (.tail _ m)) fun w e1 e2=>?_
   refine (m1a2 w ?_ ?_)
   ·rw [this]; simp only [Option.map_none,Option.none_or]; exact e1
   ·simp only [aF]; rw [if_neg e]; exact e2
section
variable {D:Dia}
theorem uL (w:WF D) {x:Nat→Nat} (hx:∀ l,l < 3→x l≤D.top l):∀ (k:Nat) {l n:Nat},l + k=3→n < D.nodes.length→l≤D.lev n→∃ v,(D.waysP k l n).find? (matchB x)=some v∧v.2=D.val l n ((List.range' l k).map x):=by
 intro k
 induction k with
 | zero=>intro l n hl hn ln; exact (m1a2 ([],D.leafv n) rfl rfl)
 | succ k ih=>
  intro l n hl hn ln
  have hl3:l < 3:=by exact yD ‹_›
  simp only [Dia.waysP,List.range'_succ,List.map_cons]
  by_cases e:D.lev n=l
  ·rw [if_pos e]
   obtain ⟨ps,g⟩:=dZ w hn e hl3
   refine dR (w.inner n l ps g) fun h1 h2 h3 h4 h5=>?_
   have ep:D.parts n=ps:=by unfold Dia.parts; rw [g]
   rw [ep]
   have:=o4 (x:=x) (l:=l) (Lw:=fun c=>D.waysP k (l + 1) c) (V:=fun c=>D.val (l + 1) c ((List.range' (l + 1) k).map x)) (ps:=ps) (lo:=0) (z:=-1) (by decide) h2.rise (Nat.zero_le _) (by rw [h2.last]; have:=hx l hl3; exact xb ‹_›) (fun p mp=>by
    have hp:=h5 p mp
    exact ih (by exact sS ‹_›) (by exact u9 ‹_› ‹_›) (by lia))
   refine aB this fun v e1 e2=>?_; clear this
   refine (m1a2 v e1 ?_)
   refine (e2).trans ?_
   have es:D.sub l n (x l)=(aF ps (x l)).getD 0:=by unfold Dia.sub; rw [g]; simp
   simp only [Dia.val,es]
  ·rw [if_neg e,gE (by lia) hl3]
   exact ih (by exact sS ‹_›) hn (by lia)
theorem pj (w:WF D):∀ (k:Nat) {l n:Nat},l + k=3→n < D.nodes.length→l≤D.lev n→∀ v∈D.waysP k l n,(∀ en∈v.1,l≤en.1∧en.1 < 3∧en.2.1≤en.2.2∧en.2.2≤D.top en.1)∧(v.1.map (·.1)).Pairwise (· < ·)∧v.1.length≤k∧Val v.2:=by
 intro k
 induction k with
 | zero=>
  intro l n hl hn ln v mv
  simp only [Dia.waysP,List.mem_singleton] at mv
  subst mv
  obtain ⟨u,g⟩:=mI w hn (by lia)
  exact (fS (by simp) (by simp) (by simp) (by simp only [Dia.leafv,g]; exact w.ok _ (List.mem_of_getElem? g)))
 | succ k ih=>
  intro l n hl hn ln v mv
  have hl3:l < 3:=by exact yD ‹_›
  simp only [Dia.waysP] at mv
  by_cases e:D.lev n=l
  ·rw [if_pos e] at mv
   obtain ⟨ps,g⟩:=dZ w hn e hl3
   refine dR (w.inner n l ps g) fun h1 h2 h3 h4 h5=>?_
   have ep:D.parts n=ps:=by unfold Dia.parts; rw [g]
   rw [ep] at mv
   refine bc fun hn=>?_
   refine aB (List.mem_flatMap.mp mv) fun r mr mv=>?_
   refine aB (List.mem_map.mp mv) fun u mu e_1=>?_; subst e_1
   refine aB (iw mr) fun p mp epp=>?_
   have hp:=h5 p mp
   refine gC (ih (l:=l + 1) (n:=r.2) (by exact sS ‹_›) (by lia) (by rw [← epp]; lia) u mu) fun k1 k2 k3 k4=>?_
   refine hn ?_
   have rr:∀ (ps:List (Nat×Nat)) (lo:Nat) (z:Int),z=lo - 1→aZ z ps→∀ r∈runsFrom lo ps,r.1.1≤r.1.2∧(r.1.2:Int)≤aN z ps:=by
    intro ps
    induction ps with
    | nil=>intro lo z hz hr r m; simp [runsFrom] at m
    | cons p ps ih=>
     intro lo z hz hr r m
     have hp1:=hr.1
     have hh:=cz hr
     simp only [runsFrom,List.mem_cons] at m
     rcases m with rfl | m
     ·exact ⟨by simp only; lia,hh⟩
     ·exact ih (p.1 + 1) p.1 (by lia) hr.2 r m
   obtain ⟨q1,q2⟩:=rr ps 0 (-1) (by decide) h2.rise r mr
   rw [h2.last] at q2
   refine (fS (fun en men=>?_) ?_ (by simp only [List.length_cons]; exact yB ‹_›) k4)
   ·rcases List.mem_cons.mp men with rfl | men
    ·exact (fS (Nat.le_refl _) hl3 q1 (by simp only; exact zg ‹_›))
    ·refine gC (k1 en men) fun a b c d=>?_
     exact (fS (by exact lC ‹_›) b c d)
   ·simp only [List.map_cons,List.pairwise_cons]
    refine ⟨fun a ma=>?_,k2⟩
    refine aB (List.mem_map.mp ma) fun en men e_2=>?_; subst e_2
    have:=(k1 en men).1; exact DW ‹_›
  ·rw [if_neg e] at mv
   refine gC (ih (l:=l + 1) (n:=n) (by exact sS ‹_›) hn (by lia) v mv) fun k1 k2 k3 k4=>?_
   exact (fS (fun en men=>by refine gC (k1 en men) fun a b c d=>?_; exact (fS (by exact lC ‹_›) b c d)) k2 (by exact Fz ‹_›) k4)
end
section
variable {W n b:Nat} {σ:AS}
noncomputable def dia0 (ts:List Nat):Dia:=⟨ts,[],[]⟩
noncomputable def bv (ts:List Nat) (b:Nat):List AO:=[.inst [.d (topsD ts),.o (b + 1),.o (b + 2),.o (b + 3)],.list [],.dict [],.dict []]
theorem tK {a c d:Nat} (h1:a≤4) (h2:c≤4) (h3:d≤4):WF2 (dia0 [a,c,d]):=
 ⟨⟨(jL a c d rfl h1 h2 h3),List.nodup_nil,fun nd m=>(by exact (List.not_mem_nil m).elim),fun n x ps h=>(by simp [dia0] at h)⟩,fun e m=>(by exact (List.not_mem_nil m).elim)⟩
theorem iS (ts:List Nat) (H:List AO):HoldsAt H.length (dia0 ts) (H++bv ts H.length):=by
 refine ⟨?_,?_,?_,?_⟩ <;> (refine (List.getElem?_append_right (by lia)).trans ?_; simp [bv,dia0,nodesD,bookFrom,memoD])
theorem fF {ts:List Nat} {H:List AO} (h:aI H=true):aI (H++bv ts H.length)=true:=by
 unfold aI at h ⊢
 rw [List.all_eq_true] at h ⊢
 intro o m
 rcases List.mem_append.mp m with m | m
 ·have:=h o m
  induction o using AO.casesOn with
  | inst fs=>
   simp only [List.all_eq_true] at this ⊢
   intro f hf
   have:=this f hf
   induction f using AV.casesOn with
   | d _=>rfl
   | o k=>simp at this ⊢; exact Fy ‹_›
  | _=>rfl
 ·simp only [bv,List.mem_cons,List.not_mem_nil,or_false] at m
  rcases m with rfl | rfl | rfl | rfl
  ·simp [bv]
  ·rfl
  ·rfl
  ·rfl
theorem oV {ts:List Nat} {loc out:List (Option AV)} {H:List AO}:callF prog W (n + 20) 1 [.o H.length,.d (topsD ts)] { loc:=loc,out:=out,heap:=H++[.inst []] }=some (.d .none,{ loc:=loc,out:=out,heap:=H++bv ts H.length }):=by
 refine (bh (fd:=⟨2,2,b_init⟩) rfl rfl).trans ?_
 have nc:aI ((H++bv ts H.length).take (H.length + 1))=false:=by
  have e:(H++bv ts H.length).take (H.length + 1)=H++[.inst [.d (topsD ts),.o (H.length + 1),.o (H.length + 2),.o (H.length + 3)]]:=by
   rw [List.take_append,List.take_of_length_le (by exact rF)]; simp [bv]
  rw [e]
  unfold aI
  rw [List.all_eq_false]
  refine (m1a2 _ (List.mem_append_right _ (.head _)) ?_)
  simp
 have ck:fV (H.length + 1) (H++bv ts H.length)=H++bv ts H.length:=by
  unfold fV; rw [nc]; rfl
 simp only [b_init,aq,am,pG,af,bg,lV,ai,aE,aP,aW,cM,eM,aR,bG,C2,AS.freezeAll,AS.put,AS.alloc,List.getElem?_cons_zero,List.getElem?_cons_succ,List.length_cons,List.length_nil,List.map_cons,List.map_nil,List.cons_append,List.nil_append,List.replicate,Nat.reduceAdd,Nat.reduceSub,if_true,List.append_assoc,List.length_append,yT,zy]
 exact congrArg (fun h=>some (AV.d PyData.none,({ loc:=loc,out:=out,heap:=h }:AS))) ck
end

inductive TopsOk:Nat→Nat→Nat→Prop where
 | a:TopsOk 2 1 2
 | b:TopsOk 3 1 1
 | c:TopsOk 1 2 2
 | d:TopsOk 2 2 1
 | e:TopsOk 1 3 1
 | f:TopsOk 4 0 1
theorem TopsOk.le {a b c:Nat} (h:TopsOk a b c):a≤4∧b≤4∧c≤4:=by induction h <;> decide
theorem ua {x:Int}:∃ be ba aX,TopsOk be ba aX∧∃ a:Nat,binD .mod (.int x) (.int 6)=some (iD a)∧
  itemAt [.tuple [.int 2,.int 1,.int 2],.tuple [.int 3,.int 1,.int 1],.tuple [.int 1,.int 2,.int 2],.tuple [.int 2,.int 2,.int 1],.tuple [.int 1,.int 3,.int 1],.tuple [.int 4,.int 0,.int 1]] (a:Int)=some (.tuple [iD be,iD ba,iD aX]):=by
 refine aB (fw x 6 (by exact yC)) fun a ea la=>?_
 have m1:binD .mod (.int x) (.int 6)=some (iD a):=by refine (ei (by decide)).trans ?_; exact congrArg (fun z=>some (PyData.int z)) ea
 clear ea
 revert m1
 exact n6 la (fun m1=>fc _ _ _ .a (m1a2 0 m1 FL)) (fun m1=>fc _ _ _ .b (m1a2 1 m1 FK)) (fun m1=>fc _ _ _ .c (m1a2 2 m1 FJ)) (fun m1=>fc _ _ _ .d (m1a2 3 m1 FI)) (fun m1=>fc _ _ _ .e (m1a2 4 m1 FH)) (fun m1=>fc _ _ _ .f (m1a2 5 m1 FG))
theorem oB {be ba aX aw ac ao:Nat} (p:Perm3 aw ac ao):∃ cR cQ cP,itemAt [iD be,iD ba,iD aX] (aw:Int)=some (iD cR)∧itemAt [iD be,iD ba,iD aX] (ac:Int)=some (iD cQ)∧itemAt [iD be,iD ba,iD aX] (ao:Int)=some (iD cP)∧
  cR=([be,ba,aX][aw]?).getD 0∧cQ=([be,ba,aX][ac]?).getD 0∧cP=([be,ba,aX][ao]?).getD 0:=by
 induction p <;> exact (sb _ _ _ rfl rfl rfl rfl rfl rfl)
theorem qo {T:List Nat} {aw ac ao:Nat} {r:cF} {D:Dia} (p:Perm3 aw ac ao) (h:RuleV T r) (hD:D.tops=[(T[aw]?).getD 0,(T[ac]?).getD 0,(T[ao]?).getD 0]):RuleOk D [aw,ac,ao] r:=by
 refine ⟨h.val,h.nodup,h.len,fun t mt pl e=>?_⟩
 have hs:=(h.spans t mt).2
 have:D.top pl=(T[t.1]?).getD 0:=by
  unfold Dia.top
  rw [hD]
  exact Cs e (fun a b=>by rw [a,← b]; rfl) (fun a b=>by rw [a,← b]; rfl) (fun a b=>by rw [a,← b]; rfl)
 rw [this]; exact hs
theorem x6 {D:Dia} {seq:List Nat} {var val:Nat} {r q:cF} (h:RuleOk D seq r) (m:q∈fixR var val r):RuleOk D seq q:=by
 unfold fixR at m
 split at m
 ·simp only [List.mem_singleton] at m
  subst m
  exact ⟨h.val,h.nodup.sublist (List.filter_sublist.map _),Nat.le_trans (List.length_filter_le _ _) h.len,fun t mt pl e=>h.spans t (List.mem_filter.mp mt).1 pl e⟩
 ·exact (List.not_mem_nil m).elim
section
variable {W n:Nat}
theorem bO {P:List FD} {s:S} {ss:List S} {σ aa:AS} (h:Dg.exec P W n s σ=some (.next,aa)):Dg.execs P W (n + 1) (s :: ss) σ=Dg.execs P W n ss aa:=by
 rw [am,h]; rfl
noncomputable def LS:Nat→List AV→List (Option AV)
 | 0,_=>[]
 | k + 1,[]=>none :: LS k []
 | k + 1,v :: vs=>some v :: LS k vs
noncomputable abbrev LA (vs:List AV) (H:List AO):AS:={ loc:=LS 29 vs,out:=[],heap:=H }
theorem Cc {ns:List Int} (hl:ns.length≤63) (hW:9500≤W):∀ {C:Prop},(∀ (be ba aX aw ac ao bp bn bk cR cQ cP cD cZ cY:Nat) (rules:List cF) (ev:PyData),
  TopsOk be ba aX→Perm3 aw ac ao→Perm3 bp bn bk→(∀ r∈rules,RuleV [be,ba,aX] r)→rules.length=3→Val ev→
  cR=([be,ba,aX][aw]?).getD 0→cQ=([be,ba,aX][ac]?).getD 0→cP=([be,ba,aX][ao]?).getD 0→cD=([be,ba,aX][bp]?).getD 0→cZ=([be,ba,aX][bn]?).getD 0→cY=([be,ba,aX][bk]?).getD 0→
  (∀ n,Dg.execs prog W (n + 299) b_law (LA [.d (.list (ns.map .int))] [])=Dg.execs prog W (n + 292) (b_law.drop 7)
   (LA [.d (.list (ns.map .int)),.d (.list ((bP ns).map .int)),.d (.tuple [iD be,iD ba,iD aX]),.d (.list (rules.map ruleD)),.d ev,.d (.tuple [iD aw,iD ac,iD ao]),.d (.tuple [iD bp,iD bn,iD bk]),.o 0,.o 4] (bv [cR,cQ,cP] 0++bv [cD,cZ,cY] 4)))→C)→C:=by
 intro C K
 have tl:(bP ns).length=18:=rfl
 refine dB (ua (x:=((bP ns)[0]?).getD 0)) fun be ba aX hT t_1=>?_; refine aB t_1 fun a ma ia=>?_
 refine gD hT.le fun h0 h1 h2=>?_
 refine fq (rW (W:=W) (told:=bP ns) (T:=[be,ba,aX]) rfl (by simp; exact ⟨‹_›,‹_›,‹_›⟩) tl) fun rules rl rv rc=>?_
 refine aB (jV (W:=W) (x:=((bP ns)[5]?).getD 0)) fun ev hv vc=>?_
 refine dB (jp (W:=W) (x:=((bP ns)[1]?).getD 0)) fun aw ac ao hp pc=>?_
 refine dB (jp (W:=W) (x:=((bP ns)[1]?).getD 0 + 1 + (((bP ns)[2]?).getD 0).fmod 5)) fun bp bn bk hq qc=>?_
 refine rJ (oB (be:=be) (ba:=ba) (aX:=aX) hp) fun cR cQ cP Cm Cl Ck nJ nI nH=>?_
 refine rJ (oB (be:=be) (ba:=ba) (aX:=aX) hq) fun cD cZ cY Cg Cf Ce nE nD nC=>?_
 refine K be ba aX aw ac ao bp bn bk cR cQ cP cD cZ cY rules ev hT hp hq rv rl hv nJ nI nH nE nD nC (fun n=>?_)
 have c0:aI []=true:=rfl
 have i0:itemAt ((bP ns).map .int) 0=some (.int (((bP ns)[0]?).getD 0)):=dK (k:=0) (by exact A8 ‹_› rfl) (by exact vb ‹_› rfl)
 have i1:itemAt ((bP ns).map .int) 1=some (.int (((bP ns)[1]?).getD 0)):=dK (k:=1) (by exact A8 ‹_› rfl) (by exact vb ‹_› rfl)
 have i2:itemAt ((bP ns).map .int) 2=some (.int (((bP ns)[2]?).getD 0)):=dK (k:=2) (by exact A8 ‹_› rfl) (by exact vb ‹_› rfl)
 have i5:itemAt ((bP ns).map .int) 5=some (.int (((bP ns)[5]?).getD 0)):=dK (k:=5) (by exact A8 ‹_› rfl) (by exact vb ‹_› rfl)
 have m5:binD .mod (.int (((bP ns)[2]?).getD 0)) (.int 5)=some (.int ((((bP ns)[2]?).getD 0).fmod 5)):=ei (by decide)
 have dc:=fun (loc:List (Option AV)) (j:Nat)=>sy (W:=W) (n:=j) (σ:={ loc:=loc,out:=[],heap:=[] }) hl c0
 have rc':=fun (loc:List (Option AV)) (j:Nat)=>rc j { loc:=loc,out:=[],heap:=[] } c0
 simp only [List.map_cons,List.map_nil] at rc'
 unfold b_law
 refine (bO (aa:=LA [.d (.list (ns.map .int)),.d (.list ((bP ns).map .int))] []) (by simp only [LA,LS,av,af,aM,ai,ag,ae,aE,aP,aL,aR,bf,AS.setLoc,List.getElem?_cons_zero,List.getElem?_cons_succ,List.set_cons_zero,List.set_cons_succ,dc])).trans ?_
 refine (bO (aa:=LA [.d (.list (ns.map .int)),.d (.list ((bP ns).map .int)),.d (.tuple [iD be,iD ba,iD aX])] []) (by simp only [LA,LS,av,ay,af,aQ,aD,aG,ai,ag,ae,aE,aP,aW,aY,aL,bZ,aR,bf,gw,AS.setLoc,az,AS.freezeAll,List.getElem?_cons_zero,List.getElem?_cons_succ,List.set_cons_zero,List.set_cons_succ,bz,dp,i0,ma,ia])).trans ?_
 refine (bO (aa:=LA [.d (.list (ns.map .int)),.d (.list ((bP ns).map .int)),.d (.tuple [iD be,iD ba,iD aX]),.d (.list (rules.map ruleD))] []) (by simp only [LA,LS,av,af,aM,ai,ag,ae,aE,aP,aL,aR,bf,AS.setLoc,List.getElem?_cons_zero,List.getElem?_cons_succ,List.set_cons_zero,List.set_cons_succ,rc'])).trans ?_
 refine (bO (aa:=LA [.d (.list (ns.map .int)),.d (.list ((bP ns).map .int)),.d (.tuple [iD be,iD ba,iD aX]),.d (.list (rules.map ruleD)),.d ev] []) (by simp only [LA,LS,av,ay,af,aM,aD,ai,ag,ae,aE,aP,aY,aL,bZ,aR,bf,AS.setLoc,List.getElem?_cons_zero,List.getElem?_cons_succ,List.set_cons_zero,List.set_cons_succ,dp,i5,vc])).trans ?_
 refine (bO (aa:=LA [.d (.list (ns.map .int)),.d (.list ((bP ns).map .int)),.d (.tuple [iD be,iD ba,iD aX]),.d (.list (rules.map ruleD)),.d ev,.d (.tuple [iD aw,iD ac,iD ao]),.d (.tuple [iD bp,iD bn,iD bk])] []) (by simp only [LA,LS,av,ay,af,aQ,aM,aD,aG,ai,ag,ae,aA,ax,au,aE,aP,aW,aY,aL,bZ,aR,bf,cV,gw,AS.setLoc,az,AS.freezeAll,List.getElem?_cons_zero,List.getElem?_cons_succ,List.set_cons_zero,List.set_cons_succ,dp,i1,i2,m5,cg,pc,qc])).trans ?_
 have n1:=fun (loc:List (Option AV)) (j:Nat)=>oV (W:=W) (n:=j) (ts:=[cR,cQ,cP]) (loc:=loc) (out:=[]) (H:=[])
 have n2:=fun (loc:List (Option AV)) (j:Nat)=>oV (W:=W) (n:=j) (ts:=[cD,cZ,cY]) (loc:=loc) (out:=[]) (H:=bv [cR,cQ,cP] 0)
 simp only [topsD,List.map_cons,List.map_nil,List.length_nil,List.nil_append] at n1 n2
 have lb:(bv [cR,cQ,cP] 0).length=4:=rfl
 rw [lb] at n2
 refine (bO (aa:=LA [.d (.list (ns.map .int)),.d (.list ((bP ns).map .int)),.d (.tuple [iD be,iD ba,iD aX]),.d (.list (rules.map ruleD)),.d ev,.d (.tuple [iD aw,iD ac,iD ao]),.d (.tuple [iD bp,iD bn,iD bk]),.o 0] (bv [cR,cQ,cP] 0)) (by simp only [LA,LS,av,af,bM,o8,iM,aD,bu,bb,ai,ag,bq,ae,aE,aP,bJ,aW,aY,aL,bZ,aR,wR,cU,C0,nT,bf,AS.setLoc,wi,az,AS.alloc,List.getElem?_cons_zero,List.getElem?_cons_succ,List.set_cons_zero,List.set_cons_succ,List.length_cons,List.length_nil,List.cons_append,List.nil_append,List.replicate,Nat.reduceAdd,Nat.reduceLT,if_true,dz,cB,Nat.reduceLeDiff,compItems,bd,bz,Cm,Cl,Ck,n1])).trans ?_
 refine (bO (aa:=LA [.d (.list (ns.map .int)),.d (.list ((bP ns).map .int)),.d (.tuple [iD be,iD ba,iD aX]),.d (.list (rules.map ruleD)),.d ev,.d (.tuple [iD aw,iD ac,iD ao]),.d (.tuple [iD bp,iD bn,iD bk]),.o 0,.o 4] (bv [cR,cQ,cP] 0++bv [cD,cZ,cY] 4)) (by simp only [LA,LS,av,af,bM,o8,iM,aD,bu,bb,ai,ag,bq,ae,aE,aP,bJ,aW,aY,aL,bZ,aR,wR,cU,C0,nT,bf,AS.setLoc,wi,az,AS.alloc,List.getElem?_cons_zero,List.getElem?_cons_succ,List.set_cons_zero,List.set_cons_succ,List.length_cons,List.length_nil,List.cons_append,List.nil_append,List.replicate,Nat.reduceAdd,Nat.reduceLT,if_true,dz,cB,Nat.reduceLeDiff,compItems,bd,bz,Cg,Cf,Ce,lb,n2])).trans ?_
 rfl
end
section
variable {W n:Nat}
noncomputable def FV (fx:Option (Nat×Nat)) (aw ac ao:Nat) (rs:List cF) (e:PyData):List Nat→PyData
 | [a,b,c]=>saidV (vals3 fx aw ac ao a b c) rs e
 | _=>.none
theorem GO {fx:Option (Nat×Nat)} {aw ac ao a b c:Nat} {rs:List cF} {e:PyData}:FV fx aw ac ao rs e [a,b,c]=saidV (vals3 fx aw ac ao a b c) rs e:=rfl
theorem rh {ts:List Nat} (h:ts.length=3):∀ c∈cellsL ts,∃ x y z,c=[x,y,z]:=by
 refine l3 h fun a b d e=>?_
 ·subst e
  intro c mc
  rw [← pe] at mc
  simp only [lp,List.mem_flatMap,List.mem_map] at mc
  refine aB mc fun i zz t_1=>?_; clear mc; refine aB t_1 fun j zz t_2=>?_; refine aB t_2 fun k zz e_3=>?_; subst e_3
  exact (pC i j k rfl)
theorem BF {D:Dia} {r:Nat} {F:List Nat→PyData} (w:WF D) (h:∀ c,D.Box 0 c→D.val 0 r c=F c):(cellsL D.tops).map F=D.tab 0 D.tops r:=by
 obtain ⟨q1,q2⟩:=jh w (l:=0) (by decide)
 unfold Dia.tab
 refine List.map_congr_left fun c mc=>(h c ?_).symm
 exact (gO (ts:=D.tops) (l:=0) (c:=c) q1 q2).mpr mc
theorem qi {b:Nat} {D:Dia} {H:List AO} {r:Nat} {fx:Option (Nat×Nat)} {aw ac ao:Nat} {rs:List cF} {e:PyData} (hW:9500≤W) (w:WF D) (h:HoldsAt b D H) (hc:aI H=true) (hN:D.nodes.length≤8900) (hm:D.memo.length≤9000) (hr:r < D.nodes.length)
  (p:Perm3 aw ac ao) (hrs:∀ r∈rs,r.1.length≤100∧∀ t∈r.1,t.1 < 3) (hv:∀ c,D.Box 0 c→D.val 0 r c=FV fx aw ac ao rs e c):
  (∀ loc n,callF prog W (n + 40) 20 [.d (topsD D.tops)] ⟨loc,[],H⟩=some (.d (.list ((cellsL D.tops).map cellD)),⟨loc,[],H⟩))∧
  (∀ loc n,callF prog W (n + 90) 21 [.d (.list (rs.map ruleD)),.d e,.d (.tuple [iD aw,iD ac,iD ao]),.d (.list ((cellsL D.tops).map cellD)),.o H.length] ⟨loc,[],H++[.dict (fxD fx)]⟩=some (.d (.list (D.tab 0 D.tops r)),⟨loc,[],H++[.dict (fxD fx)]⟩))∧
  (∀ loc n,callF prog W (n + 120) 23 [.o b,.d (iD r),.d (.list ((cellsL D.tops).map cellD)),.d (.list (D.tab 0 D.tops r))] ⟨loc,[],H++[.dict (fxD fx)]⟩=some (.d (.bool true),⟨loc,[],H++[.dict (fxD fx)]⟩)):=by
 refine ga w.tops fun a c d et h1 h2 h3=>?_
 have F:Fits D:=⟨w.tops,by exact zb1 ‹_› rfl,hm⟩
 have p3:aw < 3∧ac < 3∧ao < 3:=by induction p <;> decide
 have hcd:aI (H++[.dict (fxD fx)])=true:=c8 hc (by simp [plainO])
 refine (cw (fun loc n=>?_) (fun loc n=>?_) (fun loc n=>?_))
 ·have:=sH (W:=W) (n:=n) (σ:=⟨loc,[],H⟩) h1 h2 h3
  rw [pe,← et] at this
  exact this
 ·have:=rQ (W:=W) (n:=n) (σ:=⟨loc,[],H++[.dict (fxD fx)]⟩) (rs:=rs) (ev:=e) (k4:=H.length) (fx:=fx) (cells:=cellsL D.tops) hcd eS p3.1 p3.2.1 p3.2.2 hrs (FV fx aw ac ao rs e) (fun zz zz zz=>rfl) (rh (by rw [et]; rfl)) (by rw [fh]; have:=(mP w (l:=0) (by decide)).1; rw [show D.tops.drop 0=D.tops from rfl] at this; exact zb1 ‹_› rfl)
  rw [BF w hv] at this
  exact this
 ·exact rV (W:=W) (m:=n) (σ:=⟨loc,[],H++[.dict (fxD fx)]⟩) hW w (h.app _) hcd F hN hr rfl
end
section
variable {W n:Nat}
noncomputable abbrev iJ (ns:List Int) (be ba aX:Nat) (rules:List cF) (ev:PyData) (aw ac ao bp bn bk:Nat):List AV:=[.d (.list (ns.map .int)),.d (.list ((bP ns).map .int)),.d (.tuple [iD be,iD ba,iD aX]),.d (.list (rules.map ruleD)),.d ev,.d (.tuple [iD aw,iD ac,iD ao]),.d (.tuple [iD bp,iD bn,iD bk]),.o 0,.o 4]
theorem Cb {ns:List Int} {be ba aX aw ac ao bp bn bk cR cQ cP cD cZ cY:Nat} {rules:List cF} {ev:PyData} (hW:9500≤W) (hT:TopsOk be ba aX) (hp:Perm3 aw ac ao) (rv:∀ r∈rules,RuleV [be,ba,aX] r) (rl:rules.length=3) (hv:Val ev)
  (nJ:cR=([be,ba,aX][aw]?).getD 0) (nI:cQ=([be,ba,aX][ac]?).getD 0) (nH:cP=([be,ba,aX][ao]?).getD 0) (lu:cR≤4∧cQ≤4∧cP≤4):
  ∃ D r,WF2 D∧D.tops=[cR,cQ,cP]∧D.nodes.length≤200∧D.memo.length≤200∧r < D.nodes.length∧(∀ c,D.Box 0 c→D.val 0 r c=FV none aw ac ao rules ev c)∧
   Dg.execs prog W (n + 292) (b_law.drop 7) (LA (iJ ns be ba aX rules ev aw ac ao bp bn bk) (bv [cR,cQ,cP] 0++bv [cD,cZ,cY] 4))=
    Dg.execs prog W (n + 289) (b_law.drop 10) (LA (iJ ns be ba aX rules ev aw ac ao bp bn bk++[.d (iD r),.d (.list ((cellsL D.tops).map cellD))]) (bQ 0 D (bv [cR,cQ,cP] 0++bv [cD,cZ,cY] 4)++[.dict []])):=by
 have hH:HoldsAt 0 (dia0 [cR,cQ,cP]) (bv [cR,cQ,cP] 0++bv [cD,cZ,cY] 4):=(iS [cR,cQ,cP] []).app _
 have hc:aI (bv [cR,cQ,cP] 0++bv [cD,cZ,cY] 4)=true:=fF (H:=bv [cR,cQ,cP] 0) (fF (H:=[]) rfl)
 have w0:=tK lu.1 lu.2.1 lu.2.2
 have ro:∀ r∈rules,RuleOk (dia0 [cR,cQ,cP]) [aw,ac,ao] r:=fun r m=>qo hp (rv r m) (by show [cR,cQ,cP]=_; rw [nJ,nI,nH])
 refine vh (jT (W:=W) (n:=n + 109) (b:=0) (σ:=LA (iJ ns be ba aX rules ev aw ac ao bp bn bk) (bv [cR,cQ,cP] 0++bv [cD,cZ,cY] 4)) (rules:=rules) (ev:=ev) (by exact zi ‹_› rfl) w0 hH hc (by rw [rl]; simp [dia0]) (by rw [rl]; simp [dia0]) hv ro) fun D r bc w E hn hm hr hval=>?_
 have ht:D.tops=[cR,cQ,cP]:=E.tops
 have hn':D.nodes.length≤200:=by rw [rl] at hn; simp [dia0] at hn; exact zb1 ‹_› rfl
 have hm':D.memo.length≤200:=by rw [rl] at hm; simp [dia0] at hm; exact zb1 ‹_› rfl
 have hF:∀ c,D.Box 0 c→D.val 0 r c=FV none aw ac ao rules ev c:=fun c hb=>by
  refine n5 (jk hb) fun x y z e_1=>?_; subst e_1
  rw [hval _ (E.box.mp hb)]
  exact s8 hp fun q m=>⟨(rv q m).nodup,fun t mt=>((rv q m).spans t mt).1⟩
 refine gD (qi (b:=0) (H:=bQ 0 D (bv [cR,cQ,cP] 0++bv [cD,cZ,cY] 4)) (fx:=none) (rs:=rules) (e:=ev) hW w.wf (hH.upd E.tops) (b9 hc) (by exact zb1 ‹_› rfl) (by exact zb1 ‹_› rfl) hr hp (fun q m=>⟨by have:=(rv q m).len; exact zb1 ‹_› rfl,fun t mt=>((rv q m).spans t mt).1⟩) hF) fun f1 f2 f3=>?_
 have hs:=(hH.upd E.tops).self
 have hs2:=((hH.upd E.tops).app [.dict []]).self
 have fx0:fxD none=[]:=rfl
 rw [fx0] at f2 f3
 refine (zY D r w ht hn' hm' hr hF ?_)
 unfold b_law
 simp only [List.drop_succ_cons,List.drop_zero]
 simp only [iJ] at bc ⊢
 simp only [LA,LS] at bc
 rw [bO (aa:=LA (iJ ns be ba aX rules ev aw ac ao bp bn bk++[.d (iD r)]) (bQ 0 D (bv [cR,cQ,cP] 0++bv [cD,cZ,cY] 4))) (by simp only [LA,LS,iJ,av,af,aM,ai,ag,ae,aE,aP,aL,aR,bf,AS.setLoc,List.getElem?_cons_zero,List.getElem?_cons_succ,List.set_cons_zero,List.set_cons_succ,List.cons_append,List.nil_append,bc])]
 rw [bO (aa:=LA (iJ ns be ba aX rules ev aw ac ao bp bn bk++[.d (iD r),.d (.list ((cellsL D.tops).map cellD))]) (bQ 0 D (bv [cR,cQ,cP] 0++bv [cD,cZ,cY] 4))) (by simp only [LA,LS,iJ,av,af,bl,aM,ai,ag,ae,aE,aP,aL,fA,cM,eM,aR,bf,AS.setLoc,List.getElem?_cons_zero,List.getElem?_cons_succ,List.set_cons_zero,List.set_cons_succ,List.cons_append,List.nil_append,Nat.reduceAdd,hs,f1])]
 rw [bO (aa:=LA (iJ ns be ba aX rules ev aw ac ao bp bn bk++[.d (iD r),.d (.list ((cellsL D.tops).map cellD))]) (bQ 0 D (bv [cR,cQ,cP] 0++bv [cD,cZ,cY] 4)++[.dict []])) (by simp only [LA,LS,iJ,aq,am,aK,aO,c7,af,aM,lV,fH,ff,ai,ag,aE,aP,rj,aV,aR,db,cT,cn,AS.alloc,List.getElem?_cons_zero,List.getElem?_cons_succ,List.cons_append,List.nil_append,f2,f3,vz,Bool.not_true])]
end
section
variable {W n:Nat}
noncomputable def pZ:E:=.tup [(.sub (.out 5) (.loc 1)),(.list [(.loc 2)])]
theorem sY {aw ac ao:Nat} {out:List (Option AV)} (o5:out[5]?=some (some (.d (.tuple [iD aw,iD ac,iD ao])))):∀ {path:fR} {acc:List PyData} {H:List AO} {l0 l1 l2 l3:Option AV},(∀ e∈path,e.1 < 3)→acc.length + path.length≤1000→
  ∃ loc' T,(∀ o∈T,plainO o=true)∧compItems (Dg.compTurn prog W (n + 20) pZ (.tup [(.loc 1),(.loc 2)]) [] []) (path.map entD) acc ⟨[l0,l1,l2,l3],out,H⟩=some (acc++(path.map fun e=>testD (([aw,ac,ao][e.1]?).getD 0,[e.2])),⟨loc',out,H++T⟩)
 | [],acc,H,l0,l1,l2,l3,_,_=>(g8 [l0,l1,l2,l3] [] (by decide) (by simp [compItems]))
 | e :: path,acc,H,l0,l1,l2,l3,he,hl=>by
  simp only [List.length_cons] at hl
  have h3:=he e (.head _)
  have ip:itemAt [iD aw,iD ac,iD ao] (e.1:Int)=some (iD (([aw,ac,ao][e.1]?).getD 0)):=by
   exact n3 h3 rfl rfl rfl
  refine eW (sY o5 (path:=path) (acc:=acc++[testD (([aw,ac,ao][e.1]?).getD 0,[e.2])]) (H:=H++[.dead]) (l0:=l0) (l1:=some (.d (iD e.1))) (l2:=some (.d (.tuple [iD e.2.1,iD e.2.2]))) (l3:=l3) (fun x m=>he x (.tail _ m)) (by simp; exact yE ‹_›)) fun loc' T hT r=>?_
  refine (g8 loc' (.dead :: T) (fun o m=>by
   rcases List.mem_cons.mp m with rfl | m
   ·rfl
   ·exact hT o m) ?_)
  simp only [pZ] at r
  simp only [List.map_cons (f:=entD),compItems,bd,entD,pZ,af,bM,aD,aG,bg,bb,ai,ag,ae,aA,ax,au,aE,aP,bJ,aW,aY,aL,bZ,dW,aR,cU,bf,AS.setLoc,az,dN,AS.freezeAll,AS.put,AS.alloc,List.getElem?_cons_zero,List.getElem?_cons_succ,List.set_cons_zero,List.set_cons_succ,List.map_cons,if_true,cB,o5,bz,ip,eS,gW,(show acc.length < 1000000 by exact xa ‹_› rfl)]
  simp only [testD,partD,List.map_cons,List.map_nil] at r ⊢
  refine (r).trans ?_
  simp
noncomputable def yI (a0 a1 a2 a3 a4 a6 a7 a8 a9 a10:Option AV) (aw ac ao:Nat) (l12 l13:Option AV) (K:List AO) (taken:List cF) (T:List AO):AS:=
 { loc:=[a0,a1,a2,a3,a4,some (.d (.tuple [iD aw,iD ac,iD ao])),a6,a7,a8,a9,a10,some (.o K.length),l12,l13,none,none,none,none,none,none,none,none,none,none,none,none,none,none,none],out:=[],heap:=K++(.list (taken.map ruleD) :: T) }
noncomputable def Dl:List S:=[.expr (.append (.loc 11) (.tup [(.comp 4 pZ [((.tup [(.loc 1),(.loc 2)]),(0,[(.loc 12)]),[])]),(.loc 13)]))]
theorem sX {a0 a1 a2 a3 a4 a6 a7 a8 a9 a10:Option AV} {aw ac ao:Nat} {K:List AO}:∀ {ws:List f5} {l12 l13:Option AV} {taken:List cF} {T:List AO},(∀ w∈ws,w.1.length≤10∧∀ e∈w.1,e.1 < 3)→(∀ o∈T,plainO o=true)→taken.length + ws.length≤1000→
  ∃ u v T',(∀ o∈T',plainO o=true)∧forItems (forTurn prog W (n + 40) (.tup [(.loc 12),(.loc 13)]) Dl) (ws.map dm) (yI a0 a1 a2 a3 a4 a6 a7 a8 a9 a10 aw ac ao l12 l13 K taken T)=some (.next,yI a0 a1 a2 a3 a4 a6 a7 a8 a9 a10 aw ac ao u v K (taken++ws.map (takenR [aw,ac,ao])) T')
 | [],l12,l13,taken,T,_,hT,_=>(fc l12 l13 T hT (by simp [forItems]))
 | w :: ws,l12,l13,taken,T,hw,hT,hl=>by
  simp only [List.length_cons] at hl
  obtain ⟨w1,w2⟩:=hw w (.head _)
  refine eW (sY (W:=W) (n:=n + 14) (aw:=aw) (ac:=ac) (ao:=ao) (out:=[a0,a1,a2,a3,a4,some (.d (.tuple [iD aw,iD ac,iD ao])),a6,a7,a8,a9,a10,some (.o K.length),some (.d (dP w.1)),some (.d w.2),none,none,none,none,none,none,none,none,none,none,none,none,none,none,none]) rfl (path:=w.1) (acc:=[]) (H:=K++(.list (taken.map ruleD) :: T)) (l0:=none) (l1:=none) (l2:=none) (l3:=none) w2 (by simp only [List.length_nil]; exact y7 ‹_› rfl)) fun loc' T1 hT1 e=>?_
  refine dB (sX (a0:=a0) (a1:=a1) (a2:=a2) (a3:=a3) (a4:=a4) (a6:=a6) (a7:=a7) (a8:=a8) (a9:=a9) (a10:=a10) (aw:=aw) (ac:=ac) (ao:=ao) (K:=K) (ws:=ws) (l12:=some (.d (dP w.1))) (l13:=some (.d w.2)) (taken:=taken++[takenR [aw,ac,ao] w]) (T:=T++T1) (fun x m=>hw x (.tail _ m)) (fun o m=>by
   rcases List.mem_append.mp m with m | m
   ·exact hT o m
   ·exact hT1 o m) (by simp; exact yE ‹_›)) fun u v T' hT' e2=>?_
  refine (fc u v T' hT' ?_)
  have er:(PyData.tuple [PyData.list (w.1.map fun e=>testD (([aw,ac,ao][e.1]?).getD 0,[e.2])),w.2])=ruleD (takenR [aw,ac,ao] w):=by
   simp only [ruleD,takenR,List.map_map]; rfl
  have one:forTurn prog W (n + 40) (.tup [(.loc 12),(.loc 13)]) Dl (dm w) (yI a0 a1 a2 a3 a4 a6 a7 a8 a9 a10 aw ac ao l12 l13 K taken T)=some (.next,yI a0 a1 a2 a3 a4 a6 a7 a8 a9 a10 aw ac ao (some (.d (dP w.1))) (some (.d w.2)) K (taken++[takenR [aw,ac,ao] w]) (T++T1)):=by
   simp only [List.append_assoc,List.cons_append,List.nil_append,dP] at e
   unfold forTurn
   simp only [Dl,yI,dm,dP,aq,am,aS,af,aH,aG,bu,ai,ag,bq,ae,aA,ax,au,aE,aP,bJ,aW,aL,cM,dW,aR,bG,nT,bf,AS.setLoc,az,AS.freezeAll,AS.put,List.getElem?_cons_zero,List.getElem?_cons_succ,List.set_cons_zero,List.set_cons_succ,List.map_cons,List.map_nil,List.replicate,if_true,cB,e,er,yT,zy,List.length_map,(show taken.length < 1000000 by exact xa ‹_› rfl),List.map_append]
  simp only [List.map_cons (f:=dm),forItems,one]
  refine (e2).trans ?_
  simp
end
theorem to {aw ac ao l:Nat} (p:Perm3 aw ac ao) (h:l < 3):(([aw,ac,ao][l]?).getD 0) < 3:=by
 induction p <;> exact n3 h (by decide) (by decide) (by decide)
theorem vY {aw ac ao a b:Nat} (p:Perm3 aw ac ao) (ha:a < 3) (hb:b < 3) (h:(([aw,ac,ao][a]?).getD 0)=(([aw,ac,ao][b]?).getD 0)):a=b:=by
 have k:∀ a,a < 3→∀ b,b < 3→(([aw,ac,ao][a]?).getD 0)=(([aw,ac,ao][b]?).getD 0)→a=b:=by induction p <;> decide
 exact k a ha b hb h
theorem vC {D:Dia} {T:List Nat} {aw ac ao:Nat} {w:f5} (p:Perm3 aw ac ao) (hD:D.tops=[(T[aw]?).getD 0,(T[ac]?).getD 0,(T[ao]?).getD 0])
  (h1:∀ en∈w.1,0≤en.1∧en.1 < 3∧en.2.1≤en.2.2∧en.2.2≤D.top en.1) (h2:(w.1.map (·.1)).Pairwise (· < ·)) (h3:w.1.length≤3) (h4:Val w.2):RuleV T (takenR [aw,ac,ao] w):=by
 refine ⟨h4,?_,by simp [takenR]; exact h3,fun t mt=>?_⟩
 ·show ((w.1.map fun e=>(([aw,ac,ao][e.1]?).getD 0,[e.2])).map (·.1)).Nodup
  rw [List.map_map,List.nodup_iff_pairwise_ne,List.pairwise_map]
  rw [List.pairwise_map] at h2
  refine List.Pairwise.imp_of_mem (fun {a b} ma mb hab=>?_) h2
  intro e
  have:=vY p (h1 a ma).2.1 (h1 b mb).2.1 e
  lia
 ·refine aB (List.mem_map.mp mt) fun e me e_1=>?_; subst e_1
  refine gC (h1 e me) fun zz a b c=>?_
  refine ⟨to p a,.one b ?_⟩
  have:D.top e.1=(T[([aw,ac,ao][e.1]?).getD 0]?).getD 0:=by
   unfold Dia.top
   rw [hD]
   exact n3 a rfl rfl rfl
  exact Nat.le_succ_of_le (Nat.le_trans c (Nat.le_of_eq this))
theorem vq {aw ac ao a b c:Nat} (p:Perm3 aw ac ao):vals3 none aw ac ao (([a,b,c][aw]?).getD 0) (([a,b,c][ac]?).getD 0) (([a,b,c][ao]?).getD 0)=[a,b,c]:=by
 induction p <;> rfl
theorem vB {D:Dia} {T:List Nat} {aw ac ao r a b c:Nat} {rules:List cF} {ev e:PyData} (w:WF D) (p:Perm3 aw ac ao) (hD:D.tops=[(T[aw]?).getD 0,(T[ac]?).getD 0,(T[ao]?).getD 0]) (hr:r < D.nodes.length)
  (hF:∀ c,D.Box 0 c→D.val 0 r c=FV none aw ac ao rules ev c) (hv:∀ i,i < 3→(([a,b,c][i]?).getD 0)≤(T[i]?).getD 0):
  saidV [a,b,c] ((D.waysN r).map (takenR [aw,ac,ao])) e=saidV [a,b,c] rules ev:=by
 have hw:D.waysP 3 0 r=D.waysN r:=gS hr w rfl (Nat.zero_le _)
 have ok:=pj w 3 (l:=0) rfl hr (Nat.zero_le _)
 rw [hw] at ok
 have hx:∀ l,l < 3→(([a,b,c][([aw,ac,ao][l]?).getD 0]?).getD 0)=(fun l=>(([a,b,c][([aw,ac,ao][l]?).getD 0]?).getD 0)) l:=fun l zz=>rfl
 refine (mT hx fun v mv en men=>((ok v mv).1 en men).2.1).trans ?_
 have htop:∀ l,l < 3→(fun l=>(([a,b,c][([aw,ac,ao][l]?).getD 0]?).getD 0)) l≤D.top l:=fun l hl=>by
  have:=hv _ (to p hl)
  refine Nat.le_trans this (Nat.le_of_eq ?_)
  unfold Dia.top
  rw [hD]
  exact n3 hl rfl rfl rfl
 refine aB (uL w htop 3 (l:=0) rfl hr (Nat.zero_le _)) fun v e1 e2=>?_
 rw [hw] at e1
 rw [e1]
 simp only
 refine (e2).trans ?_
 have hb:D.Box 0 [([a,b,c][aw]?).getD 0,([a,b,c][ac]?).getD 0,([a,b,c][ao]?).getD 0]:=(qL (by decide) (htop 0 (by decide)) (by decide) (htop 1 (by decide)) (by decide) (htop 2 (by decide)) rfl)
 have:=hF _ hb
 simp only [GO] at this
 rw [vq p] at this
 exact this
theorem sw {bp bn bk x y z var val:Nat} {rs:List cF} {e:PyData} (p:Perm3 bp bn bk) (h:∀ r∈rs,(r.1.map (·.1)).Nodup∧∀ t∈r.1,t.1 < 3):
  jq [bp,bn,bk] (rs.flatMap (fixR var val)) e [x,y,z]=saidV (vals3 (some (var,val)) bp bn bk x y z) rs e:=by
 refine (s8 p fun r m=>by
  refine aB (List.mem_flatMap.mp m) fun u mu m=>?_
  unfold fixR at m
  split at m
  ·simp only [List.mem_singleton] at m
   subst m
   exact ⟨(h u mu).1.sublist (List.filter_sublist.map _),fun t mt=>(h u mu).2 t (List.mem_filter.mp mt).1⟩
  ·exact (List.not_mem_nil m).elim).trans ?_
 rw [qn (by simp [vals3]) fun r m=>(h r m).2,t8 p]
theorem wE:∀ {xs acc:List f5},(ddF acc xs).length≤acc.length + xs.length
 | [],acc=>by simp
 | x :: xs,acc=>by
  have h1:=wE (xs:=xs) (acc:=gB acc x)
  have h2:=nX (acc:=acc) (w:=x)
  simp only [ddF,List.foldl_cons,List.length_cons] at h1 ⊢; lia
theorem oj {D:Dia} {r:Nat} (w:WF D) (hr:r < D.nodes.length):(D.waysN r).length≤(cellsL D.tops).length:=by
 have h:=wx w 3 (l:=0) rfl hr (Nat.zero_le _)
 rw [show D.tops.drop 0=D.tops from rfl,gS hr w rfl (Nat.zero_le _)] at h
 rw [← h]
 have:=wE (xs:=(cellsL D.tops).map (D.wayF 0 r)) (acc:=[])
 simpa using this
section
variable {W n:Nat}
theorem Ca {ns:List Int} {be ba aX aw ac ao bp bn bk r:Nat} {rules:List cF} {ev:PyData} {D:Dia} {K:List AO} (hW:9500≤W) (w:WF D) (h:HoldsAt 0 D K) (hc:aI K=true) (hn:D.nodes.length≤200) (hm:D.memo.length≤200) (hr:r < D.nodes.length):
  ∃ u v T,(∀ o∈T,plainO o=true)∧Dg.execs prog W (n + 289) (b_law.drop 10) (LA (iJ ns be ba aX rules ev aw ac ao bp bn bk++[.d (iD r),.d (.list ((cellsL D.tops).map cellD))]) K)=
   Dg.execs prog W (n + 287) (b_law.drop 12) (yI (some (.d (.list (ns.map .int)))) (some (.d (.list ((bP ns).map .int)))) (some (.d (.tuple [iD be,iD ba,iD aX]))) (some (.d (.list (rules.map ruleD)))) (some (.d ev)) (some (.d (.tuple [iD bp,iD bn,iD bk]))) (some (.o 0)) (some (.o 4)) (some (.d (iD r))) (some (.d (.list ((cellsL D.tops).map cellD)))) aw ac ao u v K ((D.waysN r).map (takenR [aw,ac,ao])) T):=by
 have F:Fits D:=⟨w.tops,by exact zb1 ‹_› rfl,by exact zb1 ‹_› rfl⟩
 have cl:(cellsL D.tops).length≤125:=by rw [fh]; have:=(mP w (l:=0) (by decide)).1; rw [show D.tops.drop 0=D.tops from rfl] at this; exact this
 have wl:=oj w hr
 have wc:=fun (loc:List (Option AV)) (j:Nat)=>oi (W:=W) (n:=j) (σ:={ loc:=loc,out:=[],heap:=K++[.list []] }) (most:=(cellsL D.tops).length) (by exact zi ‹_› rfl) w (h.app _) (c8 hc (by simp [plainO])) F (by exact zb1 ‹_› rfl) hr wl
 have hw:D.waysP 3 0 r=D.waysN r:=gS hr w rfl (Nat.zero_le _)
 have ok:=pj w 3 (l:=0) rfl hr (Nat.zero_le _)
 rw [hw] at ok
 refine dB (sX (W:=W) (n:=n + 246) (a0:=some (.d (.list (ns.map .int)))) (a1:=some (.d (.list ((bP ns).map .int)))) (a2:=some (.d (.tuple [iD be,iD ba,iD aX]))) (a3:=some (.d (.list (rules.map ruleD)))) (a4:=some (.d ev)) (a6:=some (.d (.tuple [iD bp,iD bn,iD bk]))) (a7:=some (.o 0)) (a8:=some (.o 4)) (a9:=some (.d (iD r))) (a10:=some (.d (.list ((cellsL D.tops).map cellD)))) (aw:=aw) (ac:=ac) (ao:=ao) (K:=K) (ws:=D.waysN r) (l12:=none) (l13:=none) (taken:=[]) (T:=[]) (fun x mx=>⟨by have:=(ok x mx).2.2.1; exact zb1 ‹_› rfl,fun en men=>((ok x mx).1 en men).2.1⟩) (by decide) (by simp only [List.length_nil]; lia)) fun u v T hT e=>?_
 refine (fc u v T hT ?_)
 rw [List.nil_append] at e
 unfold b_law
 simp only [List.drop_succ_cons,List.drop_zero]
 rw [bO (aa:=yI (some (.d (.list (ns.map .int)))) (some (.d (.list ((bP ns).map .int)))) (some (.d (.tuple [iD be,iD ba,iD aX]))) (some (.d (.list (rules.map ruleD)))) (some (.d ev)) (some (.d (.tuple [iD bp,iD bn,iD bk]))) (some (.o 0)) (some (.o 4)) (some (.d (iD r))) (some (.d (.list ((cellsL D.tops).map cellD)))) aw ac ao none none K [] []) rfl]
 rw [bO ?_]
 simp only [yI,Dl,pZ,List.map_nil] at e wc ⊢
 simp only [bm,af,aM,br,ai,ag,bq,aE,aP,aW,aR,mf,ef,az,List.getElem?_cons_zero,List.getElem?_cons_succ,if_true,dz,List.length_map,(show (cellsL D.tops).length≤2000000 by exact zb1 ‹_› rfl),wc,e]
end
theorem vp {x y:Int} {be ba aX:Nat}:∃ a val:Nat,a < 4∧binD .mod (.int x) (.int 4)=some (iD a)∧∃ m:Nat,itemAt [iD be,iD ba,iD aX,.int 0] (a:Int)=some (iD m)∧m=([be,ba,aX][a]?).getD 0∧
  binD .mod (.int y) (.int ((m:Int) + 1))=some (iD val)∧val≤m:=by
 refine aB (fw x 4 (by exact yC)) fun a ea la=>?_
 have m1:binD .mod (.int x) (.int 4)=some (iD a):=by refine (ei (by decide)).trans ?_; exact congrArg (fun z=>some (PyData.int z)) ea
 have key:∀ m:Nat,∃ val:Nat,binD .mod (.int y) (.int ((m:Int) + 1))=some (iD val)∧val≤m:=fun m=>by
  refine aB (fw y (m + 1) (by exact yC)) fun v ev lv=>?_
  refine (m1a2 v ?_ (by exact zh ‹_›))
  refine (ei (by lia)).trans ?_
  exact congrArg (fun z=>some (PyData.int z)) ev
 have g:∃ m:Nat,itemAt [iD be,iD ba,iD aX,.int 0] (a:Int)=some (iD m)∧m=([be,ba,aX][a]?).getD 0:=n4 la ⟨be,rfl,rfl⟩ ⟨ba,rfl,rfl⟩ ⟨aX,rfl,rfl⟩ ⟨0,rfl,rfl⟩
 refine aB g fun m g1 g2=>aB (key m) fun v h1 h2=>?_
 exact (dr a v la m1 (xN m g1 g2 h1 h2))
section
variable {W n:Nat}
noncomputable def tk2 (a0 a1 a2 a3 a4 a5 a6 a7 a8 a9 a10 a11 a12 a13 a14 a15:Option AV) (H:List AO):AS:=
 { loc:=[a0,a1,a2,a3,a4,a5,a6,a7,a8,a9,a10,a11,a12,a13,a14,a15,none,none,none,none,none,none,none,none,none,none,none,none,none],out:=[],heap:=H }
theorem B9 {ns:List Int} {be ba aX:Nat} {a0 a3 a4 a5 a6 a7 a8 a9 a10 a11 u v:Option AV} {H:List AO} {var val m:Nat} (m1:binD .mod (.int (((bP ns)[3]?).getD 0)) (.int 4)=some (iD var)) (im:itemAt [iD be,iD ba,iD aX,.int 0] (var:Int)=some (iD m)) (m2:binD .mod (.int (((bP ns)[4]?).getD 0)) (.int ((m:Int) + 1))=some (iD val)):
  Dg.execs prog W (n + 287) (b_law.drop 12) (tk2 a0 (some (.d (.list ((bP ns).map .int)))) (some (.d (.tuple [iD be,iD ba,iD aX]))) a3 a4 a5 a6 a7 a8 a9 a10 a11 u v none none H)=
   Dg.execs prog W (n + 285) (b_law.drop 14) (tk2 a0 (some (.d (.list ((bP ns).map .int)))) (some (.d (.tuple [iD be,iD ba,iD aX]))) a3 a4 a5 a6 a7 a8 a9 a10 a11 u v (some (.d (iD var))) (some (.d (iD val))) H):=by
 have tl:(bP ns).length=18:=rfl
 have i3:itemAt ((bP ns).map .int) 3=some (.int (((bP ns)[3]?).getD 0)):=dK (k:=3) (by exact A8 ‹_› rfl) (by exact vb ‹_› rfl)
 have i4:itemAt ((bP ns).map .int) 4=some (.int (((bP ns)[4]?).getD 0)):=dK (k:=4) (by exact A8 ‹_› rfl) (by exact vb ‹_› rfl)
 have bt:binD .add (.tuple [iD be,iD ba,iD aX]) (.tuple [.int 0])=some (.tuple [iD be,iD ba,iD aX,.int 0]):=pO (by simp)
 unfold b_law
 simp only [List.drop_succ_cons,List.drop_zero]
 rw [bO (aa:=tk2 a0 (some (.d (.list ((bP ns).map .int)))) (some (.d (.tuple [iD be,iD ba,iD aX]))) a3 a4 a5 a6 a7 a8 a9 a10 a11 u v (some (.d (iD var))) none H) (by simp only [tk2,av,ay,af,aQ,aD,ae,aE,aY,aL,bZ,aR,bf,gw,AS.setLoc,List.getElem?_cons_zero,List.getElem?_cons_succ,List.set_cons_zero,List.set_cons_succ,dp,i3,m1])]
 rw [bO (aa:=tk2 a0 (some (.d (.list ((bP ns).map .int)))) (some (.d (.tuple [iD be,iD ba,iD aX]))) a3 a4 a5 a6 a7 a8 a9 a10 a11 u v (some (.d (iD var))) (some (.d (iD val))) H) (by simp only [tk2,av,ay,af,aQ,aD,aG,ai,ag,ae,aE,aP,aW,aY,aL,bZ,aR,bf,cV,gw,AS.setLoc,az,AS.freezeAll,List.getElem?_cons_zero,List.getElem?_cons_succ,List.set_cons_zero,List.set_cons_succ,bz,dp,i4,bt,im,cg,m2])]
end
section
variable {W n:Nat}
theorem x3 {σ:AS} {var val k:Nat} {K T:List AO} {rs:List cF} (hk:k=K.length) (hH:σ.heap=K++(.list (rs.map ruleD) :: T)) (hc:aI (K++(.dead :: T))=true) (hr:∀ r∈rs,r.1.length≤100) (hl:rs.length≤1000):
  callF prog W (n + 70) 25 [.o k,.d (iD var),.d (iD val)] σ=some (.d (.list ((rs.flatMap (fixR var val)).map ruleD)),{ σ with heap:=K++(.dead :: T) }):=by
 subst hk
 refine oY (by rw [hH]; simp) hc (fun loc out T'=>?_) hr hl
 rw [hH]
 have g:(K++(.list (rs.map ruleD) :: T)++T')[K.length]?=some (.list (rs.map ruleD)):=kA yT
 refine (qU (show ({ loc:=loc,out:=out,heap:=K++(.list (rs.map ruleD) :: T)++T' }:AS).heap[K.length]?=_ from g)).trans ?_
 simp only [AS.put]
 rw [yK yT,zy]
theorem x4 {σ:AS} {var val:Nat} {rs:List cF} (hc:aI σ.heap=true) (hr:∀ r∈rs,r.1.length≤100) (hl:rs.length≤1000):
  callF prog W (n + 70) 25 [.d (.list (rs.map ruleD)),.d (iD var),.d (iD val)] σ=some (.d (.list ((rs.flatMap (fixR var val)).map ruleD)),σ):=
 oY rfl hc (fun zz zz zz=>rfl) hr hl
end
section
variable {W n:Nat}
theorem BU:Val (.str (Str.ofString "none")):=⟨by decide +kernel,by decide⟩
theorem B8 {a0 a1 a2 a5 a7 a9 a10 u v:Option AV} {bp bn bk cD cZ cY var val:Nat} {T:List Nat} {rules taken:List cF} {ev:PyData} {K G:List AO} (hW:9500≤W) (hq:Perm3 bp bn bk) (lv:cD≤4∧cZ≤4∧cY≤4)
  (nE:cD=(T[bp]?).getD 0) (nD:cZ=(T[bn]?).getD 0) (nC:cY=(T[bk]?).getD 0) (rv:∀ r∈rules,RuleV T r) (tv:∀ r∈taken,RuleV T r) (rl:rules.length=3) (tl:taken.length≤125) (hv:Val ev)
  (hH:HoldsAt 4 (dia0 [cD,cZ,cY]) K) (hc:aI K=true) (hG:∀ o∈G,plainO o=true)
  (same:∀ x y z,(dia0 [cD,cZ,cY]).Box 0 [x,y,z]→saidV (vals3 (some (var,val)) bp bn bk x y z) taken (.str (Str.ofString "none"))=saidV (vals3 (some (var,val)) bp bn bk x y z) rules ev):
  ∃ σ',Dg.execs prog W (n + 285) (b_law.drop 14) (tk2 a0 a1 a2 (some (.d (.list (rules.map ruleD)))) (some (.d ev)) a5 (some (.d (.tuple [iD bp,iD bn,iD bk]))) a7 (some (.o 4)) a9 a10 (some (.o K.length)) u v (some (.d (iD var))) (some (.d (iD val))) (K++(.list (taken.map ruleD) :: G)))=some (.ret (.d (.bool true)),σ'):=by
 have w0:=tK lv.1 lv.2.1 lv.2.2
 have hK1:HoldsAt 4 (dia0 [cD,cZ,cY]) (K++(.dead :: G)):=hH.app _
 have hc1:aI (K++(.dead :: G))=true:=c8 hc (fun o m=>by
  rcases List.mem_cons.mp m with rfl | m
  ·rfl
  ·exact hG o m)
 have f1:=fun (loc:List (Option AV)) (j:Nat)=>x3 (W:=W) (n:=j) (σ:=⟨loc,[],K++(.list (taken.map ruleD) :: G)⟩) (var:=var) (val:=val) (k:=K.length) (rs:=taken) rfl rfl hc1 (fun r m=>by have:=(tv r m).len; exact zb1 ‹_› rfl) (by exact zb1 ‹_› rfl)
 have fl:∀ rs:List cF,(rs.flatMap (fixR var val)).length≤rs.length:=fun rs=>by
  have:=gJ (f:=fixR var val) (m:=1) (xs:=rs) fun r zz=>qV
  lia
 have okD:∀ (D:Dia),D.tops=[cD,cZ,cY]→∀ (rs:List cF),(∀ r∈rs,RuleV T r)→∀ r∈rs.flatMap (fixR var val),RuleOk D [bp,bn,bk] r:=fun D hD rs h r m=>by
  refine aB (List.mem_flatMap.mp m) fun x mx m=>?_
  exact x6 (qo hq (h x mx) (by rw [hD,nE,nD,nC])) m
 have d0:(dia0 [cD,cZ,cY]).nodes.length=0:=rfl
 have d0':(dia0 [cD,cZ,cY]).memo.length=0:=rfl
 have l1:=fl taken
 have l2:=fl rules
 refine vh (jT (W:=W) (n:=n + 102) (b:=4) (σ:=tk2 a0 a1 a2 (some (.d (.list (rules.map ruleD)))) (some (.d ev)) a5 (some (.d (.tuple [iD bp,iD bn,iD bk]))) a7 (some (.o 4)) a9 a10 (some (.o K.length)) u v (some (.d (iD var))) (some (.d (iD val))) (K++(.dead :: G))) (aw:=bp) (ac:=bn) (ao:=bk) (rules:=taken.flatMap (fixR var val)) (ev:=.str (Str.ofString "none")) (by exact zi ‹_› rfl) w0 hK1 hc1 (by rw [d0]; lia) (by rw [d0']; lia) BU (okD _ rfl taken tv)) fun fm eX b1 w1 E1 n1 m1 h1 val1=>?_
 have t1:fm.tops=[cD,cZ,cY]:=E1.tops
 have hc2:aI (bQ 4 fm (K++(.dead :: G)))=true:=b9 hc1
 have f2:=fun (loc:List (Option AV)) (j:Nat)=>x4 (W:=W) (n:=j) (σ:=⟨loc,[],bQ 4 fm (K++(.dead :: G))⟩) (var:=var) (val:=val) (rs:=rules) hc2 (fun r m=>by have:=(rv r m).len; exact zb1 ‹_› rfl) (by exact vb ‹_› rfl)
 refine vh (jT (W:=W) (n:=n + 100) (b:=4) (σ:=tk2 a0 a1 a2 (some (.d (.list (rules.map ruleD)))) (some (.d ev)) a5 (some (.d (.tuple [iD bp,iD bn,iD bk]))) a7 (some (.o 4)) (some (.d (iD eX))) a10 (some (.o K.length)) u v (some (.d (iD var))) (some (.d (iD val))) (bQ 4 fm (K++(.dead :: G)))) (aw:=bp) (ac:=bn) (ao:=bk) (rules:=rules.flatMap (fixR var val)) (ev:=ev) (by exact zi ‹_› rfl) w1 (hK1.upd E1.tops) hc2 (by lia) (by lia) hv (okD fm t1 rules rv)) fun cy gi b2 w2 E2 n2 m2 h2 val2=>?_
 have t2:cy.tops=[cD,cZ,cY]:=by rw [E2.tops,t1]
 have el:=E2.len
 have nd:∀ rs:List cF,(∀ r∈rs,RuleV T r)→∀ r∈rs,(r.1.map (·.1)).Nodup∧∀ t∈r.1,t.1 < 3:=fun rs h r m=>⟨(h r m).nodup,fun t mt=>((h r m).spans t mt).1⟩
 have eq:eX=gi:=by
  refine yY w2.wf 3 (l:=0) rfl (by exact mE ‹_› ‹_›) h2 (Nat.zero_le _) (Nat.zero_le _) fun c hb=>?_
  have hb1:fm.Box 0 c:=E2.box.mp hb
  have hb0:=E1.box.mp hb1
  refine n5 (jk hb) fun x y z e_1=>?_; subst e_1
  rw [E2.val w1.wf h1 hb1,val1 _ hb0,val2 _ hb1,sw hq (nd taken tv),sw hq (nd rules rv)]
  exact same x y z hb0
 induction eq
 have hF:∀ c,cy.Box 0 c→cy.val 0 eX c=FV (some (var,val)) bp bn bk rules ev c:=fun c hb=>by
  refine n5 (jk hb) fun x y z e_2=>?_; subst e_2
  rw [val2 _ (E2.box.mp hb),sw hq (nd rules rv)]
  rfl
 have hK2:HoldsAt 4 cy (bQ 4 cy (K++(.dead :: G))):=hK1.upd (E1.trans E2).tops
 refine gD (qi (b:=4) (H:=bQ 4 cy (K++(.dead :: G))) (fx:=some (var,val)) (rs:=rules) (e:=ev) hW w2.wf hK2 (b9 hc1) (by lia) (by lia) h2 hq (fun q m=>⟨by have:=(rv q m).len; exact zb1 ‹_› rfl,fun t mt=>((rv q m).spans t mt).1⟩) hF) fun g1 g2 g3=>?_
 have hs:=hK2.self
 have fxs:fxD (some (var,val))=[(iD var,iD val)]:=rfl
 rw [fxs] at g2 g3
 simp only [tk2] at b1 b2
 rw [dL] at b2
 unfold b_law
 simp only [List.drop_succ_cons,List.drop_zero]
 rw [bO (aa:=tk2 a0 a1 a2 (some (.d (.list (rules.map ruleD)))) (some (.d ev)) a5 (some (.d (.tuple [iD bp,iD bn,iD bk]))) a7 (some (.o 4)) (some (.d (iD eX))) a10 (some (.o K.length)) u v (some (.d (iD var))) (some (.d (iD val))) (bQ 4 fm (K++(.dead :: G)))) (by simp only [tk2,av,cC,af,aM,ai,ag,ae,aE,aP,aL,aR,bf,AS.setLoc,List.getElem?_cons_zero,List.getElem?_cons_succ,List.set_cons_zero,List.set_cons_succ,f1,b1])]
 rw [bO (aa:=tk2 a0 a1 a2 (some (.d (.list (rules.map ruleD)))) (some (.d ev)) a5 (some (.d (.tuple [iD bp,iD bn,iD bk]))) a7 (some (.o 4)) (some (.d (iD eX))) a10 (some (.o K.length)) u v (some (.d (iD var))) (some (.d (iD val))) (bQ 4 cy (K++(.dead :: G)))) (by simp only [tk2,aq,am,aK,aO,c7,af,aM,aC,ai,ag,aE,aP,aV,aR,db,cT,cn,List.getElem?_cons_zero,List.getElem?_cons_succ,f2,b2,zK (show (eX:Int)=eX from rfl)])]
 rw [bO (aa:=tk2 a0 a1 a2 (some (.d (.list (rules.map ruleD)))) (some (.d ev)) a5 (some (.d (.tuple [iD bp,iD bn,iD bk]))) a7 (some (.o 4)) (some (.d (iD eX))) (some (.d (.list ((cellsL cy.tops).map cellD)))) (some (.o K.length)) u v (some (.d (iD var))) (some (.d (iD val))) (bQ 4 cy (K++(.dead :: G)))) (by simp only [tk2,av,af,bl,aM,ai,ag,ae,aE,aP,aL,fA,cM,eM,aR,bf,AS.setLoc,List.getElem?_cons_zero,List.getElem?_cons_succ,List.set_cons_zero,List.set_cons_succ,Nat.reduceAdd,hs,g1])]
 simp only [tk2,aq,am,aO,af,aM,lU,ai,ag,aE,aP,bZ,ie,aR,cT,cn,AS.alloc,List.getElem?_cons_zero,List.getElem?_cons_succ,g2,g3]
 exact ⟨_,rfl⟩
end
theorem vt {bp bn bk x y z var val:Nat} {T:List Nat} (p:Perm3 bp bn bk) (hx:x≤(T[bp]?).getD 0) (hy:y≤(T[bn]?).getD 0) (hz:z≤(T[bk]?).getD 0) (hv:val≤(T[var]?).getD 0):
  ∃ a b c,vals3 (some (var,val)) bp bn bk x y z=[a,b,c]∧∀ i,i < 3→(([a,b,c][i]?).getD 0)≤(T[i]?).getD 0:=by
 have g:∀ {q d:Nat},d≤(T[q]?).getD 0→fget (some (var,val)) q d≤(T[q]?).getD 0:=fun {q d} h=>by
  simp only [fget]
  split
  ·rename_i e; rw [← e]; exact hv
  ·exact h
 have gx:=g hx
 have gy:=g hy
 have gz:=g hz
 induction p <;> exact (fc _ _ _ rfl (fun i hi=>n3 hi (by first | exact gx | exact gy | exact gz) (by first | exact gx | exact gy | exact gz) (by first | exact gx | exact gy | exact gz)))
theorem tj {aw ac ao be ba aX:Nat} (hT:TopsOk be ba aX) (p:Perm3 aw ac ao):([be,ba,aX][aw]?).getD 0≤4∧([be,ba,aX][ac]?).getD 0≤4∧([be,ba,aX][ao]?).getD 0≤4:=by
 refine gD hT.le fun a b c=>?_
 induction p <;> simp <;> exact ⟨‹_›,‹_›,‹_›⟩
theorem wm {W:Nat} {ns:List Int} (hl:ns.length≤63) (hW:9500≤W):∃ σ',callF prog W 300 26 [.d (.list (ns.map .int))] ⟨[],[],[]⟩=some (.d (.bool true),σ'):=by
 refine Cc (W:=W) hl hW fun be ba aX aw ac ao bp bn bk cR cQ cP cD cZ cY rules ev hT hp hq rv rl hv nJ nI nH nE nD nC ha=>?_
 have lu:cR≤4∧cQ≤4∧cP≤4:=by rw [nJ,nI,nH]; exact tj hT hp
 have lv:cD≤4∧cZ≤4∧cY≤4:=by rw [nE,nD,nC]; exact tj hT hq
 refine vh (Cb (W:=W) (n:=0) (ns:=ns) (bp:=bp) (bn:=bn) (bk:=bk) (cD:=cD) (cZ:=cZ) (cY:=cY) hW hT hp rv rl hv nJ nI nH lu) fun D r w ht hn hm hr hF hb=>?_
 have hc0:aI (bv [cR,cQ,cP] 0++bv [cD,cZ,cY] 4)=true:=fF (H:=bv [cR,cQ,cP] 0) (fF (H:=[]) rfl)
 have hc:aI (bQ 0 D (bv [cR,cQ,cP] 0++bv [cD,cZ,cY] 4)++[.dict []])=true:=c8 (b9 hc0) (by simp [plainO])
 have hH0:HoldsAt 0 (dia0 [cR,cQ,cP]) (bv [cR,cQ,cP] 0++bv [cD,cZ,cY] 4):=(iS [cR,cQ,cP] []).app _
 have h0:HoldsAt 0 D (bQ 0 D (bv [cR,cQ,cP] 0++bv [cD,cZ,cY] 4)++[.dict []]):=(hH0.upd ht).app _
 have h4:HoldsAt 4 (dia0 [cD,cZ,cY]) (bQ 0 D (bv [cR,cQ,cP] 0++bv [cD,cZ,cY] 4)++[.dict []]):=(rM (iS [cD,cZ,cY] (bv [cR,cQ,cP] 0)) (.inr (Nat.le_refl 4))).app _
 refine dB (Ca (W:=W) (n:=0) (ns:=ns) (be:=be) (ba:=ba) (aX:=aX) (aw:=aw) (ac:=ac) (ao:=ao) (bp:=bp) (bn:=bn) (bk:=bk) (rules:=rules) (ev:=ev) hW w.wf h0 hc hn hm hr) fun u v G hG hcc=>?_
 refine cu (vp (x:=((bP ns)[3]?).getD 0) (y:=((bP ns)[4]?).getD 0) (be:=be) (ba:=ba) (aX:=aX)) fun var val zz m1 t_1=>?_; refine t4 t_1 fun m im em m2 lm=>?_
 have hD:D.tops=[([be,ba,aX][aw]?).getD 0,([be,ba,aX][ac]?).getD 0,([be,ba,aX][ao]?).getD 0]:=by rw [ht,nJ,nI,nH]
 have hw:D.waysP 3 0 r=D.waysN r:=gS hr w.wf rfl (Nat.zero_le _)
 have ok:=pj w.wf 3 (l:=0) rfl hr (Nat.zero_le _)
 rw [hw] at ok
 have tv:∀ x∈(D.waysN r).map (takenR [aw,ac,ao]),RuleV [be,ba,aX] x:=fun x mx=>by
  refine aB (List.mem_map.mp mx) fun y my e_2=>?_; subst e_2
  refine gC (ok y my) fun k1 k2 k3 k4=>?_
  exact vC hp hD k1 k2 k3 k4
 have tl:((D.waysN r).map (takenR [aw,ac,ao])).length≤125:=by
  have cl:(cellsL D.tops).length≤125:=by rw [fh]; have:=(mP w.wf (l:=0) (by decide)).1; rw [show D.tops.drop 0=D.tops from rfl] at this; exact this
  have wl:=oj w.wf hr
  rw [List.length_map]; exact sT ‹_› ‹_›
 have same:∀ x y z,(dia0 [cD,cZ,cY]).Box 0 [x,y,z]→saidV (vals3 (some (var,val)) bp bn bk x y z) ((D.waysN r).map (takenR [aw,ac,ao])) (.str (Str.ofString "none"))=saidV (vals3 (some (var,val)) bp bn bk x y z) rules ev:=fun x y z hb=>by
  refine pV hb fun zz hx zz hy zz hz zz=>?_; clear hb
  refine dB (vt (T:=[be,ba,aX]) (var:=var) (val:=val) hq (x:=x) (y:=y) (z:=z) (Nat.le_trans hx (Nat.le_of_eq nE)) (Nat.le_trans hy (Nat.le_of_eq nD)) (Nat.le_trans hz (Nat.le_of_eq nC)) (by exact Fv ‹_› ‹_›)) fun a b c e le=>?_
  exact e▸vB w.wf hp hD hr hF le
 obtain ⟨σ',he⟩:=B8 (W:=W) (n:=0) (a0:=some (.d (.list (ns.map .int)))) (a1:=some (.d (.list ((bP ns).map .int)))) (a2:=some (.d (.tuple [iD be,iD ba,iD aX]))) (a5:=some (.d (.tuple [iD aw,iD ac,iD ao]))) (a7:=some (.o 0)) (a9:=some (.d (iD r))) (a10:=some (.d (.list ((cellsL D.tops).map cellD)))) (u:=u) (v:=v) (K:=bQ 0 D (bv [cR,cQ,cP] 0++bv [cD,cZ,cY] 4)++[.dict []]) (G:=G) hW hq lv nE nD nC rv tv rl tl hv h4 hc hG same
 have hd:=B9 (W:=W) (n:=0) (ns:=ns) (a0:=some (.d (.list (ns.map .int)))) (a3:=some (.d (.list (rules.map ruleD)))) (a4:=some (.d ev)) (a5:=some (.d (.tuple [iD aw,iD ac,iD ao]))) (a6:=some (.d (.tuple [iD bp,iD bn,iD bk]))) (a7:=some (.o 0)) (a8:=some (.o 4)) (a9:=some (.d (iD r))) (a10:=some (.d (.list ((cellsL D.tops).map cellD)))) (a11:=some (.o (bQ 0 D (bv [cR,cQ,cP] 0++bv [cD,cZ,cY] 4)++[AO.dict []]).length)) (u:=u) (v:=v) (H:=(bQ 0 D (bv [cR,cQ,cP] 0++bv [cD,cZ,cY] 4)++[.dict []])++(.list (((D.waysN r).map (takenR [aw,ac,ao])).map ruleD) :: G)) m1 im m2
 have run:Dg.execs prog W 299 b_law (LA [.d (.list (ns.map .int))] [])=some (.ret (.d (.bool true)),σ'):=
  (ha 0).trans (hb.trans (hcc.trans (hd.trans he)))
 refine ⟨{ loc:=[],out:=[],heap:=fV 0 σ'.heap },?_⟩
 have:=bh (P:=prog) (W:=W) (n:=299) (f:=26) (vs:=[.d (.list (ns.map .int))]) (fd:=⟨1,29,b_law⟩) (σ:=⟨[],[],[]⟩) rfl rfl
 refine (this).trans ?_
 simp only [LA,LS] at run
 simp only [List.map_cons,List.map_nil,List.replicate,List.cons_append,List.nil_append,Nat.reduceSub]
 rw [run]
 rfl
end Dg
end
section
open PySem PySem.W PyProof.Rows PySem.Calls PyProof
namespace Dg
set_option tactic.hygienic true in
set_option maxHeartbeats 8000000 in
theorem join:PySem.Challenge.rw_pq1074_01.Holds:=by
 refine GM ?_
 w_strict (
 k_fill
 intro w aw ac mg mb G Y fa o pm cd doc dV kV ho hd hcd hD hmg hg args vals as hpre hlay hrd hwl hlo
 have KX:=kIn_of Y
 refine Ground.open G ?_
 intro T B D TE TW
 wrow_args hpre hlay hrd hwl hlo
 all_goals (
  first | refine callC_kw (enter_call ?_) | refine enter_call ?_ | refine callC_kw (enter_callW ?_) | refine enter_callW ?_ | w_how
  w_top on
  try refine codeAny_mono ?_ (fun zz zz g=>GoodW.toG g)
  have hfa:fa=243:=by
   have e:=hmg.symm.trans (mg_of KX T.g (n:="law") rfl)
   cases e; rfl
  subst hfa
  rename_i ns _ _ _ _ _ _ _ _ _ _ _ _ hw _ _ _ hcn _
  obtain ⟨σ',he⟩:=wm (W:=10000) (ns:=ns) (by lia) (by decide)
  refine xx (G:=Cr PySem.Challenge.rw_pq1074_01.row.prog w ac.heap _ _ mg mb) (n:=299) (E7 KX T) (f:=26) (ps:=[.d (.list (ns.map .int))]) (vs:=[_]) rfl ⟨xy hw,trivial⟩ ⟨rfl,by decide,by decide⟩ he (fun v h' tk k r=>?_)
  subst r
  refine ⟨.inl ⟨.bool true,.bool true,[],rfl,?_,?_,?_,?_⟩,k,rfl,hg⟩
  ·intro cls; first | rfl | wrow_none_raised
  ·exact .bool true
  ·first | rfl | wrow_post
  ·exact fun zz=>⟨List.nodup_nil,fun a h=>by cases h⟩))
end Dg
end
theorem PySem.Challenge.cw_pq1074_01_holds : PySem.Challenge.rw_pq1074_01.Holds := by
 exact Dg.join