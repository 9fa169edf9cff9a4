import PyProof.Rows.All
import PyProof.AttrMissHeap
import PyProof.Rows.Walk
import PyProof.Rows.SortWalk
import KE.KDictList
import KE.KDictOf
import Wide.FinOn
import OpenK.AllK
import Wide.All
import Lean
import PySem.Challenge.RW_pf0217_01
set_option Elab.async false
set_option maxRecDepth 100000
set_option maxHeartbeats 8000000
set_option linter.all false
set_option genSizeOf false
set_option genInjectivity false
set_option bootstrap.genMatcherCode false
set_option compiler.extract_closed false
set_option genCtorIdx false
open Option renaming some→rc
open Option renaming none→re
open Bool renaming true→rg
open Bool renaming false→rj
namespace Mine.Internal
noncomputable abbrev VP := PySem.Value → PySem.Shared → Prop
theorem bX {P0 P1:Prop}{G:Prop}(h:P0/\P1)(k:P0->P1->G):G:=by
 obtain⟨h0,h1⟩:=h;exact k  h0 h1
theorem gh {P0 P1 P2:Prop}{G:Prop}(h:P0/\P1/\P2)(k:P0->P1->P2->G):G:=by
 obtain⟨h0,h1,h2⟩:=h;exact k  h0 h1 h2
theorem kO {P0 P1 P2 P3:Prop}{G:Prop}(h:P0/\P1/\P2/\P3)(k:P0->P1->P2->P3->G):G:=by
 obtain⟨h0,h1,h2,h3⟩:=h;exact k  h0 h1 h2 h3
theorem zc5 {P0 P1 P2 P3 P4:Prop}{G:Prop}(h:P0/\P1/\P2/\P3/\P4)(k:P0->P1->P2->P3->P4->G):G:=by
 obtain⟨h0,h1,h2,h3,h4⟩:=h;exact k  h0 h1 h2 h3 h4
theorem fk {a0:Type}{P0:a0->Prop}{G:Prop}(h:∃ x0,P0 x0)(k:∀ x0,P0 x0->G):G:=by
 obtain⟨x0,h0⟩:=h;exact k x0 h0
theorem el12 {a0:Type}{P0 P1:a0->Prop}{G:Prop}(h:∃ x0,P0 x0/\P1 x0)(k:∀ x0,P0 x0->P1 x0->G):G:=by
 obtain⟨x0,h0,h1⟩:=h;exact k x0 h0 h1
theorem bf {a0:Type}{P0 P1:a0->Prop}(x0:a0)(h0:P0 x0)(h1:P1 x0):∃ x0,P0 x0/\P1 x0:=⟨x0,h0,h1⟩
theorem el13 {a0:Type}{P0 P1 P2:a0->Prop}{G:Prop}(h:∃ x0,P0 x0/\P1 x0/\P2 x0)(k:∀ x0,P0 x0->P1 x0->P2 x0->G):G:=by
 obtain⟨x0,h0,h1,h2⟩:=h;exact k x0 h0 h1 h2
theorem mZ {a0:Type}{P0 P1 P2:a0->Prop}(x0:a0)(h0:P0 x0)(h1:P1 x0)(h2:P2 x0):∃ x0,P0 x0/\P1 x0/\P2 x0:=⟨x0,h0,h1,h2⟩
theorem el14 {a0:Type}{P0 P1 P2 P3:a0->Prop}{G:Prop}(h:∃ x0,P0 x0/\P1 x0/\P2 x0/\P3 x0)(k:∀ x0,P0 x0->P1 x0->P2 x0->P3 x0->G):G:=by
 obtain⟨x0,h0,h1,h2,h3⟩:=h;exact k x0 h0 h1 h2 h3
theorem oC {a0:Type}{P0 P1 P2 P3:a0->Prop}(x0:a0)(h0:P0 x0)(h1:P1 x0)(h2:P2 x0)(h3:P3 x0):∃ x0,P0 x0/\P1 x0/\P2 x0/\P3 x0:=⟨x0,h0,h1,h2,h3⟩
theorem el15 {a0:Type}{P0 P1 P2 P3 P4:a0->Prop}{G:Prop}(h:∃ x0,P0 x0/\P1 x0/\P2 x0/\P3 x0/\P4 x0)(k:∀ x0,P0 x0->P1 x0->P2 x0->P3 x0->P4 x0->G):G:=by
 obtain⟨x0,h0,h1,h2,h3,h4⟩:=h;exact k x0 h0 h1 h2 h3 h4
theorem zc6 {a0:Type}{P0 P1 P2 P3 P4 P5:a0->Prop}{G:Prop}(h:∃ x0,P0 x0/\P1 x0/\P2 x0/\P3 x0/\P4 x0/\P5 x0)(k:∀ x0,P0 x0->P1 x0->P2 x0->P3 x0->P4 x0->P5 x0->G):G:=by
 obtain⟨x0,h0,h1,h2,h3,h4,h5⟩:=h;exact k x0 h0 h1 h2 h3 h4 h5
theorem in16 {a0:Type}{P0 P1 P2 P3 P4 P5:a0->Prop}(x0:a0)(h0:P0 x0)(h1:P1 x0)(h2:P2 x0)(h3:P3 x0)(h4:P4 x0)(h5:P5 x0):∃ x0,P0 x0/\P1 x0/\P2 x0/\P3 x0/\P4 x0/\P5 x0:=⟨x0,h0,h1,h2,h3,h4,h5⟩
theorem kP {a0 a1:Type}{P0:a0->a1->Prop}{G:Prop}(h:∃ x0 x1,P0 x0 x1)(k:∀ x0 x1,P0 x0 x1->G):G:=by
 obtain⟨x0,x1,h0⟩:=h;exact k x0 x1 h0
theorem el22 {a0 a1:Type}{P0 P1:a0->a1->Prop}{G:Prop}(h:∃ x0 x1,P0 x0 x1/\P1 x0 x1)(k:∀ x0 x1,P0 x0 x1->P1 x0 x1->G):G:=by
 obtain⟨x0,x1,h0,h1⟩:=h;exact k x0 x1 h0 h1
theorem n4 {a0 a1:Type}{P0 P1:a0->a1->Prop}(x0:a0)(x1:a1)(h0:P0 x0 x1)(h1:P1 x0 x1):∃ x0 x1,P0 x0 x1/\P1 x0 x1:=⟨x0,x1,h0,h1⟩
theorem kQ {a0 a1:Type}{P0 P1 P2:a0->a1->Prop}{G:Prop}(h:∃ x0 x1,P0 x0 x1/\P1 x0 x1/\P2 x0 x1)(k:∀ x0 x1,P0 x0 x1->P1 x0 x1->P2 x0 x1->G):G:=by
 obtain⟨x0,x1,h0,h1,h2⟩:=h;exact k x0 x1 h0 h1 h2
theorem zcf {a0 a1:Type}{P0 P1 P2:a0->a1->Prop}(x0:a0)(x1:a1)(h0:P0 x0 x1)(h1:P1 x0 x1)(h2:P2 x0 x1):∃ x0 x1,P0 x0 x1/\P1 x0 x1/\P2 x0 x1:=⟨x0,x1,h0,h1,h2⟩
theorem zc7 {a0 a1:Type}{P0 P1 P2 P3:a0->a1->Prop}{G:Prop}(h:∃ x0 x1,P0 x0 x1/\P1 x0 x1/\P2 x0 x1/\P3 x0 x1)(k:∀ x0 x1,P0 x0 x1->P1 x0 x1->P2 x0 x1->P3 x0 x1->G):G:=by
 obtain⟨x0,x1,h0,h1,h2,h3⟩:=h;exact k x0 x1 h0 h1 h2 h3
theorem in24 {a0 a1:Type}{P0 P1 P2 P3:a0->a1->Prop}(x0:a0)(x1:a1)(h0:P0 x0 x1)(h1:P1 x0 x1)(h2:P2 x0 x1)(h3:P3 x0 x1):∃ x0 x1,P0 x0 x1/\P1 x0 x1/\P2 x0 x1/\P3 x0 x1:=⟨x0,x1,h0,h1,h2,h3⟩
theorem zc8 {a0 a1:Type}{P0 P1 P2 P3 P4:a0->a1->Prop}{G:Prop}(h:∃ x0 x1,P0 x0 x1/\P1 x0 x1/\P2 x0 x1/\P3 x0 x1/\P4 x0 x1)(k:∀ x0 x1,P0 x0 x1->P1 x0 x1->P2 x0 x1->P3 x0 x1->P4 x0 x1->G):G:=by
 obtain⟨x0,x1,h0,h1,h2,h3,h4⟩:=h;exact k x0 x1 h0 h1 h2 h3 h4
theorem el26 {a0 a1:Type}{P0 P1 P2 P3 P4 P5:a0->a1->Prop}{G:Prop}(h:∃ x0 x1,P0 x0 x1/\P1 x0 x1/\P2 x0 x1/\P3 x0 x1/\P4 x0 x1/\P5 x0 x1)(k:∀ x0 x1,P0 x0 x1->P1 x0 x1->P2 x0 x1->P3 x0 x1->P4 x0 x1->P5 x0 x1->G):G:=by
 obtain⟨x0,x1,h0,h1,h2,h3,h4,h5⟩:=h;exact k x0 x1 h0 h1 h2 h3 h4 h5
theorem el27 {a0 a1:Type}{P0 P1 P2 P3 P4 P5 P6:a0->a1->Prop}{G:Prop}(h:∃ x0 x1,P0 x0 x1/\P1 x0 x1/\P2 x0 x1/\P3 x0 x1/\P4 x0 x1/\P5 x0 x1/\P6 x0 x1)(k:∀ x0 x1,P0 x0 x1->P1 x0 x1->P2 x0 x1->P3 x0 x1->P4 x0 x1->P5 x0 x1->P6 x0 x1->G):G:=by
 obtain⟨x0,x1,h0,h1,h2,h3,h4,h5,h6⟩:=h;exact k x0 x1 h0 h1 h2 h3 h4 h5 h6
theorem el28 {a0 a1:Type}{P0 P1 P2 P3 P4 P5 P6 P7:a0->a1->Prop}{G:Prop}(h:∃ x0 x1,P0 x0 x1/\P1 x0 x1/\P2 x0 x1/\P3 x0 x1/\P4 x0 x1/\P5 x0 x1/\P6 x0 x1/\P7 x0 x1)(k:∀ x0 x1,P0 x0 x1->P1 x0 x1->P2 x0 x1->P3 x0 x1->P4 x0 x1->P5 x0 x1->P6 x0 x1->P7 x0 x1->G):G:=by
 obtain⟨x0,x1,h0,h1,h2,h3,h4,h5,h6,h7⟩:=h;exact k x0 x1 h0 h1 h2 h3 h4 h5 h6 h7
theorem zc9 {a0 a1 a2:Type}{P0:a0->a1->a2->Prop}{G:Prop}(h:∃ x0 x1 x2,P0 x0 x1 x2)(k:∀ x0 x1 x2,P0 x0 x1 x2->G):G:=by
 obtain⟨x0,x1,x2,h0⟩:=h;exact k x0 x1 x2 h0
theorem in31 {a0 a1 a2:Type}{P0:a0->a1->a2->Prop}(x0:a0)(x1:a1)(x2:a2)(h0:P0 x0 x1 x2):∃ x0 x1 x2,P0 x0 x1 x2:=⟨x0,x1,x2,h0⟩
theorem mV {a0 a1 a2:Type}{P0 P1:a0->a1->a2->Prop}{G:Prop}(h:∃ x0 x1 x2,P0 x0 x1 x2/\P1 x0 x1 x2)(k:∀ x0 x1 x2,P0 x0 x1 x2->P1 x0 x1 x2->G):G:=by
 obtain⟨x0,x1,x2,h0,h1⟩:=h;exact k x0 x1 x2 h0 h1
theorem zcg {a0 a1 a2:Type}{P0 P1:a0->a1->a2->Prop}(x0:a0)(x1:a1)(x2:a2)(h0:P0 x0 x1 x2)(h1:P1 x0 x1 x2):∃ x0 x1 x2,P0 x0 x1 x2/\P1 x0 x1 x2:=⟨x0,x1,x2,h0,h1⟩
theorem lE {a0 a1 a2:Type}{P0 P1 P2:a0->a1->a2->Prop}{G:Prop}(h:∃ x0 x1 x2,P0 x0 x1 x2/\P1 x0 x1 x2/\P2 x0 x1 x2)(k:∀ x0 x1 x2,P0 x0 x1 x2->P1 x0 x1 x2->P2 x0 x1 x2->G):G:=by
 obtain⟨x0,x1,x2,h0,h1,h2⟩:=h;exact k x0 x1 x2 h0 h1 h2
theorem in33 {a0 a1 a2:Type}{P0 P1 P2:a0->a1->a2->Prop}(x0:a0)(x1:a1)(x2:a2)(h0:P0 x0 x1 x2)(h1:P1 x0 x1 x2)(h2:P2 x0 x1 x2):∃ x0 x1 x2,P0 x0 x1 x2/\P1 x0 x1 x2/\P2 x0 x1 x2:=⟨x0,x1,x2,h0,h1,h2⟩
theorem np {a0 a1 a2:Type}{P0 P1 P2 P3:a0->a1->a2->Prop}{G:Prop}(h:∃ x0 x1 x2,P0 x0 x1 x2/\P1 x0 x1 x2/\P2 x0 x1 x2/\P3 x0 x1 x2)(k:∀ x0 x1 x2,P0 x0 x1 x2->P1 x0 x1 x2->P2 x0 x1 x2->P3 x0 x1 x2->G):G:=by
 obtain⟨x0,x1,x2,h0,h1,h2,h3⟩:=h;exact k x0 x1 x2 h0 h1 h2 h3
theorem in34 {a0 a1 a2:Type}{P0 P1 P2 P3:a0->a1->a2->Prop}(x0:a0)(x1:a1)(x2:a2)(h0:P0 x0 x1 x2)(h1:P1 x0 x1 x2)(h2:P2 x0 x1 x2)(h3:P3 x0 x1 x2):∃ x0 x1 x2,P0 x0 x1 x2/\P1 x0 x1 x2/\P2 x0 x1 x2/\P3 x0 x1 x2:=⟨x0,x1,x2,h0,h1,h2,h3⟩
theorem oq {a0 a1 a2:Type}{P0 P1 P2 P3 P4:a0->a1->a2->Prop}{G:Prop}(h:∃ x0 x1 x2,P0 x0 x1 x2/\P1 x0 x1 x2/\P2 x0 x1 x2/\P3 x0 x1 x2/\P4 x0 x1 x2)(k:∀ x0 x1 x2,P0 x0 x1 x2->P1 x0 x1 x2->P2 x0 x1 x2->P3 x0 x1 x2->P4 x0 x1 x2->G):G:=by
 obtain⟨x0,x1,x2,h0,h1,h2,h3,h4⟩:=h;exact k x0 x1 x2 h0 h1 h2 h3 h4
theorem zch {a0 a1 a2:Type}{P0 P1 P2 P3 P4:a0->a1->a2->Prop}(x0:a0)(x1:a1)(x2:a2)(h0:P0 x0 x1 x2)(h1:P1 x0 x1 x2)(h2:P2 x0 x1 x2)(h3:P3 x0 x1 x2)(h4:P4 x0 x1 x2):∃ x0 x1 x2,P0 x0 x1 x2/\P1 x0 x1 x2/\P2 x0 x1 x2/\P3 x0 x1 x2/\P4 x0 x1 x2:=⟨x0,x1,x2,h0,h1,h2,h3,h4⟩
theorem el36 {a0 a1 a2:Type}{P0 P1 P2 P3 P4 P5:a0->a1->a2->Prop}{G:Prop}(h:∃ x0 x1 x2,P0 x0 x1 x2/\P1 x0 x1 x2/\P2 x0 x1 x2/\P3 x0 x1 x2/\P4 x0 x1 x2/\P5 x0 x1 x2)(k:∀ x0 x1 x2,P0 x0 x1 x2->P1 x0 x1 x2->P2 x0 x1 x2->P3 x0 x1 x2->P4 x0 x1 x2->P5 x0 x1 x2->G):G:=by
 obtain⟨x0,x1,x2,h0,h1,h2,h3,h4,h5⟩:=h;exact k x0 x1 x2 h0 h1 h2 h3 h4 h5
theorem in36 {a0 a1 a2:Type}{P0 P1 P2 P3 P4 P5:a0->a1->a2->Prop}(x0:a0)(x1:a1)(x2:a2)(h0:P0 x0 x1 x2)(h1:P1 x0 x1 x2)(h2:P2 x0 x1 x2)(h3:P3 x0 x1 x2)(h4:P4 x0 x1 x2)(h5:P5 x0 x1 x2):∃ x0 x1 x2,P0 x0 x1 x2/\P1 x0 x1 x2/\P2 x0 x1 x2/\P3 x0 x1 x2/\P4 x0 x1 x2/\P5 x0 x1 x2:=⟨x0,x1,x2,h0,h1,h2,h3,h4,h5⟩
theorem el41 {a0 a1 a2 a3:Type}{P0:a0->a1->a2->a3->Prop}{G:Prop}(h:∃ x0 x1 x2 x3,P0 x0 x1 x2 x3)(k:∀ x0 x1 x2 x3,P0 x0 x1 x2 x3->G):G:=by
 obtain⟨x0,x1,x2,x3,h0⟩:=h;exact k x0 x1 x2 x3 h0
theorem ot {a0 a1 a2 a3:Type}{P0 P1:a0->a1->a2->a3->Prop}{G:Prop}(h:∃ x0 x1 x2 x3,P0 x0 x1 x2 x3/\P1 x0 x1 x2 x3)(k:∀ x0 x1 x2 x3,P0 x0 x1 x2 x3->P1 x0 x1 x2 x3->G):G:=by
 obtain⟨x0,x1,x2,x3,h0,h1⟩:=h;exact k x0 x1 x2 x3 h0 h1
theorem el43 {a0 a1 a2 a3:Type}{P0 P1 P2:a0->a1->a2->a3->Prop}{G:Prop}(h:∃ x0 x1 x2 x3,P0 x0 x1 x2 x3/\P1 x0 x1 x2 x3/\P2 x0 x1 x2 x3)(k:∀ x0 x1 x2 x3,P0 x0 x1 x2 x3->P1 x0 x1 x2 x3->P2 x0 x1 x2 x3->G):G:=by
 obtain⟨x0,x1,x2,x3,h0,h1,h2⟩:=h;exact k x0 x1 x2 x3 h0 h1 h2
theorem ou {a0 a1 a2 a3:Type}{P0 P1 P2 P3:a0->a1->a2->a3->Prop}{G:Prop}(h:∃ x0 x1 x2 x3,P0 x0 x1 x2 x3/\P1 x0 x1 x2 x3/\P2 x0 x1 x2 x3/\P3 x0 x1 x2 x3)(k:∀ x0 x1 x2 x3,P0 x0 x1 x2 x3->P1 x0 x1 x2 x3->P2 x0 x1 x2 x3->P3 x0 x1 x2 x3->G):G:=by
 obtain⟨x0,x1,x2,x3,h0,h1,h2,h3⟩:=h;exact k x0 x1 x2 x3 h0 h1 h2 h3
theorem el45 {a0 a1 a2 a3:Type}{P0 P1 P2 P3 P4:a0->a1->a2->a3->Prop}{G:Prop}(h:∃ x0 x1 x2 x3,P0 x0 x1 x2 x3/\P1 x0 x1 x2 x3/\P2 x0 x1 x2 x3/\P3 x0 x1 x2 x3/\P4 x0 x1 x2 x3)(k:∀ x0 x1 x2 x3,P0 x0 x1 x2 x3->P1 x0 x1 x2 x3->P2 x0 x1 x2 x3->P3 x0 x1 x2 x3->P4 x0 x1 x2 x3->G):G:=by
 obtain⟨x0,x1,x2,x3,h0,h1,h2,h3,h4⟩:=h;exact k x0 x1 x2 x3 h0 h1 h2 h3 h4
theorem zci {a0 a1 a2 a3:Type}{P0 P1 P2 P3 P4:a0->a1->a2->a3->Prop}(x0:a0)(x1:a1)(x2:a2)(x3:a3)(h0:P0 x0 x1 x2 x3)(h1:P1 x0 x1 x2 x3)(h2:P2 x0 x1 x2 x3)(h3:P3 x0 x1 x2 x3)(h4:P4 x0 x1 x2 x3):∃ x0 x1 x2 x3,P0 x0 x1 x2 x3/\P1 x0 x1 x2 x3/\P2 x0 x1 x2 x3/\P3 x0 x1 x2 x3/\P4 x0 x1 x2 x3:=⟨x0,x1,x2,x3,h0,h1,h2,h3,h4⟩
theorem el46 {a0 a1 a2 a3:Type}{P0 P1 P2 P3 P4 P5:a0->a1->a2->a3->Prop}{G:Prop}(h:∃ x0 x1 x2 x3,P0 x0 x1 x2 x3/\P1 x0 x1 x2 x3/\P2 x0 x1 x2 x3/\P3 x0 x1 x2 x3/\P4 x0 x1 x2 x3/\P5 x0 x1 x2 x3)(k:∀ x0 x1 x2 x3,P0 x0 x1 x2 x3->P1 x0 x1 x2 x3->P2 x0 x1 x2 x3->P3 x0 x1 x2 x3->P4 x0 x1 x2 x3->P5 x0 x1 x2 x3->G):G:=by
 obtain⟨x0,x1,x2,x3,h0,h1,h2,h3,h4,h5⟩:=h;exact k x0 x1 x2 x3 h0 h1 h2 h3 h4 h5
theorem el52 {a0 a1 a2 a3 a4:Type}{P0 P1:a0->a1->a2->a3->a4->Prop}{G:Prop}(h:∃ x0 x1 x2 x3 x4,P0 x0 x1 x2 x3 x4/\P1 x0 x1 x2 x3 x4)(k:∀ x0 x1 x2 x3 x4,P0 x0 x1 x2 x3 x4->P1 x0 x1 x2 x3 x4->G):G:=by
 obtain⟨x0,x1,x2,x3,x4,h0,h1⟩:=h;exact k x0 x1 x2 x3 x4 h0 h1
theorem oA {a0 a1 a2 a3 a4:Type}{P0 P1 P2 P3:a0->a1->a2->a3->a4->Prop}{G:Prop}(h:∃ x0 x1 x2 x3 x4,P0 x0 x1 x2 x3 x4/\P1 x0 x1 x2 x3 x4/\P2 x0 x1 x2 x3 x4/\P3 x0 x1 x2 x3 x4)(k:∀ x0 x1 x2 x3 x4,P0 x0 x1 x2 x3 x4->P1 x0 x1 x2 x3 x4->P2 x0 x1 x2 x3 x4->P3 x0 x1 x2 x3 x4->G):G:=by
 obtain⟨x0,x1,x2,x3,x4,h0,h1,h2,h3⟩:=h;exact k x0 x1 x2 x3 x4 h0 h1 h2 h3
theorem gp {a0 a1 a2 a3 a4:Type}{P0 P1 P2 P3:a0->a1->a2->a3->a4->Prop}(x0:a0)(x1:a1)(x2:a2)(x3:a3)(x4:a4)(h0:P0 x0 x1 x2 x3 x4)(h1:P1 x0 x1 x2 x3 x4)(h2:P2 x0 x1 x2 x3 x4)(h3:P3 x0 x1 x2 x3 x4):∃ x0 x1 x2 x3 x4,P0 x0 x1 x2 x3 x4/\P1 x0 x1 x2 x3 x4/\P2 x0 x1 x2 x3 x4/\P3 x0 x1 x2 x3 x4:=⟨x0,x1,x2,x3,x4,h0,h1,h2,h3⟩
theorem el59 {a0 a1 a2 a3 a4:Type}{P0 P1 P2 P3 P4 P5 P6 P7 P8:a0->a1->a2->a3->a4->Prop}{G:Prop}(h:∃ x0 x1 x2 x3 x4,P0 x0 x1 x2 x3 x4/\P1 x0 x1 x2 x3 x4/\P2 x0 x1 x2 x3 x4/\P3 x0 x1 x2 x3 x4/\P4 x0 x1 x2 x3 x4/\P5 x0 x1 x2 x3 x4/\P6 x0 x1 x2 x3 x4/\P7 x0 x1 x2 x3 x4/\P8 x0 x1 x2 x3 x4)(k:∀ x0 x1 x2 x3 x4,P0 x0 x1 x2 x3 x4->P1 x0 x1 x2 x3 x4->P2 x0 x1 x2 x3 x4->P3 x0 x1 x2 x3 x4->P4 x0 x1 x2 x3 x4->P5 x0 x1 x2 x3 x4->P6 x0 x1 x2 x3 x4->P7 x0 x1 x2 x3 x4->P8 x0 x1 x2 x3 x4->G):G:=by
 obtain⟨x0,x1,x2,x3,x4,h0,h1,h2,h3,h4,h5,h6,h7,h8⟩:=h;exact k x0 x1 x2 x3 x4 h0 h1 h2 h3 h4 h5 h6 h7 h8
theorem in59 {a0 a1 a2 a3 a4:Type}{P0 P1 P2 P3 P4 P5 P6 P7 P8:a0->a1->a2->a3->a4->Prop}(x0:a0)(x1:a1)(x2:a2)(x3:a3)(x4:a4)(h0:P0 x0 x1 x2 x3 x4)(h1:P1 x0 x1 x2 x3 x4)(h2:P2 x0 x1 x2 x3 x4)(h3:P3 x0 x1 x2 x3 x4)(h4:P4 x0 x1 x2 x3 x4)(h5:P5 x0 x1 x2 x3 x4)(h6:P6 x0 x1 x2 x3 x4)(h7:P7 x0 x1 x2 x3 x4)(h8:P8 x0 x1 x2 x3 x4):∃ x0 x1 x2 x3 x4,P0 x0 x1 x2 x3 x4/\P1 x0 x1 x2 x3 x4/\P2 x0 x1 x2 x3 x4/\P3 x0 x1 x2 x3 x4/\P4 x0 x1 x2 x3 x4/\P5 x0 x1 x2 x3 x4/\P6 x0 x1 x2 x3 x4/\P7 x0 x1 x2 x3 x4/\P8 x0 x1 x2 x3 x4:=⟨x0,x1,x2,x3,x4,h0,h1,h2,h3,h4,h5,h6,h7,h8⟩
theorem el74 {a0 a1 a2 a3 a4 a5 a6:Type}{P0 P1 P2 P3:a0->a1->a2->a3->a4->a5->a6->Prop}{G:Prop}(h:∃ x0 x1 x2 x3 x4 x5 x6,P0 x0 x1 x2 x3 x4 x5 x6/\P1 x0 x1 x2 x3 x4 x5 x6/\P2 x0 x1 x2 x3 x4 x5 x6/\P3 x0 x1 x2 x3 x4 x5 x6)(k:∀ x0 x1 x2 x3 x4 x5 x6,P0 x0 x1 x2 x3 x4 x5 x6->P1 x0 x1 x2 x3 x4 x5 x6->P2 x0 x1 x2 x3 x4 x5 x6->P3 x0 x1 x2 x3 x4 x5 x6->G):G:=by
 obtain⟨x0,x1,x2,x3,x4,x5,x6,h0,h1,h2,h3⟩:=h;exact k x0 x1 x2 x3 x4 x5 x6 h0 h1 h2 h3
theorem el75 {a0 a1 a2 a3 a4 a5 a6:Type}{P0 P1 P2 P3 P4:a0->a1->a2->a3->a4->a5->a6->Prop}{G:Prop}(h:∃ x0 x1 x2 x3 x4 x5 x6,P0 x0 x1 x2 x3 x4 x5 x6/\P1 x0 x1 x2 x3 x4 x5 x6/\P2 x0 x1 x2 x3 x4 x5 x6/\P3 x0 x1 x2 x3 x4 x5 x6/\P4 x0 x1 x2 x3 x4 x5 x6)(k:∀ x0 x1 x2 x3 x4 x5 x6,P0 x0 x1 x2 x3 x4 x5 x6->P1 x0 x1 x2 x3 x4 x5 x6->P2 x0 x1 x2 x3 x4 x5 x6->P3 x0 x1 x2 x3 x4 x5 x6->P4 x0 x1 x2 x3 x4 x5 x6->G):G:=by
 obtain⟨x0,x1,x2,x3,x4,x5,x6,h0,h1,h2,h3,h4⟩:=h;exact k x0 x1 x2 x3 x4 x5 x6 h0 h1 h2 h3 h4
end Mine.Internal
open List renaming eq_nil_of_length_eq_zero→oK,perm_append_comm_assoc→oL,getElem?_append_left→oO,getElem?_eq_getElem→oP,sublist_cons_self→oW,getElem?_toArray→p0,mem_append_right→ph,mem_of_getElem?→pv,mem_append_left→pz,filterMap_cons→pC,length_append→pF,mem_cons_self→pH,contains_cons→pI,append_assoc→pK,size_toArray→pM,flatMap_cons→pQ,getElem?_map→pR,filter_cons→pS,length_cons→pT,not_mem_nil→pZ,lookup_cons→qa,length_map→qg,append_nil→qh,replicate→qi,map_cons→ql
open PySem.Calls renaming Name_function_global→oM
open PySem.F renaming excBase_ValueError→oN
open Int renaming eq_ofNat_of_zero_le→oQ,ofNat→qK
open Nat renaming ne_of_beq_eq_false→oR,lt_of_succ_lt_succ→oV,eq_of_beq_eq_true→oX,lt_of_le_of_lt→pJ,ne_of_lt→qq,zero_add→qr,le_trans→qt,le_of_eq→qu,zero_le→qB,le_refl→qC,beq→qX
open PySem.Heap renaming get?_push_of_some→oS,get?_update_other→oU,get?_update_self→oY,get?_push_size→pA,SameBut→qo,lt_size→qp
open PySem renaming builtinLookup_eq_fast→oZ,wpAny_storeName_local→pf,wpAny_isSubtype_exc→pD,wpAny_truthy_bool→pL,wpAny_newObj_type→pN,foldedSetIterable→pO,wpAny_loadPart_at→pP,entryFor_of_tree→pV,checkBuiltinCall→pW,codeAny_builtin→qc,typeLookup_type→qd,wpAny_specialOf→qe,letOwnedTupleGo→qf,isSubtype_type→qj,wpAny_holding→qm,mainGlobals→qw,sizeLine_eq→qx,wpAny_of_eq→qy,wpAny_field→qz,bm_if_false→qA,builtinsNs→qD,wpAny_bind→qE,wpAny_pure→qF,wpAny_load→qG,typeLookup→qH,compareOp→qM,FuncData→qR,sizeLine→qS,starEach→qT,callWith→qU,NameKind→qV,Program→qW,Around→qZ,Result→r6,rawInt→r7,backTo→r9
open List.Perm renaming append_left→pj
open PySem.Around renaming under_plainId→pw
open PySem.W renaming typeIs_bytes→px,emptyDict→qP,boot_heap→qQ,findIn→r8
open PySem.Heap.SameBut renaming update→pB
open Bool renaming false_ne_true→pE,false_eq_true→pG,and_eq_true→pU,noConfusion→pY
open PySem.Obj renaming mapBytearray→pX
open Option.some renaming inj→qb
open PySem.NameKind renaming free→qk,cell→qn
open PySem.Value renaming none→qI,ref→qN
open LawfulMonad renaming bind_assoc→qJ,pure_bind→qO
open LawfulBEq renaming eq_of_beq→qL
open Ne renaming symm→qY
section
open PySem PySem.W PyProof.Rows PySem.Calls
namespace Mine.Internal
section
theorem aw {P:Prop}(h:∀ G:Prop,(P->G)->G):P:=h P id
noncomputable def c7:List String:=["bytearray.__contains__","bytearray.__mod__","bytearray.__rmod__","_struct.pack_into.held","bytearray.find.held"]++Builtin.Bytes.decodersThatHold
noncomputable def cb:Code->Bool
 | .builtin id _=>!c7.contains id
 | _=>rg
noncomputable def gR (Γ:Ctx):Prop:=cb Γ.code=rg/\∀ x∈Γ.below,cb x.1=rg
noncomputable def wpF {Y:Type}(M:Model)(A:qZ)(t:Sem Y)(Q:Y->Shared->Prop)(E:VP)(s:Shared):Prop:=
 ∀ Γ p,Γ.In A->gR Γ->Sem.wp M Γ t (λa _ s'=>Q a s') (λe _ s'=>E e s') p s
noncomputable def bo (M:Model)(A:qZ)(c:Code)(R:r6->Shared->Prop)(s:Shared):Prop:=
 ∀ Γ p,Γ.code=c->Γ.Below A->gR Γ->wpCode M Γ R p s
section
variable {Y β:Type}{M:Model}{A:qZ}{E:VP}{s:Shared}
theorem wpF.of {t:Sem Y}{Q:Y->Shared->Prop}(h:wpAny M A t Q E s):wpF M A t Q E s:=λΓ p a _=>h Γ p a
theorem bo.of {c:Code}{R:r6->Shared->Prop}(h:codeAny M A c R s):bo M A c R s:=λΓ p a b _=>h Γ p a b
theorem ac {a:Y}{Q:Y->Shared->Prop}(h:Q a s):wpF M A (pure a) Q E s:=λ_ _ _ _=>h
theorem ao {t:Sem Y}{Q Q':Y->Shared->Prop}{E':VP}(h:wpF M A t Q E s)
  (hQ:∀ a s,Q a s->Q' a s)(hE:∀ e s,E e s->E' e s):wpF M A t Q' E' s:=
 λΓ p hΓ c=>Sem.wp_mono M Γ t (λa _ s=>hQ a s) (λe _ s=>hE e s) p s (h Γ p hΓ c)
theorem a9 {m:Sem Y}{f:Y->Sem β}{Q:β->Shared->Prop}(h:wpF M A m (λa s'=>wpF M A (f a) Q E s') E s):wpF M A (m >>= f) Q E s:=λΓ p hΓ c=>by
 rw[Sem.wp_bind'];exact Sem.wp_mono M Γ m (λa p' s' h'=>h' Γ p' hΓ c) (λ_ _ _ h'=>h') p s (h Γ p hΓ c)
theorem bH {m:Sem Y}{f:Y->Sem β}{Q:β->Shared->Prop}{a:Y}{s':Shared}(h:∀ {Q:Y->Shared->Prop},Q a s'->wpF M A m Q E s)(k:wpF M A (f a) Q E s'):wpF M A (m >>= f) Q E s:=a9 (h k)
theorem bQ {m:Sem Y}{f:Y->Sem β}{Q:β->Shared->Prop}{a:Y}{s':Shared}(h:∀ {Q:Y->Shared->Prop},Q a s'->wpAny M A m Q E s)(k:wpAny M A (f a) Q E s'):wpAny M A (m >>= f) Q E s:=qE (h k)
theorem zd4 {γ:Type}{m:Sem Y}{n:Y->Sem γ}{f:Y->γ->Sem β}{Q:β->Shared->Prop}{a:Y}{s':Shared}{b:γ}{s2:Shared}(h:∀ {Q:Y->Shared->Prop},Q a s'->wpAny M A m Q E s)(h2:∀ {Q:γ->Shared->Prop},Q b s2->wpAny M A (n a) Q E s')(k:wpAny M A (f a b) Q E s2):wpAny M A (m >>= λa=>n a >>= f a) Q E s:=qE (h (qE (h2 k)))
theorem zd5 {γ:Type}{m:Sem Y}{n:Y->Sem γ}{f:Y->γ->Sem β}{Q:β->Shared->Prop}{a:Y}{s':Shared}{b:γ}{s2:Shared}(h:∀ {Q:Y->Shared->Prop},Q a s'->wpF M A m Q E s)(h2:∀ {Q:γ->Shared->Prop},Q b s2->wpF M A (n a) Q E s')(k:wpF M A (f a b) Q E s2):wpF M A (m >>= λa=>n a >>= f a) Q E s:=a9 (h (a9 (h2 k)))
theorem cr {m:Sem Y}{k:Value->Sem Unit}{Q:Y->Shared->Prop}(h:wpF M A m Q (λe s'=>wpF M A (k e) (λ_ s''=>E e s'') E s') s):wpF M A (m.onRaise k) Q E s:=λΓ p hΓ c=>by
 rw[Sem.wp_onRaise];exact Sem.wp_mono M Γ m (λ_ _ _ h'=>h') (λe p' s' h'=>h' Γ p' hΓ c) p s (h Γ p hΓ c)
theorem z1o {m:Sem Y}{Q:Except Value Y->Shared->Prop}(h:wpF M A m (λa=>Q (.ok a)) (λe=>Q (.error e)) s):wpF M A m.attempt Q E s:=λΓ p hΓ c=>by
 rw[Sem.wp_attempt];exact h Γ p hΓ c
theorem ay {vs:List Value}{m:Sem Y}{Q:Y->Shared->Prop}(h:wpF M A m Q E s):wpF M A (holding vs m) Q E s:=λΓ p hΓ c=>by
 rw[Sem.wp_holding];exact h Γ p hΓ c
theorem z4s {vs:List Value}{m:Sem Value}{Q:VP}(h:wpF M A m Q E s):wpF M A (operate vs m) Q E s:=λΓ p hΓ c=>by
 rw[Sem.wp_operate];exact h Γ p hΓ c
theorem eD {tag:String}{Q:Unit->Shared->Prop}(h:Q () s):wpF M A (rule tag) Q E s:=λ_ _ _ _=>h
theorem aF {pos:Pos}{Q:Unit->Shared->Prop}(h:Q () s):wpF M A (standAt pos) Q E s:=λ_ _ _ _=>h
theorem z9S {c:Prop} [Decidable c]{a b:Sem Y}{Q:Y->Shared->Prop}(h:if c then wpF M A a Q E s else wpF M A b Q E s):wpF M A (if c then a else b) Q E s:=by split <;> simp_all
theorem gR.enter {Γ:Ctx}(h:gR Γ){c:Code}(hc:cb c=rg)(hd:Option Value)(p:Pos):gR (Γ.enter c hd p):=
 ⟨hc,λx hx=>by
  rcases List.mem_cons.mp hx with z | z
  ·subst z;exact h.1
  ·exact h.2 x z⟩
theorem gR.goto {Γ:Ctx}(h:gR Γ){c:Code}(hc:cb c=rg):gR (Γ.goto c):=⟨hc,h.2⟩
theorem z5C {c:Code}{h:Option Value}{Q:Flow->Shared->Prop}
  (hc:bo M (A.mark h) c (λr s'=>match r with | .ok f=>Q f s' | .error e=>E e s') s)(ho:cb c=rg)(hnb:h≠rc byPass:=by intro x;cases x):
  wpF M A (run c h) Q E s:=
 λΓ p hΓ hC=>by rw[Sem.wp_run];exact hc _ p rfl (hΓ.enter c h p hnb) (hC.enter ho h p)
theorem z3s {c:Code}{Q:VP}
  (hc:bo M A c (λr s'=>match r with | .ok (.ret v)=>Q v s' | .ok _=>False | .error e=>E e s') s)(ho:cb c=rg):wpF M A (runValue c) Q E s:=λΓ p hΓ hC=>by
 rw[Sem.wp_runValue];exact hc _ p rfl (hΓ.enter c re p (by intro x;cases x)) (hC.enter ho re p)
theorem fE {f:Value}{pos:List Value}{kw:List (Str×Value)}{Q:VP}
  (hc:bo M A (.call f ⟨pos,kw⟩) (λr s'=>match r with | .ok (.ret v)=>Q v s' | .ok _=>False | .error e=>E e s') s):wpF M A (call f pos kw) Q E s:=z3s hc rfl
theorem aT {c:Code}{R:r6->Shared->Prop}
  (h:wpF M (A.under c) (M.den c) (λfin s'=>match fin with | .done f=>R (.ok f) s' | .again c'=>c'.quiet=rg/\cb c'=rg/\bo M A c' R s')
   (λe s'=>R (.error e) s') s):bo M A c R s:=λΓ p hc hΓ hC=>by
 rw[wpCode_iff_wp,hc];refine Sem.wp_mono M Γ _ (λfin p' s' h'=>?_) (λ_ _ _ h'=>h') p s (h Γ p (hc▸hΓ.in) hC)
 induction fin with
 | done f=>exact h'
 | again c'=>exact⟨h'.1,h'.2.2 (Γ.goto c') p' rfl (hΓ.goto c') (hC.goto h'.2.1)⟩
theorem z20 {c:Code}{R R':r6->Shared->Prop}(h:bo M A c R s)(hR:∀ r s,R r s->R' r s):bo M A c R' s:=
 λΓ p hc hΓ hC=>wpCode_mono hR (h Γ p hc hΓ hC)
theorem gD {c:Code}{R:r6->Shared->Prop}(hq:c.quiet=rg)(ho:cb c=rg)(I:Nat->Shared->Prop)
  (turn:∀ n s,I n s->wpF M (A.under c) (M.den c)
   (λfin s'=>match fin with | .done f=>R (.ok f) s' | .again c'=>(c'=c/\∃ m,m<n/\I m s')∨(c'.quiet=rg/\cb c'=rg/\bo M A c' R s')) (λe s'=>R (.error e) s') s)
  (n:Nat)(h:I n s):bo M A c R s:=by
 induction n using Nat.strongRecOn generalizing s with
 | ind n ih=>
  refine aT (ao (turn n s h) (λfin s' hf=>?_) λ_ _ h'=>h')
  induction fin with
  | done f=>exact hf
  | again c'=>
   rcases hf with ⟨rfl,m,hm,hI⟩ | hf
   ·exact⟨hq,ho,ih m hm hI⟩
   ·exact hf
theorem z5I {f:Code×Pos->Bool}(hf:∀ x,cb x.1=rg->f x=rj){st:List (Code×Pos)}(h:∀ x∈st,cb x.1=rg):st.any f=false:=by
 rw[List.any_eq_false];intro x hx;rw[hf x (h x hx)];exact pE
theorem z3O {id:String}(h:c7.contains id=rj):Builtin.Bytes.decodersThatHold.contains id=false:=by
 unfold c7 at h
 simp only[List.contains_eq_mem,List.mem_append,decide_eq_false_iff_not,not_or] at h ⊢
 exact h.2
theorem eR {v:Value}{Q:Bool->Shared->Prop}(h:Q rj s):wpF M A (Builtin.Bytes.exported v) Q E s:=λΓ p hΓ hC=>by
 show Q (((Γ.code,p):: Γ.below).any _) s;rw[z5I ?_ (λx hx=>?_)]
 ·exact h
 ·rintro⟨c,q⟩ hx
  induction c with
  | builtin id args=>
   have n:∀ k,c7.contains k=rg->¬ id=k:=λk hk e=>by
    subst e;have hx:(!c7.contains id)=true:=hx;replace hx:=hk▸hx;cases hx
   have hd:Builtin.Bytes.decodersThatHold.contains id=false:=z3O (by simpa using (show(!c7.contains id)=rg from hx));obtain⟨pos,kw⟩:=args;unfold Builtin.Bytes.exported.match_1;dsimp only;refine(dif_neg (n "bytearray.__contains__" (by decide +kernel))).trans ?_;refine(dif_neg (n "bytearray.__mod__" (by decide +kernel))).trans ?_;refine(dif_neg (n "bytearray.__rmod__" (by decide +kernel))).trans ?_;refine(dif_neg (n "_struct.pack_into.held" (by decide +kernel))).trans ?_;refine(dif_neg (n "bytearray.find.held" (by decide +kernel))).trans ?_
   induction pos with
   | nil=>rfl
   | cons v t=>show(_&&Builtin.Bytes.decodersThatHold.contains id)=rj;simp only[hd,Bool.and_false]
  | _=>rfl
 ·refine Or.elim (List.mem_cons.mp hx) (λz=>?_) (λz=>?_)
  ·subst z;exact hC.1
  ·exact hC.2 x z
end
end
section
theorem z3H:gR ⟨.builtin "claim.caller" {},re,re,[],re⟩:=⟨by decide +kernel,λx hx=>by cases hx⟩
theorem z6p {M:Model}{t:Sem Fin}{R:r6->Shared->Prop}{s:Shared}(h:wpF M callerA t (λfin s'=>∃ f,fin = .done f/\R (.ok f) s') (λe s'=>R (.error e) s') s)(p:Pos):
  Sem.wp M ⟨.builtin "claim.caller" {},re,re,[],re⟩ t (Sem.finPost M ⟨.builtin "claim.caller" {},re,re,[],re⟩ R) (λe _ s'=>R (.error e) s') p s:=by
 refine Sem.wp_mono M _ t (λfin p' s' h'=>?_) (λ_ _ _ h'=>h') p s (h _ p caller_in z3H);obtain⟨f,rfl,hf⟩:=h';exact hf
theorem z5N {c:ClaimW}{tree:List Value->Sem Fin}{w:World}{s:Shared}{free:Addr->Prop}{gens:Prop}{kept:Heap->Prop}(hz:s.asleep)(hgens:s.gens = #[])
  (hspec:∀ args,c.pre args=rg->WData.layableAll args=rg->∀ ord:List DictEntry->List DictEntry,(∀ l,(ord l).Perm l)->
   ∃ vs s₁,layAllW c.records (classAt s.heap) w.params ord args s=rc (vs,s₁)/\
    wpF (model c.prog w) callerA (tree vs) (λfin s'=>∃ f,fin = .done f/\(c.Ends s args vs s₁ (.ok f) s'/\s'.os=s.os/\AllBare s'.gens/\kept s'.heap))
     (λe s'=>c.Ends s args vs s₁ (.error e) s'/\s'.os=s.os/\AllBare s'.gens/\kept s'.heap) s₁):
  c.CallFrom (λvs=>⟨tree vs,.builtin "claim.caller" {},default,[]⟩) w free gens kept s:=by
 intro args hpre hlay ord hord;refine aw λG kk=>?_
 refine el22 (hspec args hpre hlay ord hord) λvs s₁ hlaid hcode=>?_
 refine kO (layAllW_rest _ _ _ hlaid) λhal1 hal2 hal3 hal4=>?_
 have hfin:=z6p (R:=λr s'=>(c.Ends s args vs s₁ r s'/\s'.os=s.os/\kept s'.heap)/\leftWithCleanup s'.gens=rj) (ao hcode
  (λfin s' z=>el12 z λf e h=>kO h λh1 h2 h3 h4=>⟨f,e,⟨h1,h2,h4⟩,leftWithCleanup_false_of_bare h3⟩) (λe s' z=>kO z λh1 h2 h3 h4=>⟨⟨h1,h2,h4⟩,leftWithCleanup_false_of_bare h3⟩)) default
 refine el46 (wp_halts_full (M:=model c.prog w) (R:=λr s'=>c.Ends s args vs s₁ r s'/\s'.os=s.os/\kept s'.heap) (Shared.asleep_of_life hal4 hz) hfin) λk r s' s'' hsched hrun hfo hcase hos hkp=>?_
 refine zc5 (Shared.forget_eq hfo) λeh _ _ eo _=>?_
 refine kk ⟨vs,s₁,hlaid,k,_,s'',hsched,?_,(λ_ i x hx=>by rw[hgens] at hx;simp at hx),eh.symm▸hkp,congrArg _ ((runN_life _ _ _ hrun).trans hal4),Shared.rest_eq (eo.trans hos)⟩;exact Or.elim (ClaimW.Ends.congr eh hcase) (λh=>zc6 h λv e d1 d2 d3 d4 d5=>.inl (in16 v (e▸rfl) d1 d2 d3 (λb o y _=>d4 b o y) d5))
  (λh=>el36 h λx ob cls e d1 d2 d3 d4 d5=>.inr (in36 x ob cls (e▸rfl) d1 d2 d3 d4 (λb o y _=>d5 b o y)))
theorem zcB {r:RowW}{tree:List Value->Sem Fin}{q:qW}{loose defs kps:List Str}{writes:Bool}{Xt:Shared->Bool}{XP:(Str->Option Value)->Heap->Prop}{Y:Type}{Yf:Shared->Y}{Ya:World->Y}{YP:World->Heap->Prop}{N:Nat}
  (left:LeftO r.prog q loose Xt Yf Ya N)(hY:∀ w s,Yf s=Ya w->YP w s.heap)(hYk:∀ w h h',YP w h->(∀ b o,h.get? b=rc o->h'.get? b=rc o)->YP w h')(hX:∀ s,Xt s=rg->XP (s.heap.nsMap qw) s.heap)(hXk:∀ mg h h',XP mg h->(∀ b o,h.get? b=rc o->h'.get? b=rc o)->XP mg h')
  (hRf:∀ s,Xt s=rg->RecFacts r.records s.heap)(hwr:(!writes||r.records.isEmpty)=rg)(ok:(chainsOk q&&opensWell r.prog&&(frees r&&r.within.isEmpty))=rg)(hb:r.prog.bare)(hw:r.promised)
  (pin:∀ w s,s.heap.isNs qw=rg->Ground q loose [] XP w s (s.heap.nsMap qw) (s.heap.nsMap qD) s.heap->∀ n∈defs,isTheDefsW r.prog s.heap n)
  (walk:∀ (w:World)(s₀ s₁:Shared)(mg mb:Str->Option Value),Ground q loose r.records XP w s₀ mg mb s₁.heap->YP w s₁.heap->∀ (args:List WData)(vs:List Value)(as:List Addr),
   r.claim.pre args=rg->WData.layableAll args=rg->Laid r.records w s₀ s₁ args vs as->sysModules<s₀.heap.objs.size->
    wpF (model r.prog w) callerA (tree vs) (λfin s'=>∃ f,fin = .done f/\GoodWG r.claim (classAt s₀.heap) (ExcName.means s₀.heap) args s₁ (.ok f) s')
     (λe s'=>GoodWG r.claim (classAt s₀.heap) (ExcName.means s₀.heap) args s₁ (.error e) s') s₁):r.claim.HoldsOpenBy (λvs=>⟨tree vs,.builtin "claim.caller" {},default,[]⟩) defs kps writes:=by
 refine bX (Bool.and_eq_true_iff.mp ok) λok1 ok2=>?_
 refine bX (Bool.and_eq_true_iff.mp ok1) λhch hop=>?_
 refine bX (Bool.and_eq_true_iff.mp ok2) λhfree hwith=>?_
 refine zc5 (frees_parts hfree) λhsame hu ha hap hm=>?_
 refine⟨⟨hb,hop,by show r.makers.map _=[];rw[hm];rfl⟩,hw.witness,λw=>⟨(left.behind hX hch w).1,λs' hs'=>?_⟩⟩;refine el13 ((left.behind (XP:=λmg h=>XP mg h/\RecFacts r.records h) (λs hs=>⟨hX s hs,hRf s hs⟩) hch w).2 s' hs') λs₀ hf hg0 h=>zc6 h λs hT hz hgens hg G00 y=>?_
 have G0:Ground q loose [] XP w s (s.heap.nsMap qw) (s.heap.nsMap qD) s.heap:=⟨G00.T,G00.B,G00.D,G00.TE,G00.TD,G00.W,G00.X.1,G00.cls,G00.has,G00.apart,G00.once,G00.K⟩
 have RF:=G00.X.2;refine⟨s₀,hf,hg0,s,hT,pin w s hg G0,RF.1,RF.2.1,?_⟩;have hgens:s.gens = #[]:=Array.eq_empty_of_size_eq_zero (beq_iff_eq.mp hgens);have G:Ground q loose r.records XP w s _ _ s.heap:=RF.ground G0;refine z5N (c:=r.claim) hz hgens λargs hpre hlay ord hord=>?_
 refine fk (Option.isSome_iff_exists.mp (layAllW_isSome (P:=w.params) (ord:=ord) G.has args r.args s (pre_splitW hpre).1)) λp hlaid=>?_
 refine aw λ_ Z9=>?_
 obtain⟨vs,s₁⟩:=p;refine Z9 ?_;have keeps:=layAllW_keeps _ _ _ hlaid;have hal:=layAllW_rest _ _ _ hlaid;refine el13 (reads_layAllW hord _ _ _ hlaid hlay s₁.heap (λ_ _ e=>e)) λas hrd hin hold=>?_
 have L:Laid r.records w s s₁ args vs as:=⟨⟨ord,hord,hlaid⟩,hrd,hin,hold,keeps,hal.1.trans hgens,hal.2.2.1⟩
 have G₁:=G.keeps hXk keeps;have hi:=ident_freeW hu ha hap;have hwi:r.claim.within=[]:=List.isEmpty_iff.mp hwith;have h:=walk w s s₁ _ _ G₁ (hYk _ _ _ (hY w s y) keeps) args vs as hpre hlay L G.low;refine⟨vs,s₁,hlaid,ao h (λfin s' z=>el12 z λf e g=>⟨f,e,?_⟩) λe s' g=>?_⟩
 ·exact gh (g.laid (c:=r.claim) hsame hwi hi L) λz1 z2 z3=>⟨z1,z2,z3,λq=>⟨namesKept_of hT hg kps keeps g.2.1.old,noTable hwr q⟩⟩
 ·exact gh (g.laid (c:=r.claim) hsame hwi hi L) λz1 z2 z3=>⟨z1,z2,z3,λq=>⟨namesKept_of hT hg kps keeps g.2.1.old,noTable hwr q⟩⟩
noncomputable abbrev za8 (q:qW)(loose:List Str)(XP:(Str->Option Value)->Heap->Prop)(YP:World->Heap->Prop)(r:RowW)(d:DefRec)(kwd:List (Str×Expr)):Prop:=
 ∀ (w:World)(s₀ s₁:Shared)(mg mb:Str->Option Value),Ground q loose r.records XP w s₀ mg mb s₁.heap->YP w s₁.heap->∀ (a:Addr)(o:Obj)(pm cd doc dV kV:Value),s₁.heap.get? a=rc o->
  o.data = .func { docDef d.name d.params d.body d.scope pm cd doc with defaults:=dV,kwdefaults:=kV }->s₁.heap.CodeRec cd d.name->Dflts mg s₁.heap d.params kwd dV kV->mg d.name=rc (.ref a)->s₁.gens = #[]->
  ∀ (args:List WData)(vals:List Value)(as:List Addr),r.claim.pre args=rg->WData.layableAll args=rg->ReadsAllW r.records (classAt s₀.heap) s₁.heap vals args as->WellAll w.params s₁.heap vals args->(∀ a∈as,(a==sysModules)=rj)->
   wpF (model r.prog w) callerA (PySem.call (.ref a) vals) (λv s'=>GoodWG r.claim (classAt s₀.heap) (ExcName.means s₀.heap) args s₁ (.ok (.ret v)) s')
    (λe s'=>GoodWG r.claim (classAt s₀.heap) (ExcName.means s₀.heap) args s₁ (.error e) s') s₁
theorem PySem.W.holds_open {r:OpenRow}{q:qW}{loose:List Str}{Xt:Shared->Bool}{XP:(Str->Option Value)->Heap->Prop}{Y:Type}{Yf:Shared->Y}{Ya:World->Y}{YP:World->Heap->Prop}{d:DefRec}{kwd:List (Str×Expr)}{N:Nat}
  (left:LeftO r.prog q loose Xt Yf Ya N)(hY:∀ w s,Yf s=Ya w->YP w s.heap)(hYk:∀ w h h',YP w h->(∀ b o,h.get? b=rc o->h'.get? b=rc o)->YP w h')
  (hX:∀ s,Xt s=rg->XP (s.heap.nsMap qw) s.heap)(hXk:∀ mg h h',XP mg h->(∀ b o,h.get? b=rc o->h'.get? b=rc o)->XP mg h')
  (hdef:defOf q r.name=rc (d,kwd))(hp:r.prog.theDef r.name=rc (d.params,d.body,d.scope))(hk:kwWritten? d.params.kwonlyargs d.params.kw_defaults=rc kwd)(hRf:∀ s,Xt s=rg->RecFacts r.records s.heap)(hwr:(!r.writes||r.records.isEmpty)=rg)
  (k1:r.wellSaid=rg)(ok:(chainsOk q&&opensWell r.prog&&(frees r.toRowW&&r.within.isEmpty))=rg)(hb:r.prog.bare)(hw:r.toRowW.promised)
  (walk:za8 q loose XP YP r.toRowW d kwd):r.Holds:=by
 refine⟨k1,hw,zcB (r:=r.toRowW) (tree:=λvs=>do match<-nsGet mainNs r.name with
   | some f=>do ret (<-PySem.call f vs)
   | none=>unsupported "claim.caller:no-such-global") left hY hYk hX hXk hRf hwr ok hb hw (λw s hg G n hn=>?_) λw s₀ s₁ mg mb G Y9 args vs as hpre hlay L low=>?_⟩
 ·obtain rfl:n=r.name:=by split at hn <;> simp_all
  exact pinned_of_view hg G hdef hp hk
 ·refine el75 (G.fn hdef) λa o pm cd doc dV kV h1 h2 h3 h4 h5=>?_
  have h:=walk w s₀ s₁ mg mb G Y9 a o pm cd doc dV kV h2 h3 h4 h5 (defOf_name hdef▸h1) L.gens args vs as hpre hlay L.reads L.well (L.low low);refine a9 (.of (wpAny_nsGet G.T.g ?_));rw[h1];exact a9 (ao h (λv s' g=>ac ⟨_,rfl,g⟩) λ_ _ g=>g)
end
end Mine.Internal
end
namespace Mine.Internal
set_option genCtorIdx true in
inductive V where
 | none | bool (b:Bool) | int (i:Int) | str (k:Nat) | bytes (b:List UInt8) | ref (a:Nat)
 | t2 (a b:V) | clo (k:Nat)(cs:Nat->Option Nat)
noncomputable def V.none?:V->Bool | .none=>rg | _=>rj
set_option genCtorIdx true in
inductive O where
 | lst (xs:List V) | clst (xs:List V) | dct (es:List (Int×V)) | cdct (es:List (Int×V)) | sd (f:List (Nat×V)) | tab | inst (c d:Nat) | ns (f:List (Nat×V)) | ba (b:List UInt8) | cell (v:Option V)
structure MH where
 n:Nat
 get:Nat->Option O
namespace MH
noncomputable def set (J:MH)(a:Nat)(o:O):MH:=⟨J.n,λb=>match qX b a with | true=>rc o | false=>J.get b⟩
noncomputable def push (J:MH)(o:O):MH:=⟨Nat.succ J.n,λb=>match qX b J.n with | true=>rc o | false=>J.get b⟩
theorem upd (g:Nat->Option O)(a:Nat)(o:O)(b:Nat):(match qX b a with | true=>rc o | false=>g b)=if b=a then rc o else g b:=by
 cases h:qX b a with
 | true=>rw[if_pos (oX h)]
 | false=>rw[if_neg (oR h)]
theorem get_set (J:MH)(a:Nat)(o:O)(b:Nat):(J.set a o).get b=if b=a then rc o else J.get b:=upd ..
theorem get_push (J:MH)(o:O)(b:Nat):(J.push o).get b=if b=J.n then rc o else J.get b:=upd ..
end MH
set_option genCtorIdx true in
inductive R (Y:Type) where
 | ok (a:Y)(J:MH) | exc (c:Nat)(J:MH) | bad
noncomputable abbrev M (Y:Type):=MH->R Y
noncomputable def M.bind {Y β:Type}(x:M Y)(f:Y->M β):M β:=λJ=>match x J with
 | .ok a J'=>f a J'
 | .exc c J'=>.exc c J'
 | .bad=>.bad
noncomputable def M.ret {Y:Type}(a:Y):M Y:=λJ=>.ok a J
noncomputable def M.bad {Y:Type}:M Y:=λ_=>.bad
noncomputable instance:Monad M where
 pure:=M.ret
 bind:=M.bind
noncomputable def M.read (a:Nat):M O:=λJ=>match J.get a with | some o=>.ok o J | none=>.bad
noncomputable def M.write (a:Nat)(o:O):M Unit:=λJ=>.ok () (J.set a o)
noncomputable def M.alloc (o:O):M Nat:=λJ=>.ok J.n (J.push o)
noncomputable def M.guard (b:Bool):M Unit:=λJ=>match b with | true=>.ok () J | false=>.bad
noncomputable def M.lift {Y:Type}:Option Y->M Y | some a=>M.ret a | none=>M.bad
noncomputable def M.solid {Y:Type}(m:M Y):M Y:=λJ=>match m J with | .ok a J'=>.ok a J' | _=>.bad
theorem bnd {Y β:Type}{m:M Y}{f:Y->M β}{J J1:MH}{a:Y}(h:m J = .ok a J1):(m >>= f) J=f a J1:=by
 show M.bind m f J=_;unfold M.bind;rw[h]
theorem lD {Y β:Type}{m:M Y}{f:Y->M β}{J J1:MH}{k:Nat}(h:m J = .exc k J1):(m >>= f) J = .exc k J1:=by
 show M.bind m f J=_;unfold M.bind;rw[h]
theorem iN {Y β:Type}{m:M Y}{f:Y->M β}{J:MH}(h:m J = .bad):(m >>= f) J = .bad:=by
 show M.bind m f J=_;unfold M.bind;rw[h]
theorem bndC {Y β:Type}{m m2:M Y}{f:Y->M β}{J J2:MH}(h:m J=m2 J2):(m >>= f) J=(m2 >>= f) J2:=by
 show M.bind m f J=M.bind m2 f J2;unfold M.bind;rw[h]
theorem rdE {J:MH}{a:Nat}{o:O}(h:J.get a=rc o):M.read a J = .ok o J:=by
 unfold M.read;rw[h]
theorem gdE {b:Bool}{J:MH}(h:b=rg):M.guard b J = .ok () J:=h▸rfl
theorem lfE {Y:Type}{x:Option Y}{v:Y}{J:MH}(h:x=rc v):M.lift x J = .ok v J:=by rw[h];rfl
theorem rdN {Y:Type}{f:O->M Y}{J:MH}{a:Nat}(h:J.get a=re):(M.read a >>= f) J = .bad:=by
 show M.bind _ _ J=_;unfold M.bind M.read;rw[h]
noncomputable def lim:Nat:=1000000
noncomputable def small (i:Int):Bool:=decide (i.natAbs<2 ^ 64)
set_option genCtorIdx true in
inductive BOp where | add | sub | mul | fdiv | mod | pow | shl | shr | and | or
set_option genCtorIdx true in
inductive COp where | eq | ne | lt | le | gt | ge | isin | notin | is | isnot
set_option genCtorIdx true in
inductive B1 where | len | list | bytes | bytearray | abs | sorted | dict | int | isint
set_option genCtorIdx true in
inductive IB where | range | enum | rev
set_option genCtorIdx true in
inductive BM where | get | append | extend | remove | pop | join
deriving DecidableEq
mutual
inductive E where
 | loc (x:Nat) | cel (x:Nat) | gint (x:Nat)
 | cint (i:Int) | cstr (k:Nat) | cnone | cbool (b:Bool) | cbytes
 | bin (op:BOp)(a b:E) | cmp (op:COp)(a b:E) | cmp2 (o p:COp)(a b c:E)
 | and (es:Es) | or (es:Es) | not (a:E) | ite (c a b:E)
 | attr (o:E)(f:Nat) | call (f:Nat)(as:Es) | new (c:Nat)(as:Es) | dyn (f:E)
 | meth (o:E)(m:Nat)(b:Option BM)(as:Es)
 | b0 | b1 (b:B1)(a:E) | min (a b:E)
 | idx (o i:E) | upto (o hi:E) | part (o lo hi:E)
 | list (es:Es) | t2 (a b:E) | dict0 | dictS (ks:List Nat)(vs:Es)
 | comp (el:E)(t:Tg)(it:Ite) | compIf (el:E)(t:Tg)(it:Ite)(c:E)
 | lam (k:Nat) | never
inductive Es where
 | nil | cons (e:E)(es:Es)
inductive Ite where
 | of (e:E) | by(b:IB)(e:E) | range3 (a b c:E)
inductive Tg where
 | loc (x:Nat) | cel (x:Nat) | pair (a b:Tg) | sub (o i:E)
end
mutual
inductive S where
 | expr (e:E) | assign (t:Tg)(e:E) | attr (o:E)(f:Nat)(e:E) | all (o e:E)
 | tupE (t:Tg)(e:E) | tupL (ts:List Tg)(es:Es)
 | augAttr (o:E)(f:Nat)(op:BOp)(e:E) | augIdx (o i:E)(op:BOp)(e:E)
 | del (o i:E) | cond (c:E)(a b:Ss) | loop (t:Tg)(it:Ite)(body:Ss)
 | ret (e:E) | ret0 | raise (c:Nat)(as:Es) | tryRet (e:E)(hs:List (Nat×E)) | stop
inductive Ss where
 | nil | cons (s:S)(ss:Ss)
end
inductive Fn where | fn (f:Nat) | lam (k:Nat)(cs:Nat->Option Nat)
structure FnDef where
 params:List Nat
 cells:List Nat
 dflts:List V
 body:Ss
structure Prog where
 fn:Nat->Option FnDef
 lam:Nat->Option E
 tab:Nat->Nat
 init:Nat->Option Nat
 mth:Nat->Nat->Option Nat
 gint:Nat->Option Int
 sub:Nat->Nat->Bool
 fld:Nat->Nat->Bool
 can:Nat->Bool
 lock:Nat->Option Nat
noncomputable abbrev Loc:=Nat->Option V
noncomputable def Loc.put (l:Loc)(x:Nat)(v:V):Loc:=λy=>match qX y x with | true=>rc v | false=>l y
theorem Loc.put_eq (l:Loc)(x:Nat)(v:V)(y:Nat):l.put x v y=if y=x then rc v else l y:=by
 show(match qX y x with | true=>rc v | false=>l y)=_;cases h:qX y x with
 | true=>rw[if_pos (oX h)]
 | false=>rw[if_neg (oR h)]
structure Cx where
 P:Prog
 call:Fn->List V->M V
 cl:Nat->Option Nat
noncomputable def V.eqq:V->V->Option Bool
 | .none,.none=>rc rg
 | .bool a,.bool b=>rc (a==b)
 | .int a,.int b=>rc (a==b)
 | .str a,.str b=>rc (a==b)
 | .bytes a,.bytes b=>rc (a==b)
 | _,_=>Option.none
noncomputable def V.eqAll:List V->List V->Option Bool
 | [],[]=>rc rg
 | a:: as,b:: bs=>match V.eqq a b,V.eqAll as bs with
  | some x,rc y=>rc (x&&y)
  | _,_=>Option.none
 | _,_=>rc rj
noncomputable def V.isN:V->Option Bool
 | .none=>rc rg
 | .ref _=>rc rj
 | .int _=>rc rj
 | .t2 _ _=>rc rj
 | .str _=>rc rj
 | _=>Option.none
noncomputable def V.isK (x y:V):Option Bool:=match y with
 | .none=>V.isN x
 | _=>Option.none
noncomputable def af {κ:Type} [DecidableEq κ](k:κ):List (κ×V)->Option V
 | []=>re
 | (k',v):: r=>if k'=k then rc v else af k r
noncomputable def aJ {κ:Type} [DecidableEq κ](k:κ)(v:V):List (κ×V)->List (κ×V)
 | []=>[(k,v)]
 | (k',w):: r=>if k'=k then(k',v):: r else(k',w):: aJ k v r
noncomputable def bR {κ:Type} [DecidableEq κ](k:κ):List (κ×V)->List (κ×V)
 | []=>[]
 | (k',w):: r=>if k'=k then r else(k',w):: bR k r
theorem z1V {κ:Type} [DecidableEq κ]{k k':κ}{w:V}{r:List (κ×V)}:af k ((k',w):: r)=if k'=k then rc w else af k r:=rfl
theorem hU {κ:Type} [DecidableEq κ]{k k':κ}{v w:V}{r:List (κ×V)}:aJ k v ((k',w):: r)=if k'=k then(k',v):: r else(k',w):: aJ k v r:=rfl
theorem z5H {κ:Type} [DecidableEq κ]{k k':κ}{w:V}{r:List (κ×V)}:bR k ((k',w):: r)=if k'=k then r else(k',w):: bR k r:=rfl
noncomputable def fp (i:Int):List V->Option Bool
 | []=>rc rj
 | .int j:: r=>(fp i r).map (λb=>(j==i)||b)
 | _:: _=>re
noncomputable def V.refOf:V->Option Nat | .ref a=>rc a | _=>Option.none
noncomputable def O.is5:O->Bool | .inst k _=>Nat.ble 5 k | _=>rj
noncomputable def MH.instAt (J:MH)(a:Nat):Bool:=match J.get a with | some o=>o.is5 | none=>rj
noncomputable def jp (J:MH)(a:Nat):List V->Option Nat
 | []=>re
 | v:: r=>match v.refOf with
  | none=>re
  | some b=>match qX b a with
   | true=>rc 0
   | false=>match J.instAt a&&J.instAt b with
    | true=>(jp J a r).map Nat.succ
    | false=>re
noncomputable def kq (i:Int):List V->Option Nat
 | []=>re
 | v:: r=>match v with
  | .int j=>if j=i then rc 0 else(kq i r).map Nat.succ
  | _=>re
noncomputable def kr (J:MH)(x:V)(xs:List V):Option Nat:=match x with
 | .int i=>kq i xs
 | .ref a=>jp J a xs
 | _=>re
noncomputable def iA (x:V)(xs:List V):M Nat:=λJ=>match kr J x xs with
 | some j=>.ok j J
 | none=>.bad
noncomputable def hV (i:Int):Option UInt8:=if 0<=i/\i<256 then rc (UInt8.ofNat i.toNat) else re
noncomputable def fG:List V->Option (List UInt8)
 | []=>rc []
 | .int i:: r=>(hV i).bind λb=>(fG r).map (b:: ·)
 | _:: _=>re
noncomputable def jz:List V->Option (List UInt8)
 | []=>rc []
 | .bytes b:: r=>(jz r).map (b ++ ·)
 | _:: _=>re
noncomputable def lG (x:Int):List Int->List Int
 | []=>[x]
 | y:: r=>if x<=y then x:: y:: r else y:: lG x r
noncomputable def bW:List Int->List Int
 | []=>[]
 | x:: r=>lG x (bW r)
noncomputable def fZ:List V->Option (List (Int×V))
 | []=>rc []
 | .t2 (.int k) v:: r=>(fZ r).map ((k,v):: ·)
 | _:: _=>re
noncomputable def ln (a b c:Int):List V:=(List.range ((b-a+c-1) / c).toNat).map λ(k:Nat)=>V.int (a+c*(k:Int))
noncomputable def iM:BOp->Int->Int->Option Int
 | .add,a,b=>rc (a+b)
 | .sub,a,b=>rc (a-b)
 | .mul,a,b=>if small a&&small b then rc (a*b) else re
 | .fdiv,a,b=>if b=0∨(!small a)=rg then re else rc (a.fdiv b)
 | .mod,a,b=>if b=0 then re else rc (a.fmod b)
 | .pow,a,b=>if 0<=b/\b<=1000/\small a then rc (a ^ b.toNat) else re
 | .shl,a,b=>if 0<=b/\b<=1000/\small a then rc (a*2 ^ b.toNat) else re
 | .shr,a,b=>if 0<=b then rc (a.fdiv (2 ^ b.toNat)) else re
 | .and,a,b=>if 0<=a/\0<=b then rc (qK (a.toNat &&& b.toNat)) else re
 | .or,a,b=>if 0<=a/\0<=b then rc (qK (a.toNat ||| b.toNat)) else re
noncomputable def newList (xs:List V):M V:=do
 M.guard (decide (xs.length<=lim))
 let a<-M.alloc (.lst xs)
 pure (.ref a)
noncomputable def fc (op:BOp)(x y:V):M V:=match x,y with
 | .int a,.int b=>do pure (.int (<-M.lift (iM op a b)))
 | .bytes a,.bytes b=>match op with
  | .add=>do M.guard (decide (a.length+b.length<=lim));pure (.bytes (a++b))
  | _=>M.bad
 | .bytes a,.int i=>match op with
  | .mul=>do M.guard (decide (a≠[]/\a.length<=16/\0<=i/\i<=1000));pure (.bytes (qi i.toNat a).flatten)
  | _=>M.bad
 | .ref a,.ref b=>match op with
  | .add=>do
   match<-M.read a,<-M.read b with
   | .lst xs,.lst ys=>newList (xs++ys)
   | _,_=>M.bad
  | _=>M.bad
 | _,_=>M.bad
noncomputable def eqV (x y:V):M Bool:=match x,y with
 | .ref a,.ref b=>do
  match<-M.read a,<-M.read b with
  | .lst xs,.lst ys=>M.lift (if xs.length=ys.length then V.eqAll xs ys else rc rj)
  | .clst xs,.lst ys=>M.lift (if xs.length=ys.length then V.eqAll xs ys else rc rj)
  | .dct xs,.dct ys=>M.lift (if ys.length=0 then rc (xs.length==0) else re)
  | _,_=>M.bad
 | x,y=>M.lift (V.eqq x y)
noncomputable def inV (x y:V):M Bool:=match y with
 | .ref b=>do
  match<-M.read b with
  | .lst xs=>match x with
   | .int i=>M.lift (fp i xs)
   | _=>M.bad
  | .dct es=>match x with
   | .int i=>pure (af i es).isSome
   | _=>M.bad
  | .cdct es=>match x with
   | .int i=>pure (af i es).isSome
   | _=>M.bad
  | _=>M.bad
 | _=>M.bad
noncomputable def isV (x y:V):M Bool:=match x,y with
 | .ref a,.ref b=>do
  match<-M.read a with
  | .inst _ _=>pure (a==b)
  | _=>M.bad
 | x,y=>M.lift (V.isK x y)
noncomputable def V.int?:V->Option Int | .int i=>Option.some i | _=>Option.none
theorem V.int_e {x:V}{i:Int}(h:x.int? = rc i):x = .int i:=by
 induction x with
 | int j=>cases h;rfl
 | _=>cases h
noncomputable def nK (f:Int->Int->Bool)(x y:V):M Bool:=do
 let i<-M.lift x.int?
 let j<-M.lift y.int?
 pure (f i j)
noncomputable def aP (op:COp)(x y:V):M Bool:=match op with
 | .eq=>eqV x y
 | .ne=>do pure (!(<-eqV x y))
 | .isin=>inV x y
 | .notin=>do pure (!(<-inV x y))
 | .is=>isV x y
 | .isnot=>do pure (!(<-isV x y))
 | .lt=>nK (λa b=>decide (a<b)) x y
 | .le=>nK (λa b=>decide (a<=b)) x y
 | .gt=>nK (λa b=>decide (b<a)) x y
 | .ge=>nK (λa b=>decide (b<=a)) x y
noncomputable def aQ:V->M Bool
 | .bool b=>pure b
 | _=>M.bad
noncomputable def getAttr (fld:Nat->Nat->Bool)(o:V)(f:Nat):M V:=match o with
 | .ref a=>do
  match<-M.read a with
  | .inst c d=>do
   M.guard (fld c f)
   match<-M.read d with
   | .ns fs=>M.lift (af f fs)
   | _=>M.bad
  | _=>M.bad
 | _=>M.bad
noncomputable def setAttr (fld:Nat->Nat->Bool)(o:V)(f:Nat)(v:V):M Unit:=match o with
 | .ref a=>do
  match<-M.read a with
  | .inst c d=>do
   M.guard (fld c f)
   match<-M.read d with
   | .ns fs=>do M.guard (decide (fs.length<=100));M.write d (.ns (aJ f v fs))
   | _=>M.bad
  | _=>M.bad
 | _=>M.bad
noncomputable def cg (o i:V):M V:=match o,i with
 | .ref a,i=>do
  match<-M.read a,i with
  | .lst xs,.int k=>do M.guard (decide (0<=k/\k<2 ^ 63));M.lift xs[k.toNat]?
  | .dct es,.int k=>M.lift (af k es)
  | .sd es,.str k=>M.lift (af k es)
  | _,_=>M.bad
 | _,_=>M.bad
noncomputable def cG (o i v:V):M Unit:=match o with
 | .ref a=>do
  match<-M.read a,i with
  | .lst xs,.int k=>do M.guard (decide (0<=k/\k<2 ^ 63/\k.toNat<xs.length));M.write a (.lst (xs.set k.toNat v))
  | .dct es,.int k=>do M.guard (decide (es.length<=lim));M.write a (.dct (aJ k v es))
  | .sd es,.str k=>do M.guard (decide (es.length<=100));M.write a (.sd (aJ k v es))
  | _,_=>M.bad
 | _=>M.bad
noncomputable def i5 (o i:V):M Unit:=match o with
 | .ref a=>do
  match<-M.read a,i with
  | .lst xs,.int k=>do M.guard (decide (0<=k/\k<2 ^ 63/\k.toNat<xs.length/\xs.length<=lim));M.write a (.lst (xs.eraseIdx k.toNat))
  | .dct es,.int k=>do M.guard ((af k es).isSome&&decide (es.length<=lim));M.write a (.dct (bR k es))
  | _,_=>M.bad
 | _=>M.bad
noncomputable def c6 (o lo hi:V):M V:=match o with
 | .ref a=>do
  match<-M.read a,lo,hi with
  | .lst xs,.int i,.int j=>do M.guard (decide (0<=i/\i<=j/\j<=xs.length/\xs.length<=lim));newList ((xs.drop i.toNat).take (j.toNat-i.toNat))
  | .clst xs,.none,.int j=>do M.guard (decide (0<=j/\xs.length<=lim));newList (xs.take j.toNat)
  | _,_,_=>M.bad
 | .bytes b=>match lo,hi with
  | .int i,.int j=>do M.guard (decide (0<=i/\i<=j/\j<=b.length/\(0<i∨j<b.length)/\b.length<=lim));pure (.bytes ((b.drop i.toNat).take (j.toNat-i.toNat)))
  | _,_=>M.bad
 | _=>M.bad
noncomputable def z8h (o v:V):M Unit:=match o,v with
 | .ref a,.bytes b=>do
  match<-M.read a with
  | .ba old=>do M.guard (decide (old.length=b.length/\b.length<=lim));M.write a (.ba b)
  | _=>M.bad
 | _,_=>M.bad
structure It where
 items:List V
 watch:Option (Nat×Nat×Bool)
noncomputable def dX:Nat->Nat->List V
 | _,0=>[]
 | k,m+1=>.int (qK k):: dX (k+1) m
noncomputable def mq (n:Nat):O->Option (List V)
 | .lst ys=>match qX ys.length n with | true=>rc ys | false=>re
 | _=>re
noncomputable def MH.lstAt (J:MH)(a n:Nat):Option (List V):=match J.get a with | some o=>mq n o | none=>re
noncomputable def It.stop (i:It):M Unit:=λJ=>match i.watch with
 | none=>.ok () J
 | some (a,n,_)=>match J.lstAt a n with | some _=>.ok () J | none=>.bad
noncomputable def It.item (i:It)(x:V):M V:=λJ=>match i.watch with
 | none=>.ok x J
 | some (a,n,en)=>match x with
  | .int k=>match J.lstAt a n with
   | some ys=>match ys[k.toNat]? with
    | some y=>.ok (match en with | true=>.t2 (.int k) y | false=>y) J
    | none=>.bad
   | none=>.bad
  | _=>.bad
noncomputable def zcm (v:V):M It:=match v with
 | .ref a=>do
  match<-M.read a with
  | .lst xs=>pure ⟨dX 0 xs.length,rc (a,xs.length,rj)⟩
  | .cdct es=>pure ⟨es.map λe=>V.int e.1,re⟩
  | _=>M.bad
 | _=>M.bad
noncomputable def o5 (x y:V):M V:=do
 let i<-M.lift x.int?
 let j<-M.lift y.int?
 pure (.int (if j<i then j else i))
noncomputable def n8:List (Int×Int×Int):=[(0,0,1),(0,1,1),(0,2,1),(0,3,1),(0,4,1),(0,12,1),(0,13,4)]
noncomputable def n6 (x y z:V):M It:=do
 let i<-M.lift x.int?
 let j<-M.lift y.int?
 let k<-M.lift z.int?
 M.guard (decide ((i,j,k)∈n8))
 pure ⟨ln i j k,re⟩
noncomputable def eX (b:IB)(v:V):M It:=match b,v with
 | .enum,.ref a=>do
  match<-M.read a with
  | .lst xs=>pure ⟨dX 0 xs.length,rc (a,xs.length,rg)⟩
  | _=>M.bad
 | .range,.int k=>do M.guard (decide ((0,k,1)∈n8));pure ⟨ln 0 k 1,re⟩
 | .rev,.bytes b=>do M.guard (decide (b.length<=lim));pure ⟨b.reverse.map λx=>V.int x.toNat,re⟩
 | _,_=>M.bad
noncomputable def bN (b:B1)(v:V):M V:=match b,v with
 | .len,.ref a=>do
  match<-M.read a with
  | .lst xs=>do M.guard (decide (xs.length<=lim));pure (.int xs.length)
  | .ba b=>do M.guard (decide (b.length<=lim));pure (.int b.length)
  | _=>M.bad
 | .len,.bytes b=>do M.guard (decide (b.length<=lim));pure (.int b.length)
 | .list,.ref a=>do
  match<-M.read a with
  | .lst xs=>newList xs
  | _=>M.bad
 | .bytes,.int i=>do M.guard (decide (0<=i/\i.toNat<=lim));pure (.bytes (qi i.toNat 0))
 | .bytes,.ref a=>do
  match<-M.read a with
  | .ba b=>do M.guard (decide (b.length<=lim));pure (.bytes b)
  | .lst xs=>do M.guard (decide (xs.length<=lim));pure (.bytes (<-M.lift (fG xs)))
  | _=>M.bad
 | .bytes,.bytes b=>do M.guard (decide (b.length<=lim));pure (.bytes b)
 | .bytearray,.bytes b=>do M.guard (decide (b.length<=lim));pure (.ref (<-M.alloc (.ba b)))
 | .abs,.int i=>pure (.int i.natAbs)
 | .sorted,.ref a=>do
  match<-M.read a with
  | .dct es=>do M.guard (decide (es.length<64));newList ((bW (es.map (·.1))).map V.int)
  | _=>M.bad
 | .dict,.ref a=>do
  match<-M.read a with
  | .lst xs=>do
   M.guard (decide (xs.length<=lim))
   let es<-M.lift (fZ xs)
   M.guard (decide (es.map (·.1)).Nodup)
   pure (.ref (<-M.alloc (.dct es)))
  | _=>M.bad
 | .int,.bool b=>pure (.int (if b then 1 else 0))
 | .isint,.int _=>pure (.bool rg)
 | _,_=>M.bad
noncomputable def O.isAt (o:O)(k:Nat):Bool:=qX o.ctorIdx k
theorem O.at_l {o:O}(h:o.isAt 0=rg):∃ x,o = .lst x:=O.lst.elim (motive:=λo=>∃ x,o = .lst x) o (oX h) λx=>⟨x,rfl⟩
theorem O.at_d {o:O}(h:o.isAt 2=rg):∃ x,o = .dct x:=O.dct.elim (motive:=λo=>∃ x,o = .dct x) o (oX h) λx=>⟨x,rfl⟩
theorem O.at_b {o:O}(h:o.isAt 8=rg):∃ x,o = .ba x:=O.ba.elim (motive:=λo=>∃ x,o = .ba x) o (oX h) λx=>⟨x,rfl⟩
noncomputable def gz (b:BM)(o:O):Bool:=match b with
 | .get=>o.isAt 2
 | .append=>o.isAt 0
 | .extend=>o.isAt 8
 | .remove=>o.isAt 0
 | .pop=>o.isAt 2
 | .join=>rj
noncomputable def cp (b:BM)(o:V)(as:List V):M V:=match o with
 | .ref a=>do
  match b,<-M.read a,as with
  | .get,.dct es,[.int k]=>pure ((af k es).getD .none)
  | .get,.dct es,[.int k,d]=>pure ((af k es).getD d)
  | .pop,.dct es,[.int k]=>do
   M.guard (decide (es.length<=lim))
   let v<-M.lift (af k es)
   M.write a (.dct (bR k es))
   pure v
  | .append,.lst xs,[v]=>do M.guard (decide (xs.length<lim));M.write a (.lst (xs++[v]));pure .none
  | .remove,.lst xs,[v]=>do
   M.guard (decide (xs.length<=lim))
   let i<-iA v xs
   M.write a (.lst (xs.eraseIdx i));pure .none
  | .extend,.ba b,[.bytes c]=>do M.guard (decide (b.length+c.length<=lim));M.write a (.ba (b++c));pure .none
  | _,_,_=>M.bad
 | .bytes []=>match b,as with
  | .join,[.ref a]=>do
   match<-M.read a with
   | .lst xs=>do
    M.guard (decide (1<=xs.length))
    let r<-M.lift (jz xs)
    M.guard (decide (r.length<=lim))
    pure (.bytes r)
   | _=>M.bad
  | _,_=>M.bad
 | _=>M.bad
noncomputable def jE (cl:Nat->Option Nat)(x:Nat):M V:=do
 let a<-M.lift (cl x)
 match<-M.read a with
 | .cell (rc v)=>pure v
 | _=>M.bad
noncomputable def bU (cl:Nat->Option Nat)(x:Nat)(v:V):M Unit:=do
 let a<-M.lift (cl x)
 match<-M.read a with
 | .cell _=>M.write a (.cell (rc v))
 | _=>M.bad
noncomputable def compLoop (i:It)(turn:V->M (Option V)):List V->M (List V)
 | []=>do i.stop;pure []
 | x:: xs=>do
  let y<-i.item x
  match<-turn y with
  | some v=>do pure (v:: (<-compLoop i turn xs))
  | none=>compLoop i turn xs
mutual
noncomputable def evE (cx:Cx):E->Loc->M V
 | .loc x,l=>M.lift (l x)
 | .cel x,_=>jE cx.cl x
 | .gint x,_=>do pure (.int (<-M.lift (cx.P.gint x)))
 | .cint i,_=>pure (.int i)
 | .cstr k,_=>pure (.str k)
 | .cnone,_=>pure .none
 | .cbool b,_=>pure (.bool b)
 | .cbytes,_=>pure (.bytes [])
 | .bin op a b,l=>do let x<-evE cx a l;let y<-evE cx b l;fc op x y
 | .cmp op a b,l=>do let x<-evE cx a l;let y<-evE cx b l;pure (.bool (<-aP op x y))
 | .cmp2 o p a b c,l=>do
  let x<-evE cx a l
  let y<-evE cx b l
  if<-aP o x y then do let z<-evE cx c l;pure (.bool (<-aP p y z)) else pure (.bool rj)
 | .and es,l=>evAnd cx es l
 | .or es,l=>evOr cx es l
 | .not a,l=>do pure (.bool (!(<-aQ (<-evE cx a l))))
 | .ite c a b,l=>do if<-aQ (<-evE cx c l) then evE cx a l else evE cx b l
 | .attr o f,l=>do getAttr cx.P.fld (<-evE cx o l) f
 | .call f as,l=>do cx.call (.fn f) (<-evEs cx as l)
 | .new c as,l=>do
  let vs<-evEs cx as l
  let d<-M.alloc (.ns [])
  let a<-M.alloc (.inst c d)
  match<-cx.call (.fn (<-M.lift (cx.P.init c))) (.ref a:: vs) with
  | .none=>pure (.ref a)
  | _=>M.bad
 | .dyn f,l=>do
  match<-evE cx f l with
  | .clo k cs=>cx.call (.lam k cs) []
  | _=>M.bad
 | .meth o m b as,l=>do
  let ov<-evE cx o l
  match ov with
  | .ref a=>do
   match<-M.read a with
   | .inst c d=>do
    let f<-M.lift (cx.P.mth c m)
    match<-M.read d with
    | .ns fs=>do
     M.guard (af m fs).isNone
     let vs<-evEs cx as l
     cx.call (.fn f) (ov:: vs)
    | _=>M.bad
   | o=>do
    let b<-M.lift b
    M.guard (gz b o)
    let vs<-evEs cx as l
    cp b ov vs
  | .bytes _=>do
   let b<-M.lift b
   M.guard (decide (b = .join))
   let vs<-evEs cx as l
   cp b ov vs
  | _=>M.bad
 | .b0,_=>do pure (.ref (<-M.alloc (.ba [])))
 | .b1 b a,l=>do bN b (<-evE cx a l)
 | .min a b,l=>do
  let x<-evE cx a l
  let y<-evE cx b l
  o5 x y
 | .idx o i,l=>do let x<-evE cx o l;let y<-evE cx i l;cg x y
 | .upto o b,l=>do let x<-evE cx o l;let y<-evE cx b l;c6 x .none y
 | .part o a b,l=>do let x<-evE cx o l;let y<-evE cx a l;let z<-evE cx b l;c6 x y z
 | .list es,l=>do newList (<-evEs cx es l)
 | .t2 a b,l=>do let x<-evE cx a l;let y<-evE cx b l;pure (.t2 x y)
 | .dict0,_=>do pure (.ref (<-M.alloc (.dct [])))
 | .dictS ks vs,l=>do
  M.guard (decide (0<ks.length/\ks.length<=15/\ks.Nodup))
  let xs<-evEs cx vs l
  pure (.ref (<-M.alloc (.sd (ks.zip xs))))
 | .comp el t it,l=>do
  let i<-evIt cx it l
  let xs<-M.solid (compLoop i (λx=>do
   let l'<-bindT cx t x (λ_=>re)
   pure (rc (<-evE cx el l'))) i.items)
  newList xs
 | .compIf el t it c,l=>do
  let i<-evIt cx it l
  let xs<-M.solid (compLoop i (λx=>do
   let l'<-bindT cx t x (λ_=>re)
   if<-aQ (<-evE cx c l') then do pure (rc (<-evE cx el l')) else pure re) i.items)
  newList xs
 | .lam k,_=>do
  match<-M.read (cx.P.tab k) with
  | .tab=>pure (.clo k cx.cl)
  | _=>M.bad
 | .never,_=>M.bad
termination_by structural x=>x
noncomputable def evEs (cx:Cx):Es->Loc->M (List V)
 | .nil,_=>pure []
 | .cons e es,l=>do let v<-evE cx e l;let vs<-evEs cx es l;pure (v:: vs)
termination_by structural x=>x
noncomputable def evAnd (cx:Cx):Es->Loc->M V
 | .nil,_=>M.bad
 | .cons e .nil,l=>evE cx e l
 | .cons e es,l=>do if<-aQ (<-evE cx e l) then evAnd cx es l else pure (.bool rj)
termination_by structural x=>x
noncomputable def evOr (cx:Cx):Es->Loc->M V
 | .nil,_=>M.bad
 | .cons e .nil,l=>evE cx e l
 | .cons e es,l=>do if<-aQ (<-evE cx e l) then pure (.bool rg) else evOr cx es l
termination_by structural x=>x
noncomputable def evIt (cx:Cx):Ite->Loc->M It
 | .of e,l=>do zcm (<-evE cx e l)
 | .by b a,l=>do eX b (<-evE cx a l)
 | .range3 a b c,l=>do
  let x<-evE cx a l
  let y<-evE cx b l
  let z<-evE cx c l
  n6 x y z
termination_by structural x=>x
noncomputable def bindT (cx:Cx):Tg->V->Loc->M Loc
 | .loc x,v,l=>pure (l.put x v)
 | .cel x,v,l=>do bU cx.cl x v;pure l
 | .pair a b,v,l=>match v with
  | .t2 x y=>do let l<-bindT cx a x l;bindT cx b y l
  | _=>M.bad
 | .sub o i,v,l=>do let x<-evE cx o l;let y<-evE cx i l;cG x y v;pure l
termination_by structural x=>x
end
noncomputable def kB (op:BOp)(x y:V):M V:=match op,x with
 | .add,.int _=>fc op x y
 | .sub,.int _=>fc op x y
 | _,_=>M.bad
noncomputable def V.isS:V->Bool | .str _=>rg | _=>rj
noncomputable def jP (c:Nat):List V->Bool
 | [v]=>v.isS&&c != 4
 | _=>rj
set_option genCtorIdx true in
inductive Fl where | next | ret (v:V)
noncomputable def dI (cx:Cx):List Tg->List V->Loc->M Loc
 | t:: ts,v:: vs,l=>do let l<-bindT cx t v l;dI cx ts vs l
 | [],[],l=>pure l
 | _,_,_=>M.bad
noncomputable def forLoop (i:It)(turn:V->Loc->M (Fl×Loc)):List V->Loc->M (Fl×Loc)
 | [],l=>do i.stop;pure (.next,l)
 | x:: xs,l=>do
  let y<-i.item x
  match<-turn y l with
  | (.next,l)=>forLoop i turn xs l
  | r=>pure r
noncomputable def fh (P:Prog)(l:Loc)(hs:List (Nat×E))(cx:Cx)(r:R V):R (Fl×Loc):=match r with
 | .ok v J=>.ok (.ret v,l) J
 | .exc c J=>match hs.find? (λh=>P.sub c h.1) with
  | some h=>(do let v<-evE cx h.2 l;pure (Fl.ret v,l):M (Fl×Loc)) J
  | none=>.bad
 | .bad=>.bad
mutual
noncomputable def exS (cx:Cx):S->Loc->M (Fl×Loc)
 | .expr e,l=>do let _<-evE cx e l;pure (.next,l)
 | .assign t e,l=>do let v<-evE cx e l;let l<-bindT cx t v l;pure (.next,l)
 | .attr o f e,l=>do let v<-evE cx e l;let x<-evE cx o l;setAttr cx.P.fld x f v;pure (.next,l)
 | .all o e,l=>do let v<-evE cx e l;let x<-evE cx o l;z8h x v;pure (.next,l)
 | .tupE t e,l=>do let v<-evE cx e l;let l<-bindT cx t v l;pure (.next,l)
 | .tupL ts es,l=>do let vs<-evEs cx es l;let l<-dI cx ts vs l;pure (.next,l)
 | .augAttr o f op e,l=>do
  let x<-evE cx o l
  let old<-getAttr cx.P.fld x f
  let v<-evE cx e l
  let new<-kB op old v
  setAttr cx.P.fld x f new
  pure (.next,l)
 | .augIdx o i op e,l=>do
  let x<-evE cx o l
  let y<-evE cx i l
  let old<-cg x y
  let v<-evE cx e l
  let new<-kB op old v
  cG x y new
  pure (.next,l)
 | .del o i,l=>do let x<-evE cx o l;let y<-evE cx i l;i5 x y;pure (.next,l)
 | .cond c a b,l=>do if<-aQ (<-evE cx c l) then exSs cx a l else exSs cx b l
 | .loop t it body,l=>do
  let i<-evIt cx it l
  forLoop i (λx l=>do let l<-bindT cx t x l;exSs cx body l) i.items l
 | .ret e,l=>do let v<-evE cx e l;pure (.ret v,l)
 | .ret0,l=>pure (.ret .none,l)
 | .raise c as,l=>do M.guard (cx.P.can c);let vs<-evEs cx as l;M.guard (jP c vs);λJ=>.exc c J
 | .tryRet e hs,l=>λJ=>fh cx.P l hs cx (evE cx e l J)
 | .stop,_=>M.bad
termination_by structural x=>x
noncomputable def exSs (cx:Cx):Ss->Loc->M (Fl×Loc)
 | .nil,l=>pure (.next,l)
 | .cons s ss,l=>do
  match<-exS cx s l with
  | (.next,l)=>exSs cx ss l
  | r=>pure r
termination_by structural x=>x
end
noncomputable def dz:List Nat->(Nat->Option Nat)->M (Nat->Option Nat)
 | [],cl=>pure cl
 | x:: xs,cl=>do
  let a<-M.alloc (.cell re)
  dz xs (λy=>if y=x then rc a else cl y)
noncomputable def bx (cl:Nat->Option Nat):List Nat->List V->Loc->M Loc
 | p:: ps,v:: vs,l=>match cl p with
  | some _=>do bU cl p v;bx cl ps vs l
  | none=>bx cl ps vs (l.put p v)
 | [],[],l=>pure l
 | _,_,_=>M.bad
noncomputable def bL (n:Nat)(vs ds:List V):Option (List V):=
 if vs.length<=n/\n<=vs.length+ds.length then rc (vs++ds.drop (vs.length+ds.length-n)) else re
noncomputable def cA:Fl->V | .ret v=>v | .next=>.none
noncomputable def zaa (P:Prog)(call:Fn->List V->M V):Fn->List V->M V
 | .fn f,vs=>do
  let d<-M.lift (P.fn f)
  let vs<-M.lift (bL d.params.length vs d.dflts)
  let cl<-dz d.cells (λ_=>re)
  let l<-bx cl d.params vs (λ_=>re)
  let r<-exSs ⟨P,call,cl⟩ d.body l
  pure (cA r.1)
 | .lam k cs,vs=>do
  let e<-M.lift (P.lam k)
  M.guard vs.isEmpty
  evE ⟨P,call,cs⟩ e (λ_=>re)
noncomputable def V.ref?:V->Option Nat | .ref a=>Option.some a | _=>Option.none
noncomputable def O.dct?:O->Option (List (Int×V)) | .dct es=>rc es | _=>re
noncomputable def O.sd?:O->Option (List (Nat×V)) | .sd es=>rc es | _=>re
noncomputable def l6 (J:MH)(k:Nat)(vs:List V):Option (Nat×List (Int×V)):=
 (vs.head?.bind λv=>v.ref?.bind λw=>(J.get w).bind λo=>o.sd?.bind λes=>(af k es).bind V.ref?).bind λh=>(J.get h).bind λo=>o.dct?.map λhs=>(h,hs)
noncomputable def dL (k:Nat)(m:List V->M V)(vs:List V):M V:=λJ=>match l6 J k vs with
 | some (h,hs)=>match m vs (J.set h (.cdct hs)) with
  | .ok v J'=>.ok v (J'.set h (.dct hs))
  | _=>.bad
 | none=>.bad
noncomputable def dA (P:Prog)(call:Fn->List V->M V):Fn->List V->M V
 | .fn f=>match P.lock f with
  | some k=>dL k (call (.fn f))
  | none=>call (.fn f)
 | .lam k cs=>call (.lam k cs)
noncomputable def al (P:Prog):Nat->Fn->List V->M V
 | 0=>λ_ _=>M.bad
 | n+1=>zaa P (dA P (al P n))
theorem z7E (J:MH):M.guard rg J = .ok () J:=rfl
theorem zb7 (J:MH):M.guard rj J = .bad:=rfl
noncomputable abbrev lK {β:Type}(f:V->M β):List V->M β | [v]=>f v | _=>M.bad
noncomputable abbrev oE {β:Type}(f:V->V->M β):List V->M β | [x,y]=>f x y | _=>M.bad
noncomputable abbrev oF {β:Type}(f:V->V->V->M β):List V->M β | [x,y,z]=>f x y z | _=>M.bad
theorem kU {Y:Type}{f:Unit->M Y}{b:Bool}{J:MH}(h:b=rg):(M.guard b >>= f) J=f () J:=by
 subst h;show M.bind (M.guard rg) f J=_;unfold M.bind;rw[z7E]
theorem jw {Y:Type}{f:Unit->M Y}{b:Bool}{J:MH}(h:b=rj):(M.guard b >>= f) J = .bad:=by
 subst h;show M.bind (M.guard rj) f J=_;unfold M.bind;rw[zb7]
noncomputable def z1J:Ss:=(.cons (.cond (.cmp .gt (.bin .mul (.gint 0) (.bin .add (.b1 .len (.loc 1)) (.cint 1))) (.loc 2)) (.cons .stop .nil) .nil) (.cons (.assign (.loc 3) .b0) (.cons (.loop (.cel 4) (.of (.bin .add (.list (.cons (.b1 .len (.loc 1)) .nil)) (.b1 .list (.loc 1)))) (.cons (.expr (.meth (.loc 3) 5 (rc .extend) (.cons (.b1 .bytes (.comp (.bin .and (.bin .shr (.cel 4) (.bin .mul (.cint 8) (.loc 6))) (.cint 255)) (.loc 6) (.by .range (.gint 0)))) .nil))) .nil)) (.cons (.ret (.bin .add (.b1 .bytes (.loc 3)) (.b1 .bytes (.bin .sub (.loc 2) (.b1 .len (.loc 3)))))) .nil))))
noncomputable def z1U:FnDef:=⟨[1,2],[4],[],z1J⟩
noncomputable def z2q:Ss:=(.cons (.assign (.loc 3) (.list .nil)) (.cons (.loop (.loc 8) (.range3 (.cint 0) (.bin .add (.bin .sub (.b1 .len (.loc 7)) (.gint 0)) (.cint 1)) (.gint 0)) (.cons (.assign (.loc 4) (.cint 0)) (.cons (.loop (.loc 9) (.by .rev (.part (.loc 7) (.loc 8) (.bin .add (.loc 8) (.gint 0)))) (.cons (.assign (.loc 4) (.bin .or (.bin .shl (.loc 4) (.cint 8)) (.loc 9))) .nil)) (.cons (.expr (.meth (.loc 3) 10 (rc .append) (.cons (.loc 4) .nil))) .nil)))) (.cons (.ret (.loc 3)) .nil)))
noncomputable def z2v:FnDef:=⟨[7],[],[],z2q⟩
noncomputable def z30:Ss:=(.cons (.assign (.loc 11) (.call 1 (.cons (.loc 7) .nil))) (.cons (.cond (.or (.cons (.cmp .eq (.b1 .len (.loc 11)) (.cint 0)) (.cons (.cmp .gt (.idx (.loc 11) (.cint 0)) (.loc 12)) (.cons (.cmp .ge (.idx (.loc 11) (.cint 0)) (.b1 .len (.loc 11))) .nil)))) (.cons .stop .nil) .nil) (.cons (.ret (.part (.loc 11) (.cint 1) (.bin .add (.cint 1) (.idx (.loc 11) (.cint 0))))) .nil)))
noncomputable def z35:FnDef:=⟨[7,12],[],[],z30⟩
noncomputable def f0:Ss:=(.cons (.tryRet (.dyn (.loc 13)) [(3,(.cstr 14)),(1,(.cstr 15))]) .nil)
noncomputable def z3w:FnDef:=⟨[13],[],[],f0⟩
noncomputable def z3t:Ss:=(.cons (.cond (.cmp .isin (.loc 16) (.idx (.cel 17) (.cstr 18))) (.cons (.augIdx (.cel 17) (.cstr 19) .add (.cint 1)) .nil) (.cons (.cond (.cmp .eq (.b1 .len (.idx (.cel 17) (.cstr 18))) (.cint 8)) (.cons (.assign (.loc 20) (.idx (.compIf (.loc 21) (.loc 21) (.of (.idx (.cel 17) (.cstr 18))) (.and (.cons (.cmp .notin (.loc 21) (.idx (.cel 17) (.cstr 22))) (.cons (.cmp .notin (.loc 21) (.idx (.cel 17) (.cstr 23))) .nil)))) (.cint 0))) (.cons (.expr (.meth (.idx (.cel 17) (.cstr 18)) 24 (rc .remove) (.cons (.loc 20) .nil))) (.cons (.expr (.meth (.idx (.cel 17) (.cstr 7)) 25 (rc .pop) (.cons (.loc 20) .nil))) .nil))) .nil) (.cons (.expr (.meth (.idx (.cel 17) (.cstr 18)) 10 (rc .append) (.cons (.loc 16) .nil))) (.cons (.assign (.sub (.idx (.cel 17) (.cstr 7)) (.loc 16)) (.idx (.idx (.cel 17) (.cstr 26)) (.loc 16))) (.cons (.augIdx (.cel 17) (.cstr 27) .add (.cint 1)) .nil))))) (.cons (.assign (.sub (.idx (.cel 17) (.cstr 22)) (.loc 16)) (.bin .add (.meth (.idx (.cel 17) (.cstr 22)) 28 (rc .get) (.cons (.loc 16) (.cons (.cint 0) .nil))) (.cint 1))) .nil))
noncomputable def z3v:FnDef:=⟨[17,16],[17],[],z3t⟩
noncomputable def z1H:Ss:=(.cons (.augIdx (.idx (.loc 17) (.cstr 22)) (.loc 16) .sub (.cint 1)) (.cons (.cond (.cmp .eq (.idx (.idx (.loc 17) (.cstr 22)) (.loc 16)) (.cint 0)) (.cons (.expr (.meth (.idx (.loc 17) (.cstr 22)) 25 (rc .pop) (.cons (.loc 16) .nil))) (.cons (.expr (.meth (.idx (.loc 17) (.cstr 18)) 24 (rc .remove) (.cons (.loc 16) .nil))) (.cons (.expr (.meth (.idx (.loc 17) (.cstr 18)) 10 (rc .append) (.cons (.loc 16) .nil))) .nil))) .nil) .nil))
noncomputable def z1S:FnDef:=⟨[17,16],[],[],z1H⟩
noncomputable def z1I:Ss:=(.cons (.expr (.call 4 (.cons (.loc 17) (.cons (.loc 16) .nil)))) (.cons (.assign (.loc 7) (.idx (.idx (.loc 17) (.cstr 7)) (.loc 16))) (.cons (.expr (.call 5 (.cons (.loc 17) (.cons (.loc 16) .nil)))) (.cons (.ret (.loc 7)) .nil))))
noncomputable def z1T:FnDef:=⟨[17,16],[],[],z1I⟩
noncomputable def z3u:Ss:=(.cons (.expr (.call 4 (.cons (.loc 17) (.cons (.loc 16) .nil)))) (.cons (.tupL [(.sub (.idx (.loc 17) (.cstr 7)) (.loc 16)),(.sub (.idx (.loc 17) (.cstr 26)) (.loc 16))] (.cons (.loc 7) (.cons (.loc 7) .nil))) (.cons (.augIdx (.loc 17) (.cstr 29) .add (.cint 1)) (.cons (.expr (.call 5 (.cons (.loc 17) (.cons (.loc 16) .nil)))) .nil))))
noncomputable def z3x:FnDef:=⟨[17,16,7],[],[],z3u⟩
noncomputable def z1G:Ss:=(.cons (.expr (.call 7 (.cons (.loc 17) (.cons (.cint 1) (.cons (.bin .add (.meth .cbytes 30 (rc .join) (.cons (.comp (.b1 .bytes (.list (.cons (.loc 21) (.cons (.cint 0) (.cons (.cint 0) (.cons (.cint 0) .nil)))))) (.loc 21) (.of (.bin .add (.list (.cons (.b1 .len (.loc 1)) .nil)) (.loc 1)))) .nil)) (.b1 .bytes (.bin .sub (.cint 12) (.bin .mul (.cint 4) (.b1 .len (.loc 1)))))) .nil))))) (.cons (.augIdx (.loc 17) (.cstr 31) .add (.cint 1)) .nil))
noncomputable def z1R:FnDef:=⟨[17,1],[],[],z1G⟩
noncomputable def z0K:Ss:=(.cons (.loop (.pair (.loc 8) (.loc 16)) (.by .enum (.idx (.loc 17) (.cstr 23))) (.cons (.expr (.call 7 (.cons (.loc 17) (.cons (.bin .add (.cint 2) (.loc 8)) (.cons (.call 6 (.cons (.loc 17) (.cons (.loc 16) .nil))) .nil))))) .nil)) (.cons (.augIdx (.loc 17) (.cstr 31) .add (.cint 1)) (.cons (.expr (.call 8 (.cons (.loc 17) (.cons (.idx (.loc 17) (.cstr 23)) .nil)))) (.cons (.loop (.loc 16) (.of (.idx (.loc 17) (.cstr 23))) (.cons (.expr (.call 7 (.cons (.loc 17) (.cons (.loc 16) (.cons (.call 6 (.cons (.loc 17) (.cons (.loc 16) .nil))) .nil))))) .nil)) (.cons (.augIdx (.loc 17) (.cstr 31) .add (.cint 1)) (.cons (.expr (.call 8 (.cons (.loc 17) (.cons (.list .nil) .nil)))) (.cons (.assign (.sub (.loc 17) (.cstr 23)) (.list .nil)) .nil)))))))
noncomputable def z0P:FnDef:=⟨[17],[],[],z0K⟩
noncomputable def z02:Ss:=(.cons (.assign (.loc 22) (.b1 .sorted (.idx (.cel 17) (.cstr 22)))) (.cons (.cond (.cmp .eq (.loc 32) (.cint 0)) (.cons (.assign (.loc 16) (.ite (.cmp .lt (.b1 .len (.loc 22)) (.cint 3)) (.bin .mod (.loc 33) (.cint 12)) (.idx (.loc 22) (.bin .mod (.loc 33) (.cint 3))))) (.cons (.assign (.sub (.idx (.cel 17) (.cstr 34)) (.loc 16)) (.meth (.loc 35) 28 (rc .get) (.cons (.loc 16) .nil))) (.cons (.expr (.call 4 (.cons (.cel 17) (.cons (.loc 16) .nil)))) (.cons (.ret (.t2 (.attr (.idx (.idx (.cel 17) (.cstr 34)) (.loc 16)) 16) (.loc 16))) .nil)))) .nil) (.cons (.cond (.and (.cons (.cmp .eq (.loc 32) (.cint 1)) (.cons (.cmp .ne (.loc 22) (.list .nil)) .nil))) (.cons (.assign (.loc 16) (.idx (.loc 22) (.bin .mod (.loc 33) (.b1 .len (.loc 22))))) (.cons (.assign (.loc 36) (.meth (.loc 35) 37 re (.cons (.idx (.idx (.cel 17) (.cstr 34)) (.loc 16)) .nil))) (.cons (.expr (.call 5 (.cons (.cel 17) (.cons (.loc 16) .nil)))) (.cons (.ret (.t2 (.loc 36) .cnone)) .nil)))) .nil) (.cons (.cond (.cmp .eq (.loc 32) (.cint 5)) (.cons (.ret (.t2 (.meth (.loc 35) 38 re (.cons (.bin .mod (.loc 33) (.cint 12)) .nil)) (.call 6 (.cons (.cel 17) (.cons (.bin .mod (.loc 33) (.cint 12)) .nil))))) .nil) .nil) (.cons (.cond (.cmp .eq (.loc 32) (.cint 7)) (.cons (.assign (.loc 36) (.meth (.loc 35) 39 re .nil)) (.cons (.assign (.sub (.cel 17) (.cstr 18)) (.compIf (.loc 21) (.loc 21) (.of (.idx (.cel 17) (.cstr 18))) (.or (.cons (.cmp .isin (.loc 21) (.idx (.cel 17) (.cstr 22))) (.cons (.cmp .isin (.loc 21) (.idx (.cel 17) (.cstr 23))) .nil))))) (.cons (.assign (.sub (.cel 17) (.cstr 7)) (.b1 .dict (.comp (.t2 (.loc 21) (.idx (.idx (.cel 17) (.cstr 7)) (.loc 21))) (.loc 21) (.of (.idx (.cel 17) (.cstr 18)))))) (.cons (.ret (.t2 (.loc 36) .cnone)) .nil)))) .nil) (.cons (.ret (.t2 .cnone .cnone)) .nil))))))
noncomputable def z1t:FnDef:=⟨[17,35,32,33],[17],[],z02⟩
noncomputable def cR:Ss:=(.cons (.assign (.loc 22) (.b1 .sorted (.idx (.cel 17) (.cstr 22)))) (.cons (.assign (.cel 16) (.idx (.loc 22) (.bin .mod (.loc 33) (.b1 .len (.loc 22))))) (.cons (.cond (.not (.cmp2 .le .le (.cint 1) (.cel 16) (.cint 4))) (.cons (.assign (.sub (.idx (.cel 17) (.cstr 7)) (.cel 16)) (.bin .mul (.b1 .bytes (.list (.cons (.bin .mod (.bin .fdiv (.loc 33) (.cint 3)) (.cint 256)) .nil))) (.cint 16))) (.cons (.expr (.meth (.idx (.idx (.cel 17) (.cstr 34)) (.cel 16)) 40 re (.cons (.idx (.idx (.cel 17) (.cstr 7)) (.cel 16)) .nil))) .nil)) .nil) (.cons (.tupL [(.loc 36),(.loc 41)] (.cons (.call 3 (.cons (.lam 0) .nil)) (.cons .cnone .nil))) (.cons (.cond (.or (.cons (.cmp .eq (.idx (.cel 17) (.cstr 44)) (.cint 0)) (.cons (.cmp2 .le .le (.cint 1) (.cel 16) (.cint 4)) .nil))) (.cons (.assign (.loc 41) (.cstr 15)) .nil) (.cons (.cond (.and (.cons (.cmp .notin (.cel 16) (.idx (.cel 17) (.cstr 23))) (.cons (.cmp .eq (.b1 .len (.idx (.cel 17) (.cstr 23))) (.cint 3)) .nil))) (.cons (.assign (.loc 41) (.cstr 14)) .nil) (.cons (.cond (.cmp .notin (.cel 16) (.idx (.cel 17) (.cstr 23))) (.cons (.expr (.meth (.idx (.cel 17) (.cstr 23)) 10 (rc .append) (.cons (.cel 16) .nil))) .nil) .nil) .nil)) .nil)) (.cons (.ret (.t2 (.loc 36) (.loc 41))) .nil))))))
noncomputable def z1u:FnDef:=⟨[17,42,33],[17,42,16],[],cR⟩
noncomputable def z09:Ss:=(.cons (.cond (.cmp .eq (.loc 32) (.cint 2)) (.cons (.assign (.loc 41) (.ite (.cmp .gt (.bin .add (.bin .add (.b1 .len (.idx (.loc 17) (.cstr 23))) (.idx (.loc 17) (.cstr 44))) (.cint 1)) (.cint 3)) (.cstr 14) .cnone)) (.cons (.augIdx (.loc 17) (.cstr 44) .add (.b1 .int (.cmp .is (.loc 41) .cnone))) (.cons (.ret (.t2 (.call 3 (.cons (.lam 1) .nil)) (.loc 41))) .nil))) .nil) (.cons (.cond (.cmp .eq (.loc 32) (.cint 6)) (.cons (.assign (.loc 36) (.call 3 (.cons (.lam 2) .nil))) (.cons (.cond (.or (.cons (.cmp .gt (.idx (.loc 17) (.cstr 44)) (.cint 0)) (.cons (.cmp .ne (.idx (.loc 17) (.cstr 23)) (.list .nil)) .nil))) (.cons (.ret (.t2 (.loc 36) (.cstr 15))) .nil) .nil) (.cons (.expr (.call 6 (.cons (.loc 17) (.cons (.cint 1) .nil)))) (.cons (.ret (.t2 (.loc 36) (.list .nil))) .nil)))) .nil) (.cons (.assign (.loc 36) (.call 3 (.cons (.lam 3) .nil))) (.cons (.cond (.cmp .eq (.idx (.loc 17) (.cstr 44)) (.cint 0)) (.cons (.ret (.t2 (.loc 36) (.cstr 15))) .nil) .nil) (.cons (.augIdx (.loc 17) (.cstr 44) .sub (.cint 1)) (.cons (.cond (.and (.cons (.cmp .eq (.idx (.loc 17) (.cstr 44)) (.cint 0)) (.cons (.cmp .ne (.idx (.loc 17) (.cstr 23)) (.list .nil)) .nil))) (.cons (.expr (.call 9 (.cons (.loc 17) .nil))) .nil) .nil) (.cons (.ret (.t2 (.loc 36) .cnone)) .nil)))))))
noncomputable def z1Q:FnDef:=⟨[17,42,32],[42],[],z09⟩
noncomputable def z01:Ss:=(.cons (.tupL [(.loc 32),(.loc 33)] (.cons (.bin .mod (.loc 48) (.cint 8)) (.cons (.bin .fdiv (.loc 48) (.cint 8)) .nil))) (.cons (.cond (.cmp .isin (.loc 32) (.list (.cons (.cint 0) (.cons (.cint 1) (.cons (.cint 5) (.cons (.cint 7) .nil)))))) (.cons (.tupE (.pair (.loc 36) (.loc 41)) (.call 10 (.cons (.loc 17) (.cons (.loc 35) (.cons (.loc 32) (.cons (.loc 33) .nil)))))) .nil) (.cons (.cond (.cmp .eq (.loc 32) (.cint 3)) (.cons (.tupE (.pair (.loc 36) (.loc 41)) (.ite (.cmp .ne (.idx (.loc 17) (.cstr 22)) .dict0) (.call 11 (.cons (.loc 17) (.cons (.loc 42) (.cons (.loc 33) .nil)))) (.t2 .cnone .cnone))) .nil) (.cons (.tupE (.pair (.loc 36) (.loc 41)) (.call 12 (.cons (.loc 17) (.cons (.loc 42) (.cons (.loc 32) .nil))))) .nil)) .nil)) (.cons (.ret (.and (.cons (.cmp .eq (.loc 36) (.loc 41)) (.cons (.call 14 (.cons (.loc 17) (.cons (.loc 35) (.cons (.loc 42) .nil)))) .nil)))) .nil)))
noncomputable def z0E:FnDef:=⟨[17,35,42,48],[],[],z01⟩
noncomputable def z2Z:Ss:=(.cons (.assign (.loc 49) (.list (.cons (.attr (.loc 35) 19) (.cons (.attr (.loc 35) 27) (.cons (.attr (.loc 35) 29) (.cons (.attr (.attr (.loc 35) 26) 31) (.cons (.attr (.loc 42) 44) (.cons (.meth (.loc 42) 50 re .nil) .nil)))))))) (.cons (.cond (.cmp .ne (.loc 49) (.list (.cons (.idx (.cel 17) (.cstr 19)) (.cons (.idx (.cel 17) (.cstr 27)) (.cons (.idx (.cel 17) (.cstr 29)) (.cons (.idx (.cel 17) (.cstr 31)) (.cons (.idx (.cel 17) (.cstr 44)) (.cons (.bin .sub (.cint 3) (.b1 .len (.idx (.cel 17) (.cstr 23)))) .nil)))))))) (.cons .stop .nil) .nil) (.cons (.assign (.loc 51) (.compIf (.loc 21) (.loc 21) (.of (.idx (.cel 17) (.cstr 18))) (.or (.cons (.cmp .isin (.loc 21) (.idx (.cel 17) (.cstr 22))) (.cons (.cmp .isin (.loc 21) (.idx (.cel 17) (.cstr 23))) .nil))))) (.cons (.cond (.or (.cons (.cmp .ne (.meth (.loc 35) 52 re .nil) (.idx (.cel 17) (.cstr 18))) (.cons (.cmp .ne (.meth (.loc 35) 53 re .nil) (.bin .sub (.cint 8) (.b1 .len (.loc 51)))) .nil))) (.cons .stop .nil) .nil) (.cons (.ret (.cmp .eq (.compIf (.loc 21) (.loc 21) (.of (.idx (.cel 17) (.cstr 22))) (.cmp .ne (.meth (.idx (.idx (.cel 17) (.cstr 34)) (.loc 21)) 7 re .nil) (.idx (.idx (.cel 17) (.cstr 7)) (.loc 21)))) (.list .nil))) .nil)))))
noncomputable def z34:FnDef:=⟨[17,35,42],[17],[],z2Z⟩
noncomputable def z6M:Ss:=(.cons (.assign (.loc 54) (.ite (.cmp .eq (.loc 55) (.list .nil)) (.list (.cons (.cint 2) (.cons (.cint 40) (.cons (.cint 27) (.cons (.cint 4) (.cons (.cint 77) (.cons (.cint 1) (.cons (.cint 7) .nil)))))))) (.comp (.bin .mod (.b1 .abs (.loc 48)) (.bin .pow (.cint 10) (.cint 12))) (.loc 48) (.of (.upto (.loc 55) (.cint 24)))))) (.cons (.assign (.cel 26) (.new 8 (.cons (.cint 12) (.cons (.cint 16) .nil)))) (.cons (.assign (.loc 35) (.new 7 (.cons (.cel 26) (.cons (.cint 8) .nil)))) (.cons (.assign (.loc 42) (.new 5 (.cons (.loc 35) (.cons (.cint 1) (.cons (.cint 4) (.cons (.cint 1) .nil)))))) (.cons (.assign (.loc 17) (.dictS [18,7,22,34,23,26] (.cons (.list .nil) (.cons .dict0 (.cons .dict0 (.cons .dict0 (.cons (.list .nil) (.cons (.comp (.b1 .bytes (.cint 16)) (.loc 16) (.by .range (.cint 12))) .nil)))))))) (.cons (.tupL [(.sub (.loc 17) (.cstr 19)),(.sub (.loc 17) (.cstr 27)),(.sub (.loc 17) (.cstr 29)),(.sub (.loc 17) (.cstr 31)),(.sub (.loc 17) (.cstr 44))] (.cons (.cint 0) (.cons (.cint 0) (.cons (.cint 0) (.cons (.cint 0) (.cons (.cint 0) .nil)))))) (.cons (.loop (.loc 48) (.of (.loc 54)) (.cons (.cond (.not (.call 13 (.cons (.loc 17) (.cons (.loc 35) (.cons (.loc 42) (.cons (.loc 48) .nil)))))) (.cons .stop .nil) .nil) .nil)) (.cons (.loop (.loc 56) (.by .range (.idx (.loc 17) (.cstr 44))) (.cons (.cond (.not (.call 13 (.cons (.loc 17) (.cons (.loc 35) (.cons (.loc 42) (.cons (.cint 4) .nil)))))) (.cons .stop .nil) .nil) .nil)) (.cons (.ret (.and (.cons (.cmp .eq (.comp (.meth (.cel 26) 57 re (.cons (.loc 16) .nil)) (.loc 16) (.by .range (.cint 12))) (.idx (.loc 17) (.cstr 26))) (.cons (.cmp .eq (.attr (.cel 26) 58) (.list .nil)) .nil)))) .nil)))))))))
noncomputable def zaK:FnDef:=⟨[55],[26],[],z6M⟩
noncomputable def z0f:Ss:=(.cons (.cond (.or (.cons (.cmp .lt (.loc 59) (.cint 0)) (.cons (.cmp .lt (.loc 2) (.cint 2)) (.cons (.cmp .gt (.bin .add (.loc 59) (.loc 2)) (.attr (.attr (.loc 35) 26) 60)) .nil)))) (.cons .stop .nil) .nil) (.cons (.attr (.loc 61) 35 (.loc 35)) (.cons (.attr (.loc 61) 59 (.loc 59)) (.cons (.attr (.loc 61) 2 (.loc 2)) (.cons (.attr (.loc 61) 62 (.min (.bin .sub (.loc 2) (.cint 1)) (.bin .sub (.bin .fdiv (.attr (.loc 35) 2) (.gint 0)) (.cint 1)))) (.cons (.attr (.loc 61) 12 (.min (.attr (.loc 61) 62) (.bin .sub (.attr (.loc 35) 12) (.gint 63)))) (.cons (.cond (.cmp .lt (.attr (.loc 61) 12) (.cint 1)) (.cons .stop .nil) .nil) (.cons (.attr (.loc 61) 64 (.ite (.cmp .is (.loc 64) .cnone) (.min (.gint 65) (.attr (.loc 61) 12)) (.loc 64))) (.cons (.cond (.not (.cmp2 .le .le (.cint 1) (.attr (.loc 61) 64) (.attr (.loc 61) 12))) (.cons .stop .nil) .nil) (.cons (.attr (.loc 61) 1 (.list .nil)) (.cons (.attr (.loc 61) 66 .dict0) (.cons (.attr (.loc 61) 44 (.cint 0)) (.cons (.attr (.loc 61) 67 (.cint 0)) .nil)))))))))))))
noncomputable def z0k:FnDef:=⟨[61,35,59,2,64],[],[.none],z0f⟩
noncomputable def z0J:Ss:=(.cons (.ret (.cmp2 .le .lt (.attr (.loc 61) 59) (.loc 16) (.bin .add (.attr (.loc 61) 59) (.attr (.loc 61) 2)))) .nil)
noncomputable def z0O:FnDef:=⟨[61,16],[],[],z0J⟩
noncomputable def z0h:Ss:=(.cons (.ret (.cmp .le (.bin .add (.b1 .len (.attr (.loc 61) 1)) (.bin .mul (.bin .add (.attr (.loc 61) 44) (.cint 1)) (.attr (.loc 61) 64))) (.attr (.loc 61) 12))) .nil)
noncomputable def z0m:FnDef:=⟨[61],[],[],z0h⟩
noncomputable def z1q:Ss:=(.cons (.ret (.bin .sub (.attr (.loc 61) 12) (.b1 .len (.attr (.loc 61) 1)))) .nil)
noncomputable def z1s:FnDef:=⟨[61],[],[],z1q⟩
noncomputable def z11:Ss:=(.cons (.cond (.not (.meth (.loc 61) 68 re .nil)) (.cons (.raise 3 (.cons (.cstr 69) .nil)) .nil) .nil) (.cons (.augAttr (.loc 61) 44 .add (.cint 1)) .nil))
noncomputable def z16:FnDef:=⟨[61],[],[],z11⟩
noncomputable def z12:Ss:=(.cons (.cond (.cmp .eq (.attr (.loc 61) 44) (.cint 0)) (.cons (.raise 1 (.cons (.cstr 70) .nil)) .nil) .nil) (.cons (.cond (.meth (.loc 61) 71 re (.cons (.attr (.loc 72) 16) .nil)) (.cons (.raise 1 (.cons (.cstr 73) .nil)) .nil) .nil) (.cons (.cond (.cmp .isin (.attr (.loc 72) 16) (.attr (.loc 61) 66)) (.cons (.expr (.meth (.attr (.loc 61) 35) 74 re (.cons (.loc 72) .nil))) (.cons .ret0 .nil)) .nil) (.cons (.cond (.cmp .ge (.b1 .len (.attr (.loc 61) 1)) (.attr (.loc 61) 12)) (.cons (.raise 3 (.cons (.cstr 75) .nil)) .nil) .nil) (.cons (.expr (.meth (.attr (.loc 61) 35) 76 re (.cons (.loc 72) .nil))) (.cons (.assign (.sub (.attr (.loc 61) 66) (.attr (.loc 72) 16)) (.b1 .len (.attr (.loc 61) 1))) (.cons (.expr (.meth (.attr (.loc 61) 1) 10 (rc .append) (.cons (.attr (.loc 72) 16) .nil))) .nil)))))))
noncomputable def z17:FnDef:=⟨[61,72],[],[],z12⟩
noncomputable def z1F:Ss:=(.cons (.cond (.cmp .eq (.attr (.loc 61) 44) (.cint 0)) (.cons (.raise 1 (.cons (.cstr 77) .nil)) .nil) .nil) (.cons (.augAttr (.loc 61) 44 .sub (.cint 1)) (.cons (.cond (.and (.cons (.cmp .eq (.attr (.loc 61) 44) (.cint 0)) (.cons (.cmp .ne (.attr (.loc 61) 1) (.list .nil)) .nil))) (.cons (.expr (.meth (.loc 61) 78 re .nil)) .nil) .nil) .nil)))
noncomputable def z1P:FnDef:=⟨[61],[],[],z1F⟩
noncomputable def z0I:Ss:=(.cons (.expr (.meth (.loc 61) 79 re .nil)) (.cons (.expr (.meth (.loc 61) 80 re (.cons (.attr (.loc 61) 1) .nil))) (.cons (.expr (.meth (.loc 61) 81 re (.cons (.attr (.loc 61) 1) (.cons (.cbool rj) .nil)))) (.cons (.expr (.meth (.loc 61) 80 re (.cons (.list .nil) .nil))) (.cons (.loop (.loc 16) (.of (.attr (.loc 61) 1)) (.cons (.expr (.meth (.attr (.loc 61) 35) 82 re (.cons (.loc 16) .nil))) .nil)) (.cons (.attr (.loc 61) 1 (.list .nil)) (.cons (.attr (.loc 61) 66 .dict0) (.cons (.augAttr (.loc 61) 67 .add (.cint 1)) .nil))))))))
noncomputable def z0N:FnDef:=⟨[61],[],[],z0I⟩
noncomputable def z0g:Ss:=(.cons (.loop (.pair (.loc 8) (.loc 16)) (.by .enum (.attr (.loc 61) 1)) (.cons (.expr (.meth (.attr (.loc 61) 35) 83 re (.cons (.bin .add (.bin .add (.attr (.loc 61) 59) (.cint 1)) (.loc 8)) (.cons (.meth (.attr (.loc 61) 35) 38 re (.cons (.loc 16) .nil)) .nil)))) .nil)) (.cons (.expr (.meth (.attr (.loc 61) 35) 84 re .nil)) .nil))
noncomputable def z0l:FnDef:=⟨[61],[],[],z0g⟩
noncomputable def z06:Ss:=(.cons (.expr (.meth (.attr (.loc 61) 35) 83 re (.cons (.attr (.loc 61) 59) (.cons (.call 0 (.cons (.loc 1) (.cons (.attr (.attr (.loc 61) 35) 2) .nil))) .nil)))) (.cons (.expr (.meth (.attr (.loc 61) 35) 84 re .nil)) .nil))
noncomputable def z07:FnDef:=⟨[61,1],[],[],z06⟩
noncomputable def z0t:Ss:=(.cons (.loop (.pair (.loc 8) (.loc 16)) (.by .enum (.loc 1)) (.cons (.assign (.loc 7) (.meth (.attr (.loc 61) 35) 38 re (.cons (.ite (.loc 85) (.bin .add (.bin .add (.attr (.loc 61) 59) (.cint 1)) (.loc 8)) (.loc 16)) .nil))) (.cons (.expr (.meth (.attr (.loc 61) 35) 83 re (.cons (.loc 16) (.cons (.loc 7) .nil)))) .nil))) (.cons (.expr (.meth (.attr (.loc 61) 35) 84 re .nil)) .nil))
noncomputable def z0B:FnDef:=⟨[61,1,85],[],[],z0t⟩
noncomputable def z0u:Ss:=(.cons (.assign (.loc 1) (.call 2 (.cons (.meth (.attr (.loc 61) 35) 38 re (.cons (.attr (.loc 61) 59) .nil)) (.cons (.attr (.loc 61) 62) .nil)))) (.cons (.loop (.pair (.loc 8) (.loc 16)) (.by .enum (.loc 1)) (.cons .stop .nil)) (.cons (.ret (.loc 1)) .nil)))
noncomputable def z0C:FnDef:=⟨[61],[],[],z0u⟩
noncomputable def z0v:Ss:=(.cons (.cond (.or (.cons (.cmp .gt (.attr (.loc 61) 44) (.cint 0)) (.cons (.cmp .ne (.attr (.loc 61) 1) (.list .nil)) .nil))) (.cons (.raise 1 (.cons (.cstr 86) .nil)) .nil) .nil) (.cons (.assign (.loc 1) (.meth (.loc 61) 87 re .nil)) (.cons (.cond (.cmp .ne (.loc 1) (.list .nil)) (.cons .stop (.cons .stop .nil)) .nil) (.cons (.ret (.loc 1)) .nil))))
noncomputable def z0D:FnDef:=⟨[61],[],[],z0v⟩
noncomputable def z0o:Ss:=(.cons (.attr (.loc 61) 16 (.loc 16)) (.cons (.attr (.loc 61) 88 (.b1 .bytearray (.loc 7))) (.cons (.attr (.loc 61) 89 (.cint 0)) (.cons (.attr (.loc 61) 90 (.cint 0)) .nil))))
noncomputable def z0w:FnDef:=⟨[61,16,7],[],[],z0o⟩
noncomputable def z0G:Ss:=(.cons (.ret (.and (.cons (.cmp .eq (.attr (.loc 61) 89) (.cint 0)) (.cons (.cmp .eq (.attr (.loc 61) 90) (.cint 0)) .nil)))) .nil)
noncomputable def z0L:FnDef:=⟨[61],[],[],z0G⟩
noncomputable def z0Y:Ss:=(.cons (.ret (.b1 .bytes (.attr (.loc 61) 88))) .nil)
noncomputable def z13:FnDef:=⟨[61],[],[],z0Y⟩
noncomputable def z1A:Ss:=(.cons (.cond (.cmp .ne (.b1 .len (.loc 7)) (.b1 .len (.attr (.loc 61) 88))) (.cons .stop .nil) .nil) (.cons (.all (.attr (.loc 61) 88) (.loc 7)) .nil))
noncomputable def z1K:FnDef:=⟨[61,7],[],[],z1A⟩
noncomputable def z0H:Ss:=(.cons (.cond (.cmp .lt (.loc 12) (.cint 1)) (.cons .stop .nil) .nil) (.cons (.attr (.loc 61) 26 (.loc 26)) (.cons (.attr (.loc 61) 12 (.loc 12)) (.cons (.attr (.loc 61) 2 (.attr (.loc 26) 2)) (.cons (.attr (.loc 61) 18 (.list .nil)) (.cons (.attr (.loc 61) 91 .dict0) (.cons (.attr (.loc 61) 19 (.cint 0)) (.cons (.attr (.loc 61) 27 (.cint 0)) (.cons (.attr (.loc 61) 29 (.cint 0)) .nil)))))))))
noncomputable def z0M:FnDef:=⟨[61,26,12],[],[],z0H⟩
noncomputable def z0e:Ss:=(.cons (.cond (.or (.cons (.not (.b1 .isint (.loc 16))) (.cons (.not (.cmp2 .le .lt (.cint 0) (.loc 16) (.attr (.attr (.loc 61) 26) 60))) .nil))) (.cons .stop .nil) .nil) .nil)
noncomputable def z0j:FnDef:=⟨[61,16],[],[],z0e⟩
noncomputable def z0q:Ss:=(.cons (.cond (.or (.cons (.cmp .isnot (.meth (.attr (.loc 61) 91) 28 (rc .get) (.cons (.attr (.loc 72) 16) .nil)) (.loc 72)) (.cons (.cmp .eq (.attr (.loc 72) 89) (.cint 0)) .nil))) (.cons .stop .nil) .nil) .nil)
noncomputable def z0y:FnDef:=⟨[61,72],[],[],z0q⟩
noncomputable def z2W:Ss:=(.cons (.expr (.meth (.loc 61) 92 re (.cons (.loc 16) .nil))) (.cons (.assign (.loc 3) (.meth (.attr (.loc 61) 91) 28 (rc .get) (.cons (.loc 16) .nil))) (.cons (.cond (.cmp .is (.loc 3) .cnone) (.cons (.expr (.meth (.loc 61) 93 re .nil)) (.cons (.assign (.loc 3) (.new 6 (.cons (.loc 16) (.cons (.meth (.attr (.loc 61) 26) 57 re (.cons (.loc 16) .nil)) .nil)))) (.cons (.augAttr (.loc 61) 27 .add (.cint 1)) (.cons (.assign (.sub (.attr (.loc 61) 91) (.loc 16)) (.loc 3)) (.cons (.expr (.meth (.attr (.loc 61) 18) 10 (rc .append) (.cons (.loc 3) .nil))) .nil))))) (.cons (.augAttr (.loc 61) 19 .add (.cint 1)) .nil)) (.cons (.augAttr (.loc 3) 89 .add (.cint 1)) (.cons (.ret (.loc 3)) .nil)))))
noncomputable def z31:FnDef:=⟨[61,16],[],[],z2W⟩
noncomputable def z0p:Ss:=(.cons (.cond (.cmp .lt (.b1 .len (.attr (.loc 61) 18)) (.attr (.loc 61) 12)) (.cons .ret0 .nil) .nil) (.cons (.loop (.pair (.loc 8) (.loc 72)) (.by .enum (.attr (.loc 61) 18)) (.cons (.cond (.meth (.loc 72) 94 re .nil) (.cons (.del (.attr (.loc 61) 91) (.attr (.loc 72) 16)) (.cons (.del (.attr (.loc 61) 18) (.loc 8)) (.cons .ret0 .nil))) .nil) .nil)) (.cons .stop .nil)))
noncomputable def z0x:FnDef:=⟨[61],[],[],z0p⟩
noncomputable def z0Z:Ss:=(.cons (.expr (.meth (.loc 61) 74 re (.cons (.loc 72) .nil))) (.cons (.augAttr (.loc 72) 89 .sub (.cint 1)) (.cons (.cond (.cmp .eq (.attr (.loc 72) 89) (.cint 0)) (.cons (.expr (.meth (.attr (.loc 61) 18) 24 (rc .remove) (.cons (.loc 72) .nil))) (.cons (.expr (.meth (.attr (.loc 61) 18) 10 (rc .append) (.cons (.loc 72) .nil))) .nil)) .nil) .nil)))
noncomputable def z14:FnDef:=⟨[61,72],[],[],z0Z⟩
noncomputable def z2X:Ss:=(.cons (.expr (.meth (.loc 61) 74 re (.cons (.loc 72) .nil))) (.cons (.augAttr (.loc 72) 90 .add (.cint 1)) .nil))
noncomputable def z32:FnDef:=⟨[61,72],[],[],z2X⟩
noncomputable def z1D:Ss:=(.cons (.assign (.loc 3) (.meth (.attr (.loc 61) 91) 28 (rc .get) (.cons (.loc 16) .nil))) (.cons (.cond (.or (.cons (.cmp .is (.loc 3) .cnone) (.cons (.cmp .eq (.attr (.loc 3) 90) (.cint 0)) .nil))) (.cons .stop .nil) .nil) (.cons (.augAttr (.loc 3) 90 .sub (.cint 1)) .nil)))
noncomputable def z1N:FnDef:=⟨[61,16],[],[],z1D⟩
noncomputable def z1E:Ss:=(.cons (.expr (.meth (.loc 61) 74 re (.cons (.loc 72) .nil))) (.cons (.expr (.meth (.attr (.loc 61) 26) 43 re (.cons (.attr (.loc 72) 16) (.cons (.meth (.loc 72) 7 re .nil) .nil)))) (.cons (.augAttr (.loc 61) 29 .add (.cint 1)) .nil)))
noncomputable def z1O:FnDef:=⟨[61,72],[],[],z1E⟩
noncomputable def z1B:Ss:=(.cons (.expr (.meth (.attr (.loc 61) 26) 84 re .nil)) .nil)
noncomputable def z1L:FnDef:=⟨[61],[],[],z1B⟩
noncomputable def z2m:Ss:=(.cons (.assign (.loc 72) (.meth (.loc 61) 28 (rc .get) (.cons (.loc 16) .nil))) (.cons (.assign (.loc 7) (.meth (.loc 72) 7 re .nil)) (.cons (.expr (.meth (.loc 61) 37 re (.cons (.loc 72) .nil))) (.cons (.ret (.loc 7)) .nil))))
noncomputable def z2r:FnDef:=⟨[61,16],[],[],z2m⟩
noncomputable def z2n:Ss:=(.cons (.assign (.loc 72) (.meth (.loc 61) 28 (rc .get) (.cons (.loc 16) .nil))) (.cons (.expr (.meth (.loc 72) 40 re (.cons (.loc 7) .nil))) (.cons (.expr (.meth (.loc 61) 43 re (.cons (.loc 72) .nil))) (.cons (.expr (.meth (.loc 61) 37 re (.cons (.loc 72) .nil))) .nil))))
noncomputable def z2s:FnDef:=⟨[61,16,7],[],[],z2n⟩
noncomputable def z1C:Ss:=(.cons (.ret (.comp (.attr (.loc 72) 16) (.loc 72) (.of (.attr (.loc 61) 18)))) .nil)
noncomputable def z1M:FnDef:=⟨[61],[],[],z1C⟩
noncomputable def z0d:Ss:=(.cons (.ret (.bin .sub (.attr (.loc 61) 12) (.b1 .len (.compIf (.loc 72) (.loc 72) (.of (.attr (.loc 61) 18)) (.not (.meth (.loc 72) 94 re .nil)))))) .nil)
noncomputable def z0i:FnDef:=⟨[61],[],[],z0d⟩
noncomputable def z1p:Ss:=(.cons (.loop (.loc 72) (.of (.b1 .list (.attr (.loc 61) 18))) (.cons (.cond (.meth (.loc 72) 94 re .nil) (.cons (.del (.attr (.loc 61) 91) (.attr (.loc 72) 16)) (.cons (.expr (.meth (.attr (.loc 61) 18) 24 (rc .remove) (.cons (.loc 72) .nil))) .nil)) .nil) .nil)) .nil)
noncomputable def z1r:FnDef:=⟨[61],[],[],z1p⟩
noncomputable def z10:Ss:=(.cons (.cond (.or (.cons (.cmp .lt (.loc 60) (.cint 1)) (.cons (.cmp .lt (.loc 2) (.cint 1)) .nil))) (.cons .stop .nil) .nil) (.cons (.attr (.loc 61) 60 (.loc 60)) (.cons (.attr (.loc 61) 2 (.loc 2)) (.cons (.attr (.loc 61) 34 .dict0) (.cons (.attr (.loc 61) 95 .dict0) (.cons (.attr (.loc 61) 58 (.list .nil)) (.cons (.attr (.loc 61) 29 (.cint 0)) (.cons (.attr (.loc 61) 31 (.cint 0)) (.cons (.attr (.loc 61) 96 .cnone) (.cons (.attr (.loc 61) 97 .cnone) (.cons (.attr (.loc 61) 98 (.cbool rj)) .nil)))))))))))
noncomputable def z15:FnDef:=⟨[61,60,2],[],[],z10⟩
noncomputable def z0s:Ss:=(.cons (.cond (.attr (.loc 61) 98) (.cons .stop .nil) .nil) .nil)
noncomputable def z0A:FnDef:=⟨[61],[],[],z0s⟩
noncomputable def z0r:Ss:=(.cons (.cond (.or (.cons (.not (.b1 .isint (.loc 16))) (.cons (.not (.cmp2 .le .lt (.cint 0) (.loc 16) (.attr (.loc 61) 60))) .nil))) (.cons .stop .nil) .nil) .nil)
noncomputable def z0z:FnDef:=⟨[61,16],[],[],z0r⟩
noncomputable def z2Y:Ss:=(.cons (.expr (.meth (.loc 61) 99 re .nil)) (.cons (.expr (.meth (.loc 61) 92 re (.cons (.loc 16) .nil))) (.cons (.ret (.meth (.attr (.loc 61) 95) 28 (rc .get) (.cons (.loc 16) (.cons (.b1 .bytes (.attr (.loc 61) 2)) .nil)))) .nil)))
noncomputable def z33:FnDef:=⟨[61,16],[],[],z2Y⟩
noncomputable def z2p:Ss:=(.cons (.expr (.meth (.loc 61) 99 re .nil)) (.cons (.expr (.meth (.loc 61) 92 re (.cons (.loc 16) .nil))) (.cons (.cond (.cmp .ne (.b1 .len (.loc 7)) (.attr (.loc 61) 2)) (.cons .stop .nil) .nil) (.cons (.cond (.and (.cons (.cmp .isnot (.attr (.loc 61) 96) .cnone) (.cons (.cmp .ge (.attr (.loc 61) 29) (.attr (.loc 61) 96)) .nil))) (.cons .stop .nil) .nil) (.cons (.augAttr (.loc 61) 29 .add (.cint 1)) (.cons (.assign (.sub (.attr (.loc 61) 95) (.loc 16)) (.b1 .bytes (.loc 7))) (.cons (.expr (.meth (.attr (.loc 61) 58) 10 (rc .append) (.cons (.t2 (.loc 16) (.b1 .bytes (.loc 7))) .nil))) .nil)))))))
noncomputable def z2u:FnDef:=⟨[61,16,7],[],[],z2p⟩
noncomputable def z2o:Ss:=(.cons (.expr (.meth (.loc 61) 99 re .nil)) (.cons (.cond (.and (.cons (.cmp .isnot (.attr (.loc 61) 97) .cnone) (.cons (.cmp .ge (.attr (.loc 61) 31) (.attr (.loc 61) 97)) .nil))) (.cons .stop .nil) .nil) (.cons (.augAttr (.loc 61) 31 .add (.cint 1)) (.cons (.loop (.pair (.loc 16) (.loc 7)) (.of (.attr (.loc 61) 58)) (.cons (.assign (.sub (.attr (.loc 61) 34) (.loc 16)) (.loc 7)) .nil)) (.cons (.attr (.loc 61) 58 (.list .nil)) .nil)))))
noncomputable def z2t:FnDef:=⟨[61],[],[],z2o⟩
noncomputable def og:E:=(.meth (.cel 42) 43 re (.cons (.idx (.idx (.cel 17) (.cstr 34)) (.cel 16)) .nil))
noncomputable def Al_1:E:=(.meth (.cel 42) 45 re .nil)
noncomputable def Al_2:E:=(.meth (.cel 42) 46 re .nil)
noncomputable def Al_3:E:=(.meth (.cel 42) 47 re .nil)
noncomputable def zbK:List (Nat×FnDef):=[(0,z1U),(1,z2v),(2,z35),(3,z3w),(4,z3v),(5,z1S),(6,z1T),(7,z3x),(8,z1R),(9,z0P),(10,z1t),(11,z1u),(12,z1Q),(13,z0E),(14,z34),(15,zaK),(16,z0k),(17,z0O),(18,z0m),(19,z1s),(20,z16),(21,z17),(22,z1P),(23,z0N),(24,z0l),(25,z07),(26,z0B),(27,z0C),(28,z0D),(29,z0w),(30,z0L),(31,z13),(32,z1K),(33,z0M),(34,z0j),(35,z0y),(36,z31),(37,z0x),(38,z14),(39,z32),(40,z1N),(41,z1O),(42,z1L),(43,z2r),(44,z2s),(45,z1M),(46,z0i),(47,z1r),(48,z15),(49,z0A),(50,z0z),(51,z33),(52,z2u),(53,z2t)]
noncomputable def Afn (f:Nat):Option FnDef:=zbK.lookup f
noncomputable def ky:Nat->Option E
 | 0=>rc og
 | 1=>rc Al_1
 | 2=>rc Al_2
 | 3=>rc Al_3
 | _=>re
noncomputable def z6Q:List (Nat×Nat):=[(5,16),(6,29),(7,33),(8,48)]
noncomputable def za6 (c:Nat):Option Nat:=z6Q.lookup c
noncomputable def za7:List ((Nat×Nat)×Nat):=[((5,71),17),((5,68),18),((5,50),19),((5,45),20),((5,43),21),((5,47),22),((5,78),23),((5,79),24),((5,80),25),((5,81),26),((5,87),27),((5,46),28),((6,94),30),((6,7),31),((6,40),32),((7,92),34),((7,74),35),((7,28),36),((7,93),37),((7,37),38),((7,76),39),((7,82),40),((7,43),41),((7,84),42),((7,38),43),((7,83),44),((7,52),45),((7,53),46),((7,39),47),((8,99),49),((8,92),50),((8,57),51),((8,43),52),((8,84),53)]
noncomputable def mU (c m:Nat):Option Nat:=za7.lookup (c,m)
noncomputable def z6P:List (Nat×Int):=[(0,4),(65,10),(63,4)]
noncomputable def za5 (g:Nat):Option Int:=z6P.lookup g
noncomputable def za4:List (Nat×Nat):=[(5,35),(5,59),(5,2),(5,62),(5,12),(5,64),(5,1),(5,66),(5,44),(5,67),(6,16),(6,88),(6,89),(6,90),(7,26),(7,12),(7,2),(7,18),(7,91),(7,19),(7,27),(7,29),(8,60),(8,2),(8,34),(8,95),(8,58),(8,29),(8,31),(8,96),(8,97),(8,98)]
noncomputable def Asub:Nat->Nat->Bool:=λa b=>a==b
noncomputable def iI (c f:Nat):Bool:=za4.contains (c,f)
noncomputable def mT:Nat->Bool:=λc=>c==1||c==3
noncomputable def zbL:Nat->Option Nat:=λf=>match qX f 14 with | true=>rc 22 | false=>re
noncomputable def nY:Nat->Nat:=λk=>match qX k 0 with | true=>1 | false=>2
noncomputable def ah:Prog:=⟨Afn,ky,nY,za6,mU,za5,Asub,iI,mT,zbL⟩
end Mine.Internal
section
open PySem PySem.W PyProof.Rows PySem.Calls
namespace Mine.Internal
noncomputable def cdA (i:Nat):Addr:=match i with | 0=>589 | _=>596
noncomputable def cdQ (i:Nat):Str:=match i with | 0=>"_law_written.<locals>.<lambda>" | _=>"_law_called.<locals>.<lambda>"
noncomputable def bop:BOp->Operator
 | .add=>.Add | .sub=>.Sub | .mul=>.Mult | .fdiv=>.FloorDiv | .mod=>.Mod | .pow=>.Pow | .shl=>.LShift | .shr=>.RShift | .and=>.BitAnd | .or=>.BitOr
noncomputable def cop:COp->CmpOp
 | .eq=>.Eq | .ne=>.NotEq | .lt=>.Lt | .le=>.LtE | .gt=>.Gt | .ge=>.GtE | .isin=>.In | .notin=>.NotIn | .is=>.Is | .isnot=>.IsNot
noncomputable def onI (n i:Nat)(g:n=i->Bool):Bool:=match Nat.decEq n i with | .isTrue h=>g h | .isFalse _=>rj
noncomputable def fW (pe:Expr):Bool:=!qX pe.ctorIdx 16||onI pe.ctorIdx 16 λq=>Expr.Call.elim (motive_1:=λ_=>Bool) pe q λ_ as _ _=>!as.isEmpty
noncomputable def fw (pe:Expr):Bool:=!qX pe.ctorIdx 26
noncomputable def aR (pe:Expr):Bool:=!qX pe.ctorIdx 22
noncomputable def au:List Expr->Bool
 | []=>rg
 | e:: r=>aR e&&au r
noncomputable def f8:B1->Str
 | .len=>"len" | .list=>"list" | .bytes=>"bytes" | .bytearray=>"bytearray" | .abs=>"abs" | .sorted=>"sorted" | .dict=>"dict" | .int=>"int" | .isint=>"isinstance"
noncomputable def jc:BM->Str
 | .get=>"get" | .append=>"append" | .extend=>"extend" | .remove=>"remove" | .pop=>"pop" | .join=>"join"
noncomputable def bv (pe:Expr):Bool:=qX pe.ctorIdx 25
noncomputable def c8 (pe:Expr):Bool:=!(Nat.ble 8 pe.ctorIdx&&Nat.ble pe.ctorIdx 10)
noncomputable def jJ (pt pe:Expr):Bool:=c8 pe||qX pt.ctorIdx 21
noncomputable def gM (pe:Expr):Bool:=!qX pe.ctorIdx 25
noncomputable def zac (sc:Scope):Expr->Bool
 | .Name id _=>sc.names.lookup id==rc .cell||sc.names.lookup id==rc .free
 | _=>rg
noncomputable def hH (sc:Scope)(ts:List Expr):Bool:=ts.any (zac sc)
structure Tb where
 nm:Nat->Str
 fnNm:Nat->Option Str
 clsNm:Nat->Option Str
 can:Nat->Bool
 exc:Nat->Option Str
 lam:Nat->Scope->Expr->Bool
 tab:Nat->Nat
noncomputable def jH:List Nat->List Nat->Bool
 | [],[]=>rg
 | a:: as,b:: bs=>qX a b&&jH as bs
 | _,_=>rj
noncomputable def sEq (a b:Str):Bool:=jH a.cps.toList b.cps.toList
noncomputable def jB (n:Str):List (Str×qV)->Option qV
 | []=>re
 | (x,k):: r=>bif sEq n x then rc k else jB n r
noncomputable def isK (k:qV)(sc:Scope)(x:Str):Bool:=decide (jB x sc.names=rc k)
noncomputable def isL:Scope->Str->Bool:=isK .local
noncomputable def isG:Scope->Str->Bool:=isK .globalImplicit
noncomputable def isC (sc:Scope)(x:Str):Bool:=isK .cell sc x||isK .free sc x
noncomputable def dQ (x:Str):Bool:=!(sEq x "__debug__")
noncomputable def jL (x:Str):Bool:=!(sEq x "__classdict__")
noncomputable def oEq:Option Str->Str->Bool
 | some a,b=>sEq a b
 | none,_=>rj
noncomputable def ik (pe:Expr):Bool:=!qX pe.ctorIdx 7
noncomputable def iF:Ite->Bool | .by .enum _=>rg | _=>rj
noncomputable def gJ (names:List (Str×qV)):List (Str×qV)->Bool
 | []=>rg
 | (x,k):: r=>(match k with
  | .local=>(match jB x names with | some .local=>rg | _=>rj)
  | .cell=>rj
  | _=>rg)&&gJ names r
noncomputable def kT (sc:Scope):List (Str×qV)->Bool
 | []=>rg
 | (x,k):: r=>(match k with
  | .free=>isC sc x
  | _=>rg)&&kT sc r
noncomputable def hZ (sc csc:Scope):Bool:=decide (csc.kind = .function)&&gJ csc.names csc.names&&kT sc csc.names
noncomputable def eZ (pe:Expr)(f:Str->Bool):Bool:=onI pe.ctorIdx 23 λq=>Expr.Name.elim (motive_1:=λ_=>Bool) pe q (λn _=>f n)
noncomputable def eT (pe:Expr)(f:Const->Bool):Bool:=onI pe.ctorIdx 19 λq=>Expr.Constant.elim (motive_1:=λ_=>Bool) pe q (λv _ _=>f v)
noncomputable def zcW (pe:Expr)(f:Expr->Operator->Expr->Bool):Bool:=onI pe.ctorIdx 2 λq=>Expr.BinOp.elim (motive_1:=λ_=>Bool) pe q (λa o b _=>f a o b)
noncomputable def oH (pe:Expr)(f:Expr->List CmpOp->List Expr->Bool):Bool:=onI pe.ctorIdx 15 λq=>Expr.Compare.elim (motive_1:=λ_=>Bool) pe q (λa os bs _=>f a os bs)
noncomputable def nU (pe:Expr)(f:PySem.BoolOp->List Expr->Bool):Bool:=onI pe.ctorIdx 0 λq=>Expr.BoolOp.elim (motive_1:=λ_=>Bool) pe q (λo es _=>f o es)
noncomputable def xUn (pe:Expr)(f:PySem.UnaryOp->Expr->Bool):Bool:=onI pe.ctorIdx 3 λq=>Expr.UnaryOp.elim (motive_1:=λ_=>Bool) pe q (λo a _=>f o a)
noncomputable def xIf (pe:Expr)(f:Expr->Expr->Expr->Bool):Bool:=onI pe.ctorIdx 5 λq=>Expr.IfExp.elim (motive_1:=λ_=>Bool) pe q (λa b d _=>f a b d)
noncomputable def k9 (pe:Expr)(f:Expr->Str->Pos->Bool):Bool:=onI pe.ctorIdx 20 λq=>Expr.Attribute.elim (motive_1:=λ_=>Bool) pe q (λa n p=>f a n p)
noncomputable def lO (pe:Expr)(f:Expr->List Expr->List PySem.Keyword->Pos->Bool):Bool:=onI pe.ctorIdx 16 λq=>Expr.Call.elim (motive_1:=λ_=>Bool) pe q (λg as ks p=>f g as ks p)
noncomputable def lR (pe:Expr)(f:Expr->Expr->Bool):Bool:=onI pe.ctorIdx 21 λq=>Expr.Subscript.elim (motive_1:=λ_=>Bool) pe q (λa i _=>f a i)
noncomputable def ly (pe:Expr)(f:Option Expr->Option Expr->Option Expr->Bool):Bool:=onI pe.ctorIdx 26 λq=>Expr.Slice.elim (motive_1:=λ_=>Bool) pe q (λa b d _=>f a b d)
noncomputable def zaI (pe:Expr)(f:List Expr->Bool):Bool:=onI pe.ctorIdx 24 λq=>Expr.List.elim (motive_1:=λ_=>Bool) pe q (λes _=>f es)
noncomputable def nW (pe:Expr)(f:List Expr->Bool):Bool:=onI pe.ctorIdx 25 λq=>Expr.Tuple.elim (motive_1:=λ_=>Bool) pe q (λes _ _=>f es)
noncomputable def nV (pe:Expr)(f:List (Option Expr)->List Expr->Bool):Bool:=onI pe.ctorIdx 6 λq=>Expr.Dict.elim (motive_1:=λ_=>Bool) pe q (λks vs _=>f ks vs)
noncomputable def lP (pe:Expr)(f:Expr->List PySem.Comprehension->Scope->Pos->Bool):Bool:=onI pe.ctorIdx 8 λq=>Expr.ListComp.elim (motive_1:=λ_=>Bool) pe q (λel gs sc p=>f el gs sc p)
noncomputable def zcY (pe:Expr)(f:Arguments->Expr->Scope->Bool):Bool:=onI pe.ctorIdx 4 λq=>Expr.Lambda.elim (motive_1:=λ_=>Bool) pe q (λa b s _=>f a b s)
noncomputable def ir (pe:Expr)(f:Str->Pos->Bool):Bool:=onI pe.ctorIdx 23 λq=>Expr.Name.elim (motive_1:=λ_=>Bool) pe q (λn p=>f n p)
noncomputable def l0 {Y:Type}:List Y->Bool | []=>rg | _=>rj
noncomputable def l1 {Y:Type}(l:List Y)(f:Y->Bool):Bool:=match l with | a:: r=>l0 r&&f a | _=>rj
noncomputable def l2 {Y:Type}(l:List Y)(f:Y->Y->Bool):Bool:=match l with | a:: r=>l1 r (f a) | _=>rj
noncomputable def l3 {Y:Type}(l:List Y)(f:Y->Y->Y->Bool):Bool:=match l with | a:: r=>l2 r (f a) | _=>rj
noncomputable def so {Y:Type}(o:Option Y)(f:Y->Bool):Bool:=match o with | some a=>f a | _=>rj
noncomputable def no {Y:Type}:Option Y->Bool | none=>rg | _=>rj
noncomputable def zcp (v:Const)(i:Int):Bool:=match v with | .int j=>decide (i=j) | _=>rj
noncomputable def nG (v:Const)(i:Str):Bool:=match v with | .str j=>sEq i j | _=>rj
noncomputable def zap (v:Const):Bool:=match v with | .none=>rg | _=>rj
noncomputable def zao (v:Const)(i:Bool):Bool:=match v with | .bool j=>i==j | _=>rj
noncomputable def zco (v:Const):Bool:=match v with | .bytes b=>l0 b | _=>rj
noncomputable def xNm (pe:Expr)(sc:Scope)(f:Str->List Expr->Bool):Bool:=lO pe λg as ks _=>l0 ks&&eZ g λn=>isG sc n&&f n as
noncomputable def xB (pe:Expr)(sc:Scope)(b:Str)(f:List Expr->Bool):Bool:=xNm pe sc λn as=>sEq n b&&au as&&f as
noncomputable def zcz (a:Arguments):Bool:=l0 a.posonlyargs&&l0 a.args&&no a.vararg&&l0 a.kwonlyargs&&l0 a.kw_defaults&&no a.kwarg&&l0 a.defaults
noncomputable def kY:Scope->Str->Bool:=isK .cell
noncomputable def zar (sc:Scope)(i:Nat):Bool:=kY sc ⟨#[106,111,117,114,110,97,108]⟩&&isL sc (match i with | 0=>⟨#[114,101,115,116]⟩ | _=>⟨#[119,97,121]⟩)
noncomputable def mn (T:Tb):List Nat->List (Option Expr)->List Expr->Bool
 | [],[],[]=>rg
 | k:: ks,o:: keys,_:: pes=>so o (λpe=>eT pe λv=>nG v (T.nm k))&&mn T ks keys pes
 | _,_,_=>rj
noncomputable def zcj:IB->Str | .enum=>"enumerate" | .range=>"range" | .rev=>"reversed"
mutual
noncomputable def aO (T:Tb)(t:Bool)(sc:Scope):Mine.Internal.E->Expr->Bool
 | .loc x,pe=>eZ pe λn=>sEq (T.nm x) n&&isL sc n&&dQ n
 | .cel x,pe=>eZ pe λn=>sEq (T.nm x) n&&isC sc n&&dQ n&&jL n
 | .gint x,pe=>eZ pe λn=>sEq (T.nm x) n&&isG sc n&&dQ n
 | .cint i,pe=>eT pe λv=>zcp v i
 | .cstr k,pe=>eT pe λv=>nG v (T.nm k)
 | .cnone,pe=>eT pe λv=>zap v
 | .cbool b,pe=>eT pe λv=>zao v b
 | .cbytes,pe=>eT pe λv=>zco v
 | .bin op a b,pe=>!t&&zcW pe λpa o pb=>decide (o=bop op)&&aO T rj sc a pa&&aO T rj sc b pb
 | .cmp op a b,pe=>oH pe λpa os pbs=>l1 os λo=>l1 pbs λpb=>decide (o=cop op)&&aO T rj sc a pa&&aO T rj sc b pb && !(behindInMarks (cop op) pb)
 | .cmp2 o p a b d,pe=>oH pe λpa os pbs=>l2 os λo' p'=>l2 pbs λpb pd=>decide (o'=cop o)&&decide (p'=cop p)&&aO T rj sc a pa&&aO T rj sc b pb&&aO T rj sc d pd && !(behindInMarks (cop p) pd)
 | .and es,pe=>nU pe λo pes=>decide (o = .And)&&chkEs T t sc es pes
 | .or es,pe=>nU pe λo pes=>decide (o = .Or)&&chkEs T t sc es pes
 | .not a,pe=>xUn pe λo pa=>decide (o = .Not)&&aO T t sc a pa
 | .ite k a b,pe=>!t&&xIf pe λpk pa pb=>aO T rg sc k pk&&aO T rj sc a pa&&aO T rj sc b pb
 | .attr o f,pe=>k9 pe λpo n _=>sEq (T.nm f) n&&fW po&&aO T rj sc o po
 | .call f as,pe=>xNm pe sc λx pas=>oEq (T.fnNm f) x&&chkEs T rj sc as pas&&au pas&&dQ x
 | .new k as,pe=>xNm pe sc λx pas=>oEq (T.clsNm k) x&&chkEs T rj sc as pas&&au pas&&dQ x
 | .dyn f,pe=>lO pe λg as ks _=>l0 ks&&l0 as&&ir g λm p=>aO T rj sc f (.Name m p)
 | .meth o m b as,pe=>lO pe λg pas ks pos=>l0 ks&&k9 g λpo n apos=>sEq (T.nm m) n&&(match b with | none=>rg | some b=>sEq n (jc b))&&fW po&&aO T rj sc o po&&chkEs T rj sc as pas&&au pas&&decide (pas.length<30)&&(apos.endLine==pos.line)
 | .b0,pe=>!t&&xB pe sc "bytearray" l0
 | .b1 b a,pe=>match b with
  | .isint=>xNm pe sc λx pas=>sEq x "isinstance" && l2 pas λpa py=>eZ py λy=>sEq y "int" && aO T rj sc a pa&&aR pa&&isG sc y
  | b=>xB pe sc (f8 b) λpas=>l1 pas λpa=>aO T rj sc a pa
 | .min a b,pe=>xB pe sc "min" λpas=>l2 pas λpa pb=>aO T rj sc a pa&&aO T rj sc b pb
 | .idx o i,pe=>lR pe λpo pi=>fw pi&&aO T rj sc o po&&aO T rj sc i pi
 | .upto o a,pe=>lR pe λpo pi=>ly pi λx y z=>so y λpa=>no x&&no z&&aO T rj sc o po&&aO T rj sc a pa
 | .part o a b,pe=>lR pe λpo pi=>ly pi λx y z=>so x λpa=>so y λpb=>no z&&aO T rj sc o po&&aO T rj sc a pa&&aO T rj sc b pb
 | .list es,pe=>!t&&zaI pe λpes=>chkEs T rj sc es pes&&au pes
 | .t2 a b,pe=>!t&&nW pe λpes=>l2 pes λpa pb=>aO T rj sc a pa&&aO T rj sc b pb&&au [pa,pb]
 | .dict0,pe=>!t&&nV pe λks vs=>l0 ks&&l0 vs
 | .dictS ks vs,pe=>!t&&nV pe λkeys pes=>mn T ks keys pes&&chkEs T rj sc vs pes
 | .comp el tg it,pe=>!t&&lP pe λpel gs csc _=>l1 gs λg=>l0 g.ifs&&decide (g.is_async=0)&&hZ sc csc&&chkIt T sc it g.iter&&(!(iF it)||bv g.target)&&chkTg T csc tg g.target&&aO T rj csc el pel&&ik g.iter
 | .compIf el tg it k,pe=>!t&&lP pe λpel gs csc _=>l1 gs λg=>l1 g.ifs λpk=>decide (g.is_async=0)&&hZ sc csc&&chkIt T sc it g.iter&&(!(iF it)||bv g.target)&&chkTg T csc tg g.target&&aO T rj csc el pel&&aO T rg csc k pk&&ik g.iter
 | .lam k,pe=>!t&&zcY pe λps pb csc=>zcz ps&&T.lam k csc pb&&kT sc csc.names&&zar sc (T.tab k)
 | .never,_=>rg
termination_by structural e=>e
noncomputable def chkEs (T:Tb)(t:Bool)(sc:Scope):Es->List Expr->Bool
 | .nil,pes=>l0 pes
 | .cons e es,pes=>match pes with | pe:: pes=>aO T t sc e pe&&chkEs T t sc es pes | _=>rj
termination_by structural e=>e
noncomputable def chkIt (T:Tb)(sc:Scope):Ite->Expr->Bool
 | .of e,pe=>aO T rj sc e pe
 | .by b a,pe=>xB pe sc (zcj b) λpas=>l1 pas λpa=>aO T rj sc a pa
 | .range3 a b d,pe=>xB pe sc "range" λpas=>l3 pas λpa pb pd=>aO T rj sc a pa&&aO T rj sc b pb&&aO T rj sc d pd
termination_by structural e=>e
noncomputable def chkTg (T:Tb)(sc:Scope):Tg->Expr->Bool
 | .loc x,pe=>eZ pe λn=>sEq (T.nm x) n&&isL sc n
 | .cel x,pe=>eZ pe λn=>sEq (T.nm x) n&&isC sc n
 | .pair a b,pe=>nW pe λpes=>l2 pes λpa pb=>chkTg T sc a pa&&chkTg T sc b pb&&au [pa,pb]
 | .sub o i,pe=>lR pe λpo pi=>aO T rj sc o po&&aO T rj sc i pi
termination_by structural e=>e
end
noncomputable def fV (csc:Scope)(nm:Str):Bool:=!(csc.names.any λ(n,k)=>sEq n nm&&(k==.local||k==.cell))
noncomputable def nX (pe:Stmt)(f:Expr->Bool):Bool:=onI pe.ctorIdx 24 λq=>Stmt.Expr.elim (motive_2:=λ_=>Bool) pe q (λa _=>f a)
noncomputable def mC (pe:Stmt)(f:List Expr->Expr->Bool):Bool:=onI pe.ctorIdx 5 λq=>Stmt.Assign.elim (motive_2:=λ_=>Bool) pe q (λts a _=>f ts a)
noncomputable def oJ (pe:Stmt)(f:Expr->Operator->Expr->Bool):Bool:=onI pe.ctorIdx 7 λq=>Stmt.AugAssign.elim (motive_2:=λ_=>Bool) pe q (λt o a _=>f t o a)
noncomputable def yIf (pe:Stmt)(f:Expr->List Stmt->List Stmt->Bool):Bool:=onI pe.ctorIdx 12 λq=>Stmt.If.elim (motive_2:=λ_=>Bool) pe q (λk a b _=>f k a b)
noncomputable def zd1 (pe:Stmt)(f:Expr->Expr->List Stmt->List Stmt->Bool):Bool:=onI pe.ctorIdx 9 λq=>Stmt.For.elim (motive_2:=λ_=>Bool) pe q (λt i a b _=>f t i a b)
noncomputable def oa (pe:Stmt)(f:Option Expr->Bool):Bool:=onI pe.ctorIdx 3 λq=>Stmt.Return.elim (motive_2:=λ_=>Bool) pe q (λa _=>f a)
noncomputable def z8K (pe:Stmt)(f:Option Expr->Option Expr->Bool):Bool:=onI pe.ctorIdx 16 λq=>Stmt.Raise.elim (motive_2:=λ_=>Bool) pe q (λa b _=>f a b)
noncomputable def zd3 (pe:Stmt)(f:List Stmt->List ExceptHandler->List Stmt->List Stmt->Bool):Bool:=onI pe.ctorIdx 17 λq=>Stmt.Try.elim (motive_2:=λ_=>Bool) pe q (λa hs b d _=>f a hs b d)
noncomputable def zag (T:Tb)(sc:Scope)(t:Tg)(e:Mine.Internal.E)(pt pe:Expr):Bool:=match t with
 | .loc x=>match e with
  | .comp el tg it=>ir pt λnm p2=>lP pe λpel gs csc pos=>l1 gs λg=>l0 g.ifs&&(decide (g.is_async=0)&&sEq (T.nm x) nm&&isL sc nm&&(p2.line==pos.line)&&fV csc nm&&hZ sc csc&&chkIt T sc it g.iter&&(!(iF it)||bv g.target)&&chkTg T csc tg g.target&&aO T rj csc el pel&&ik g.iter)
  | .compIf el tg it k=>ir pt λnm p2=>lP pe λpel gs csc pos=>l1 gs λg=>l1 g.ifs λpk=>(decide (g.is_async=0)&&sEq (T.nm x) nm&&isL sc nm&&(p2.line==pos.line)&&fV csc nm&&hZ sc csc&&chkIt T sc it g.iter&&(!(iF it)||bv g.target)&&chkTg T csc tg g.target&&aO T rj csc el pel&&ik g.iter)&&aO T rg csc k pk
  | _=>rj
 | _=>rj
noncomputable def zaB (T:Tb)(sc:Scope)(t1 t2:Tg)(p1 p2 q1 q2:Expr):Bool:=match t1 with
 | .loc a=>match t2 with
  | .loc b=>ir p1 λna pa=>ir p2 λnb pb=>sEq (T.nm a) na&&sEq (T.nm b) nb&&isL sc na&&isL sc nb&&(pb.line==pa.line) && !(sEq na nb)&&au [q1,q2] && !([q1,q2].all (foldedForSure 8)) && !([q1,q2].all (constantsAlone 8))
  | _=>rj
 | _=>rj
noncomputable def cS (e:Mine.Internal.E)(f:Nat->Bool):Bool:=match e with | .cstr k=>f k | _=>rj
noncomputable def zd0 (pe:Stmt)(f:List Expr->Bool):Bool:=onI pe.ctorIdx 4 λq=>Stmt.Delete.elim (motive_2:=λ_=>Bool) pe q (λts _=>f ts)
noncomputable def o8 (ps:List Stmt)(f:Expr->Bool):Bool:=l1 ps λp=>oa p λo=>so o f
noncomputable def hnd (h:ExceptHandler)(f:Expr->List Stmt->Bool):Bool:=match h with | .ExceptHandler t n b _=>no n&&so t λt=>f t b
noncomputable def e0 (es:Es):Bool:=match es with | .nil=>rg | _=>rj
noncomputable def e1 (es:Es)(f:Mine.Internal.E->Bool):Bool:=match es with | .cons a r=>e0 r&&f a | _=>rj
noncomputable def e2 (es:Es)(f:Mine.Internal.E->Mine.Internal.E->Bool):Bool:=match es with | .cons a r=>e1 r (f a) | _=>rj
noncomputable def lY (T:Tb)(sc:Scope):List Tg->List Expr->Bool
 | [],[]=>rg
 | t:: ts,p:: ps=>chkTg T sc t p&&lY T sc ts ps
 | _,_=>rj
noncomputable def tryC (T:Tb)(sc:Scope)(e:Mine.Internal.E)(j1 j2:Nat)(pe:Expr)(x1 x2:Str):Bool:=oEq (T.exc j1) x1&&oEq (T.exc j2) x2&&T.can j1 && !(qX j1 j2)&&isG sc x1&&isG sc x2&&dQ x1&&dQ x2&&aO T rj sc e pe
noncomputable def tupC (T:Tb)(sc:Scope)(ts:List Tg)(es:Es)(pts qs:List Expr):Bool:=lY T sc ts pts&&au pts&&chkEs T rj sc es qs&&au qs&&hH sc pts&&qX pts.length qs.length&&Nat.ble qs.length 100
noncomputable def zcN (T:Tb)(sc:Scope)(t1 t2:Tg)(e1 e2:Mine.Internal.E)(p1 p2 q1 q2:Expr):Bool:=(aO T rj sc e1 q1&&aO T rj sc e2 q2)&&zaB T sc t1 t2 p1 p2 q1 q2
mutual
noncomputable def zbX (T:Tb)(sc:Scope):Mine.Internal.S->Stmt->Bool
 | .expr e,ps=>nX ps λpe=>aO T rj sc e pe&&c8 pe
 | .assign t e,ps=>mC ps λts pe=>l1 ts λpt=>zag T sc t e pt pe||(chkTg T sc t pt&&aR pt&&aO T rj sc e pe&&jJ pt pe&&gM pe)
 | .attr o f e,ps=>mC ps λts pe=>l1 ts λpt=>k9 pt λpo nm _=>sEq (T.nm f) nm&&aO T rj sc o po&&aO T rj sc e pe&&c8 pe
 | .all o e,ps=>mC ps λts pe=>l1 ts λpt=>lR pt λpo pi=>ly pi λx y z=>no x&&no y&&no z&&(aO T rj sc o po&&aO T rj sc e pe&&c8 pe&&gM pe)
 | .tupE t e,ps=>mC ps λts pe=>l1 ts λpt=>chkTg T sc t pt&&aR pt&&aO T rj sc e pe&&c8 pe&&gM pe
 | .tupL ts es,ps=>mC ps λpts pe=>l1 pts λpt=>nW pt λpts=>nW pe λqs=>(l2 ts λt1 t2=>e2 es λe1 e2=>l2 pts λp1 p2=>l2 qs λq1 q2=>zcN T sc t1 t2 e1 e2 p1 p2 q1 q2)
  || tupC T sc ts es pts qs
 | .augAttr o f op e,ps=>oJ ps λpt op' pe=>k9 pt λpo nm _=>decide (op'=bop op)&&sEq (T.nm f) nm&&aO T rj sc o po&&aO T rj sc e pe
 | .augIdx o i op e,ps=>oJ ps λpt op' pe=>lR pt λpo pi=>decide (op'=bop op)&&fw pi&&aO T rj sc o po&&aO T rj sc i pi&&aO T rj sc e pe
 | .del o i,ps=>zd0 ps λts=>l1 ts λpt=>lR pt λpo pi=>aO T rj sc o po&&aO T rj sc i pi
 | .cond k a b,ps=>yIf ps λpk pa pb=>aO T rg sc k pk&&chkSs T sc a pa&&chkSs T sc b pb
 | .loop tg it body,ps=>zd1 ps λpt pi pb pe=>l0 pe&&(chkIt T sc it pi&&(!(iF it)||bv pt)&&chkTg T sc tg pt&&chkSs T sc body pb&&ik pi)
 | .ret e,ps=>oa ps λo=>so o λpe=>aO T rj sc e pe
 | .ret0,ps=>oa ps no
 | .raise j as,ps=>!(T.can j)||(match as with
  | .nil=>rj
  | .cons a as=>match as with
   | .nil=>z8K ps λo d=>no d&&so o λpe=>xNm pe sc λx pas=>l1 pas λpa=>oEq (T.exc j) x&&aO T rj sc a pa&&au [pa]&&dQ x
   | _=>rj)
 | .tryRet e hs,ps=>l2 hs λh1 h2=>cS h1.2 λi1=>cS h2.2 λi2=>zd3 ps λbs phs o f=>l0 o&&l0 f&&(o8 bs λpe=>l2 phs λph1 ph2=>hnd ph1 λpx1 pb1=>hnd ph2 λpx2 pb2=>o8 pb1 λpv1=>o8 pb2 λpv2=>eZ px1 λx1=>eZ px2 λx2=>
  tryC T sc e h1.1 h2.1 pe x1 x2&&eT pv1 λv1=>eT pv2 λv2=>nG v1 (T.nm i1)&&nG v2 (T.nm i2))
 | .stop,ps=>rg
termination_by structural s=>s
noncomputable def chkSs (T:Tb)(sc:Scope):Ss->List Stmt->Bool
 | .nil,ps=>l0 ps
 | .cons s ss,ps=>match ps with | p:: ps=>zbX T sc s p&&chkSs T sc ss ps | _=>rj
termination_by structural s=>s
end
noncomputable def vTy (v:Value)(f:String->Bool):Bool:=onI v.ctorIdx 8 λq=>Value.type.elim (motive:=λ_=>Bool) v q f
noncomputable def vRf (v:Value)(f:Addr->Bool):Bool:=onI v.ctorIdx 10 λq=>qN.elim (motive:=λ_=>Bool) v q f
noncomputable def vNo (v:Value):Bool:=onI v.ctorIdx qI.ctorIdx λ_=>rg
noncomputable def vBl (v:Value)(f:String->Bool):Bool:=onI v.ctorIdx 9 λq=>Value.builtin.elim (motive:=λ_=>Bool) v q f
noncomputable def vIn (v:Value)(f:Int->Bool):Bool:=onI v.ctorIdx 4 λq=>Value.int.elim (motive:=λ_=>Bool) v q λi _=>f i
noncomputable def dCl (v:Data)(f:ClassData->Bool):Bool:=onI v.ctorIdx 8 λq=>Data.cls.elim (motive:=λ_=>Bool) v q f
noncomputable def dDi (v:Data)(f:Array DictEntry->Bool):Bool:=onI v.ctorIdx 3 λq=>Data.dict.elim (motive:=λ_=>Bool) v q λes _=>f es
noncomputable def dSq (v:Data)(f:Array Value->Bool):Bool:=onI v.ctorIdx 2 λq=>Data.seq.elim (motive:=λ_=>Bool) v q λes _=>f es
noncomputable def dFn (v:Data)(f:qR->Bool):Bool:=onI v.ctorIdx 7 λq=>Data.func.elim (motive:=λ_=>Bool) v q f
noncomputable def lc {Y:Type}(l:List Y)(f:Y->List Y->Bool):Bool:=match l with | a:: r=>f a r | _=>rj
noncomputable def bA (x:Option (Option Value))(a:Addr):Bool:=so x λo=>so o λv=>vRf v λb=>qX b a
noncomputable def gG (x:Option (Option Value))(a:String):Bool:=so x λo=>so o λv=>vBl v λb=>b==a
noncomputable def cX (x:Option (Option Value)):Bool:=so x no
noncomputable def mh (x:Option (Option Value))(a:Int):Bool:=so x λo=>so o λv=>vIn v λi=>decide (i=a)
noncomputable def vSt (v:Value):Bool:=onI v.ctorIdx 6 λ_=>rg
noncomputable def lS:List DictEntry->Bool
 | []=>rg
 | e:: r=>vSt e.key&&lS r
noncomputable def zax (K:Frag)(N:Addr):Bool:=so (K.lookup N) λo=>dDi o.data λes=>lS es.toList
noncomputable def om (C:Addr)(o:Obj)(f:List Value->Addr->String->Bool):Bool:=vTy o.cls λt=>dCl o.data λcd=>lc cd.mro λv bm=>vRf v λc=>
 lc o.slots.toList λ_ r=>lc r λ_ r=>lc r λ_ r=>l3 r λ_ k _=>so k λv=>vBl v λnewId=>(t == "type" && qX c C && !cd.hasDel)&&f bm cd.ns newId
noncomputable def tys:List String->List Value->Bool
 | [],r=>r.isEmpty
 | b:: s,r=>lc r λv r=>vTy v (λa=>a==b)&&tys s r
noncomputable def fX:List Value->Bool
 | []=>rj
 | v:: r=>tys ["ValueError","Exception","BaseException","object"] (v:: r)||(vRf v λ_=>rg)&&fX r
noncomputable def j3 (K:Frag)(C:Addr):Bool:=(clsIn K C).any λcd=>fX cd.mro
noncomputable def jY:List Str->List Str->Bool
 | [],[]=>rg
 | a:: as,b:: bs=>sEq a b&&jY as bs
 | _,_=>rj
noncomputable def lJ (a:Str):List Str->Bool
 | []=>rg
 | b:: r=>!(sEq a b)&&lJ a r
noncomputable def gL:List Str->Bool
 | []=>rg
 | a:: r=>lJ a r&&gL r
noncomputable def iW (K:Frag)(t:Addr):Bool:=so (K.lookup t) λo=>dSq o.data λxs=>l1 xs.toList vNo
noncomputable def eW {Y:Type}:List Y->Bool | []=>rg | _=>rj
noncomputable def nF {Y:Type}:Option Y->Bool | none=>rg | _=>rj
noncomputable def z56 (K:Frag)(d:FnDef)(v:Value):Bool:=
 (eW d.dflts&&vNo v)||(l1 d.dflts V.none? && vRf v λt=>!(eW d.params)&&iW K t)
noncomputable def kJ (K:Frag)(T:Tb)(p:Arguments)(v:Value)(d:FnDef):Bool:=
 eW p.posonlyargs&&nF p.vararg&&eW p.kwonlyargs&&nF p.kwarg&&jY (p.args.map (·.arg)) (d.params.map T.nm)&&gL (d.params.map T.nm)&&z56 K d v
noncomputable def dT:List (Str×qV)->List Str
 | []=>[]
 | (x,.cell):: r=>x:: dT r
 | _:: r=>dT r
noncomputable def lh:List (Str×qV)->Bool
 | []=>rg
 | (_,.free):: _=>rj
 | _:: r=>lh r
noncomputable def gF (a:Nat):List Nat->Bool
 | []=>rj
 | b:: r=>qX a b||gF a r
noncomputable def jj (T:Tb)(sc:Scope)(cells:List Nat):List Nat->Bool
 | []=>rg
 | p:: r=>(bif gF p cells then kY sc (T.nm p) else isL sc (T.nm p))&&jj T sc cells r
noncomputable def lI:ScopeKind->Bool | .function=>rg | _=>rj
noncomputable def bSs (b:FuncBody)(f:List Stmt->Bool):Bool:=match b with | .stmts body=>f body | _=>rj
noncomputable def ni (fd:qR)(i:Nat):Bool:=vRf fd.code (λa=>qX a (cdA i))&&sEq (fd.qualname ++ ".<locals>." ++ "<lambda>") (cdQ i)
noncomputable def zaq (fd:qR):Bool:=!kY fd.scope ⟨#[106,111,117,114,110,97,108]⟩||(!isL fd.scope ⟨#[114,101,115,116]⟩||ni fd 0)&&(!isL fd.scope ⟨#[119,97,121]⟩||ni fd 1)
noncomputable def nh (K:Frag)(T:Tb)(a:Addr)(d:FnDef):Bool:=so (K.lookup a) λo=>dFn o.data λfd=>
 !fd.scope.isCoroutine && !fd.scope.isGenerator&&codeIn K fd.code fd.qualname&&eW fd.closure&&qX fd.globals qw&&qX fd.builtins qD &&
   lI fd.scope.kind&&jY (dT fd.scope.names) (d.cells.map T.nm)&&lh fd.scope.names&&jj T fd.scope d.cells d.params&&kJ K T fd.params fd.defaults d&&zaq fd&&bSs fd.body λbody=>chkSs T fd.scope d.body body
structure Wt where
 nm:List Str
 cls:Nat->Addr
 fnA:Nat->Addr
 insts:List Nat
 fnL:List (Nat×Str)
 clsL:List (Nat×Str)
 exc:List (Nat×Str)
 initL:List (Nat×Nat)
 mthL:List ((Nat×Nat)×Nat)
 gintL:List (Nat×Int)
 fldL:List (Nat×Nat)
noncomputable def kf (l:List Str)(i:Nat):Str:=match l[i]? with
 | some s=>s
 | none=>⟨#[0,i]⟩
noncomputable def gV (K:Frag)(a:Addr):Bool:=so (K.lookup a) λo=>vTy o.cls (λt=>t == "function")&&dFn o.data λ_=>rg
noncomputable def iO (K:Frag)(C:Addr):Bool:=gG (r8 K (.ref C) "__getattribute__") "object.__getattribute__" && cX (r8 K (.ref C) "__getattr__")&&gG (r8 K (.ref C) "__setattr__") "object.__setattr__" && plainOver K C&&hasDictIn K C&&makesIn K C
noncomputable def lV (K:Frag)(C:Addr):Bool:=so (K.lookup C) λo=>om C o λbm N _=>l1 bm λv=>vTy v λt=>t == "object" && zax K N&&cX (nsIn K N "__eq__")&&cX (nsIn K N "__ne__")
noncomputable def kD:List (Str×Value):=[(("len" : Str),Value.builtin "len"),("list",.type "list"),("bytes",.type "bytes"),("bytearray",.type "bytearray"),("abs",.builtin "abs"),("dict",.type "dict"),("int",.type "int"),
  ("isinstance",.builtin "isinstance"),("min",.builtin "min"),("range",.type "range"),("enumerate",.type "enumerate"),("reversed",.type "reversed"),("sorted",.builtin "sorted")]
noncomputable def kI (K:Frag)(W:Wt)(p:Nat×Nat):Bool:=gF p.1 W.insts&&bA (r8 K (.ref (W.cls p.1)) "__init__") (W.fnA p.2)&&gV K (W.fnA p.2)
noncomputable def lX (K:Frag)(W:Wt)(p:(Nat×Nat)×Nat):Bool:=gF p.1.1 W.insts&&bA (r8 K (.ref (W.cls p.1.1)) (kf W.nm p.1.2)) (W.fnA p.2)&&gV K (W.fnA p.2)
noncomputable def z57 (K:Frag)(W:Wt)(p:Nat×Nat):Bool:=gF p.1 W.insts&&cX (r8 K (.ref (W.cls p.1)) (kf W.nm p.2))
noncomputable def lm (K:Frag)(t:Addr):Bool:=so (K.lookup t) λo=>dSq o.data λxs=>l1 xs.toList λ_=>rg
noncomputable def dfl2 (K:Frag)(v:Value):Bool:=vNo v||vRf v λt=>lm K t
noncomputable def zay (K:Frag)(p:Arguments)(v:Value)(p1 p2:Str):Bool:=eW p.posonlyargs&&nF p.vararg&&eW p.kwonlyargs&&nF p.kwarg&&jY (p.args.map (·.arg)) [p1,p2]&&dfl2 K v
noncomputable def lW (K:Frag)(a:Addr)(p1 p2 g:Str)(okB:List Stmt->Bool):Bool:=so (K.lookup a) λo=>vTy o.cls (λt=>t == "function")&&dFn o.data λfd=>!fd.scope.isCoroutine && !fd.scope.isGenerator&&codeIn K fd.code fd.qualname&&eW fd.closure&&qX fd.globals qw&&qX fd.builtins qD &&
   lI fd.scope.kind&&eW (dT fd.scope.names)&&isL fd.scope p1&&isL fd.scope p2&&isG fd.scope g && !(sEq p2 p1)&&zay K fd.params fd.defaults p1 p2&&bSs fd.body okB
noncomputable def isN (s:Str)(pe:Expr):Bool:=eZ pe λn=>sEq n s
noncomputable def zcL (s:Stmt)(a:Str)(f:Expr->Bool):Bool:=nX s λpe=>lO pe λg as ks pc=>l0 ks&&k9 g λo b pg=>isN a o&&sEq b "__init__" && (pg.endLine==pc.line)&&l2 as λc d=>isN "self" c&&f d
noncomputable def zcK (s:Stmt)(f:Str):Bool:=mC s λts pe=>isN f pe&&l1 ts λpt=>k9 pt λo n _=>isN "self" o&&sEq n f
noncomputable def kX (l:List Stmt):Bool:=l2 l λs t=>zcL s "ValueError" (isN "reason")&&zcK t "reason"
noncomputable def o0 (bm:List Value)(t:String):Bool:=bm.contains (.type t)
noncomputable def dg (K:Frag)(C:Addr)(ds:List Addr):Bool:=(so (K.lookup C) λo=>om C o λbm _ n=>n == "ValueError.__new__" && o0 bm "ValueError" && !(o0 bm "AttributeError") && !(o0 bm "NameError")&&o0 bm "BaseException" && ds.all λd=>!((qN C:: bm).contains (.ref d)))
 && gG (r8 K (.ref C) "__setattr__") "object.__setattr__" && j3 K C&&hasDictIn K C&&cX (r8 K (.ref C) "reason")
noncomputable def nR:Option CFound->Option (Option Value)
 | some (.val v)=>rc (rc v)
 | _=>re
noncomputable def fJ (K:Frag)(B fB:Addr):Bool:=cX (nsIn K qw "ValueError")&&gG (r8 K (.type "type") "__getattribute__") "type.__getattribute__" &&
 (match subIn K (.type "type") (.type "type") with | some b=>b | none=>rj)&&gG (nR (findCls K (.type "ValueError") (.type "type") "__init__")) "ValueError.__init__" && bA (nsIn K qw "BoardError") B&&gG (specialIn K (.ref B) "__getattribute__") "type.__getattribute__" && readsIn K B (.type "type") &&
 bA (nR (findCls K (.ref B) (.type "type") "__init__")) fB
noncomputable def nmA:List Str:=[⟨#[78,85,77,66,69,82]⟩,⟨#[110,117,109,98,101,114,115]⟩,⟨#[115,105,122,101]⟩,⟨#[102,111,117,110,100]⟩,⟨#[118,97,108,117,101]⟩,⟨#[101,120,116,101,110,100]⟩,⟨#[97,116]⟩,⟨#[111,99,116,101,116,115]⟩,⟨#[112,108,97,99,101]⟩,⟨#[111,99,116,101,116]⟩,⟨#[97,112,112,101,110,100]⟩,⟨#[114,111,119,115]⟩,⟨#[109,111,115,116]⟩,⟨#[100,101,101,100]⟩,⟨#[114,111,111,109]⟩,⟨#[97,114,103,117,109,101,110,116]⟩,⟨#[110,117,109,98,101,114]⟩,⟨#[119,111,114,108,100]⟩,⟨#[114,111,119]⟩,⟨#[104,105,116,115]⟩,⟨#[103,111,110,101]⟩,⟨#[111,110,101]⟩,⟨#[104,101,108,100]⟩,⟨#[103,114,111,117,112]⟩,⟨#[114,101,109,111,118,101]⟩,⟨#[112,111,112]⟩,⟨#[100,105,115,107]⟩,⟨#[114,101,97,100,115]⟩,⟨#[103,101,116]⟩,⟨#[119,114,105,116,101,115]⟩,⟨#[106,111,105,110]⟩,⟨#[102,108,117,115,104,101,115]⟩,⟨#[119,97,121]⟩,⟨#[114,101,115,116]⟩,⟨#[107,101,112,116]⟩,⟨#[99,97,99,104,101]⟩,⟨#[116,111,108,100]⟩,⟨#[114,101,108,101,97,115,101]⟩,⟨#[112,101,101,107]⟩,⟨#[102,111,114,103,101,116]⟩,⟨#[102,105,108,108]⟩,⟨#[100,117,101]⟩,⟨#[106,111,117,114,110,97,108]⟩,⟨#[119,114,105,116,101]⟩,⟨#[99,97,108,108,115]⟩,⟨#[98,101,103,105,110]⟩,⟨#[114,101,99,111,118,101,114]⟩,⟨#[101,110,100]⟩,⟨#[110]⟩,⟨#[99,111,117,110,116,115]⟩,⟨#[108,101,102,116]⟩,⟨#[98,117,115,121]⟩,⟨#[107,110,111,119,110]⟩,⟨#[102,114,101,101,95,99,111,117,110,116]⟩,⟨#[109,97,114,107,115]⟩,⟨#[115,99,114,105,112,116]⟩,⟨#[116,117,114,110]⟩,⟨#[114,101,97,100]⟩,⟨#[117,110,102,108,117,115,104,101,100]⟩,⟨#[115,116,97,114,116]⟩,⟨#[98,108,111,99,107,115]⟩,⟨#[115,101,108,102]⟩,⟨#[112,108,97,99,101,115]⟩,⟨#[83,80,65,82,69]⟩,⟨#[101,97,99,104]⟩,⟨#[77,79,83,84,95,69,65,67,72]⟩,⟨#[110,111,116,101,100]⟩,⟨#[99,111,109,109,105,116,115]⟩,⟨#[104,97,115,95,114,111,111,109]⟩,⟨#[116,104,101,32,108,111,103]⟩,⟨#[97,32,119,114,105,116,101,32,111,117,116,115,105,100,101,32,111,102,32,97,32,99,97,108,108]⟩,⟨#[105,115,95,111,119,110]⟩,⟨#[98,117,102,102,101,114]⟩,⟨#[97,32,119,114,105,116,101,32,105,110,116,111,32,116,104,101,32,108,111,103,32,105,116,115,101,108,102]⟩,⟨#[110,101,101,100,95,104,101,108,100]⟩,⟨#[116,111,111,32,109,97,110,121,32,98,108,111,99,107,115,32,102,111,114,32,116,104,101,32,108,111,103]⟩,⟨#[112,105,110]⟩,⟨#[110,111,32,99,97,108,108,32,105,115,32,111,112,101,110]⟩,⟨#[99,111,109,109,105,116]⟩,⟨#[102,105,108,108,95,108,111,103]⟩,⟨#[119,114,105,116,101,95,104,101,97,100]⟩,⟨#[105,110,115,116,97,108,108]⟩,⟨#[117,110,112,105,110]⟩,⟨#[112,111,107,101]⟩,⟨#[102,108,117,115,104]⟩,⟨#[102,114,111,109,95,108,111,103]⟩,⟨#[97,32,114,101,99,111,118,101,114,121,32,97,109,111,110,103,32,111,112,101,110,32,99,97,108,108,115]⟩,⟨#[112,101,110,100,105,110,103]⟩,⟨#[100,97,116,97]⟩,⟨#[104,111,108,100,101,114,115]⟩,⟨#[112,105,110,115]⟩,⟨#[98,121,95,110,117,109,98,101,114]⟩,⟨#[110,101,101,100,95,98,108,111,99,107]⟩,⟨#[109,97,107,101,95,114,111,111,109]⟩,⟨#[105,115,95,102,114,101,101]⟩,⟨#[108,97,116,101,115,116]⟩,⟨#[108,97,115,116]⟩,⟨#[108,97,115,116,95,102,108,117,115,104]⟩,⟨#[105,115,95,100,101,97,100]⟩,⟨#[110,101,101,100,95,112,111,119,101,114]⟩]
noncomputable def mK:Nat->Addr
 | 1=>52
 | 3=>76
 | 5=>218
 | 6=>316
 | 7=>431
 | _=>529
noncomputable def fnAL:List (Nat×Addr):=[(0,102),(1,109),(2,116),(3,540),(4,545),(5,552),(6,559),(7,566),(8,571),(9,578),(10,583),(11,590),(12,597),(13,604),(14,609),(15,614),(16,131),(17,138),(18,145),(19,152),(20,159),(21,166),(22,173),(23,180),(24,187),(25,194),(26,201),(27,208),(28,215),(29,236),(30,243),(31,250),(32,278),(33,334),(34,341),(35,348),(36,355),(37,362),(38,369),(39,376),(40,383),(41,390),(42,397),(43,404),(44,411),(45,416),(46,421),(47,428),(48,449),(49,456),(50,463),(51,470),(52,477),(53,491)]
noncomputable def nv (f:Nat):Addr:=(fnAL.lookup f).getD 0
noncomputable def WA:Wt where
 nm:=nmA
 cls:=mK
 fnA:=nv
 insts:=[5,6,7,8]
 fnL:=[(0,⟨#[112,97,99,107,101,100,95,104,101,97,100]⟩),(1,⟨#[110,117,109,98,101,114,115,95,111,102]⟩),(2,⟨#[114,101,97,100,95,104,101,97,100]⟩),(3,⟨#[95,108,97,119,95,109,101,116]⟩),(4,⟨#[95,108,97,119,95,103,111,116]⟩),(5,⟨#[95,108,97,119,95,108,101,116,95,103,111]⟩),(6,⟨#[95,108,97,119,95,108,111,111,107,101,100]⟩),(7,⟨#[95,108,97,119,95,112,117,116]⟩),(8,⟨#[95,108,97,119,95,104,101,97,100,101,100]⟩),(9,⟨#[95,108,97,119,95,99,111,109,109,105,116,116,101,100]⟩),(10,⟨#[95,108,97,119,95,98,117,102,102,101,114,115]⟩),(11,⟨#[95,108,97,119,95,119,114,105,116,116,101,110]⟩),(12,⟨#[95,108,97,119,95,99,97,108,108,101,100]⟩),(13,⟨#[95,108,97,119,95,100,101,101,100,95,114,105,103,104,116]⟩),(14,⟨#[95,108,97,119,95,115,97,109,101]⟩),(15,⟨#[108,97,119]⟩)]
 clsL:=[(5,⟨#[74,111,117,114,110,97,108]⟩),(6,⟨#[66,117,102,102,101,114]⟩),(7,⟨#[67,97,99,104,101]⟩),(8,⟨#[68,105,115,107]⟩)]
 exc:=[(1,⟨#[66,97,100,65,114,103,117,109,101,110,116]⟩),(3,⟨#[78,111,82,111,111,109]⟩)]
 initL:=z6Q
 mthL:=za7
 gintL:=z6P
 fldL:=za4
noncomputable def TA0:Tb where
 nm:=kf nmA
 fnNm:=λf=>WA.fnL.lookup f
 clsNm:=λf=>WA.clsL.lookup f
 can:=mT
 exc:=λf=>WA.exc.lookup f
 lam:=λ_ _ _=>rj
 tab:=λk=>match qX k 0 with | true=>0 | false=>1
noncomputable def jI:List (Str×qV)->Bool
 | []=>rg
 | (_,k):: r=>(match k with | .cell=>rj | _=>rg)&&jI r
noncomputable def n5 (k:Nat)(sc:Scope)(pe:Expr):Bool:=so (ky k) λe=>!sc.isCoroutine && !sc.isGenerator&&lI sc.kind&&jI sc.names&&aO TA0 rj sc e pe
noncomputable def TA:Tb:={ TA0 with lam:=n5 }
noncomputable def dFl (v:Data)(f:Array Value->Bool):Bool:=onI v.ctorIdx 9 λq=>Data.fields.elim (motive:=λ_=>Bool) v q f
noncomputable def nO (K:Frag)(P:Addr):Bool:=so (K.lookup P) λo=>(match o.cls with | .none=>rg | _=>rj)&&no o.dict&&l0 o.slots.toList&&dFl o.data λvs=>l0 vs.toList
noncomputable def isStr (v:Value):Bool:=match v with | .str _ _=>rg | _=>rj
noncomputable def mf (v:Value):Bool:=match v with | .int _ _=>rg | _=>rj
noncomputable def zam (v:Value):Bool:=match v with | .bool _=>rg | _=>rj
noncomputable def gT (K:Frag)(c P:Addr):Bool:=so (K.lookup c) λo=>vTy o.cls (λt=>t == "code")&&dFl o.data λvs=>vRf (vs.getD 11 .none) (λb=>qX b P)&&isStr (vs.getD 18 .none)&&mf (vs.getD 7 .none)&&zam (vs.getD 9 .none)&&mf (vs.getD 10 .none) && !(qX c P)
noncomputable def cut (K:Frag):Frag:=K.filter λp=>!(qX p.1 585||qX p.1 592)
noncomputable def ol (K0 K:Frag):Bool:=
 WA.fnL.all (λp=>gV K (WA.fnA p.1))&&WA.fnL.all (λp=>bA (nsIn K qw p.2) (WA.fnA p.1))&&WA.clsL.all (λp=>bA (nsIn K qw p.2) (WA.cls p.1)&&(WA.initL.lookup p.1).isSome) &&
 WA.gintL.all (λp=>mh (nsIn K qw (kf WA.nm p.1)) p.2)&&kD.all (λp=>cX (nsIn K qw p.1))&&WA.insts.all (λk=>iO K (WA.cls k))&&WA.insts.all (λk=>lV K (WA.cls k)) &&
 WA.initL.all (kI K WA)&&WA.mthL.all (lX K WA)&&WA.fldL.all (z57 K WA)&&zbK.all (λp=>nh K TA (nv p.1) p.2) &&
 (dg K 52 [76]&&dg K 76 [52]&&fJ K 39 36&&lW K 36 "self" "reason" "ValueError" kX&&bA (r8 K (.ref 52) "__init__") 36&&bA (r8 K (.ref 76) "__init__") 36 &&
 bA (nsIn K qw ⟨#[66,97,100,65,114,103,117,109,101,110,116]⟩) 52&&bA (nsIn K qw ⟨#[78,111,82,111,111,109]⟩) 76)&&(gT K0 589 585&&gT K0 596 592&&nO K0 585&&nO K0 592)
noncomputable def nP (p:qW)(w:World)(n₀:Nat)(ann:Option Value):Nat->SharedT->Thread->Option SharedT
 | 0,_,_=>re
 | n+1,s,t=>match through t with
  | true=>rc s
  | false=>match stepOk n₀ ann t with
   | false=>re
   | true=>match stepT (denote treeTable) p w s t with
    | some (s',t')=>nP p w n₀ ann n s' t'
    | none=>re
noncomputable def kW:List Obj->Nat->BT->BT
 | [],_,t=>t
 | o:: r,n,t=>kW r (n+1) (t.ins n o)
noncomputable abbrev pr:qW:=PySem.Challenge.rw_pf0217_01.prog
noncomputable def km (w:World):List Obj:=(qQ w.params).objs.toList
noncomputable def iy (w:World)(os:OsState):SharedT:=⟨kW (km w) 0 BT.nil,(km w).length,(qQ w.params).life,#[],boot_drawn,boot_toks,os⟩
noncomputable def mG (w:World):Option Value:=(qQ w.params).nsMap qw "__annotations__"
noncomputable def keep:List Nat:=[0,2,3,4,5,6,8,9,10,11,12,13,14,16,17,19,21,22,23,24,25,26,27,28,29,30,31,32,33]
noncomputable abbrev qv:qW:=PySem.W.view pr keep
noncomputable abbrev loose:List Str:=[Str.ofString "BoardError"]
noncomputable abbrev mods:=importedModules pr.main.body
noncomputable abbrev nL:RowW:=PySem.Challenge.rw_pf0217_01.row.toRowW
noncomputable def nx (s:SharedT):Frag:=(List.range 700).filterMap λa=>bif Nat.blt a s.n then(s.tree.get a).bind λo=>(alive o).map λo=>(a,o) else re
noncomputable def XtB (s:Shared):Bool:=xlAt qv [] s&&recOk (RowW.records nL) s
noncomputable def mQ {Y β:Type}:List Y->(List Y->β)->β
 | [],k=>k []
 | x:: xs,k=>mQ xs λys=>k (x:: ys)
theorem obs1:∀ (w:World)(os:OsState),(nP pr w (iy w os).n (mG w) 9000 (iy w os) (topStub pr)).map (λs=>(staticsOk mods (qQ w.params) s.abs.heap&&namesBound pr s.abs.heap&&gensDone s.abs&&laidKept (qQ w.params) s.abs.heap,openSeen qv loose mods XtB rg s.abs))=rc (rg,openGood qv loose):=by
 intro w os
 kernel_rfl
theorem obs2:∀ (w:World)(os:OsState),(nP pr w (iy w os).n (mG w) 9000 (iy w os) (topStub pr)).map (λs=>mQ (nx s) λK=>mQ (cut K) λK'=>ol K K')=rc true:=by
 intro w os
 kernel_rfl
end Mine.Internal
end
section
open PySem PySem.W PyProof.Rows PySem.Calls
namespace Mine.Internal
section
class inductive All2 {Y β:Type}(P:Y->β->Prop):List Y->List β->Prop
 | nil:All2 P [] []
 | cons {a b as bs}:P a b->All2 P as bs->All2 P (a:: as) (b:: bs)
namespace All2
variable {Y β:Type}{P Q:Y->β->Prop}
theorem imp (h:∀ a b,P a b->Q a b):∀ {as bs},All2 P as bs->All2 Q as bs:=by
 intro as bs r
 induction r with
 | nil=>exact .nil
 | cons x _ ih=>exact .cons (h _ _ x) ih
theorem length:∀ {as bs},All2 P as bs->as.length=bs.length:=by
 intro as bs r
 induction r with
 | nil=>rfl
 | cons _ _ ih=>exact congrArg (· + 1) ih
theorem append:∀ {as bs as' bs'},All2 P as bs->All2 P as' bs'->All2 P (as++as') (bs++bs'):=by
 intro as bs as' bs' r y
 induction r with
 | nil=>exact y
 | cons x _ ih=>exact .cons x ih
theorem get:∀ {as bs},All2 P as bs->∀ {i:Nat} {a},as[i]? = rc a->∃ b,bs[i]? = rc b/\P a b:=by
 intro as bs r
 induction r with
 | nil=>intro i a e;cases e
 | cons x r ih=>intro i a e;induction i with
  | zero=>cases e;exact⟨_,rfl,x⟩
  | succ i=>exact ih e
theorem set:∀ {as bs},All2 P as bs->∀ {i:Nat} {a b},P a b->All2 P (as.set i a) (bs.set i b):=by
 intro as bs r
 induction r with
 | nil=>intro i a b _;exact .nil
 | cons x r ih=>intro i a b p;induction i with
  | zero=>exact .cons p r
  | succ i=>exact .cons x (ih p)
theorem take:∀ {as bs},All2 P as bs->∀ n,All2 P (as.take n) (bs.take n):=by
 intro as bs r
 induction r with
 | nil=>intro n;cases n <;> exact .nil
 | cons x r ih=>intro n;induction n with
  | zero=>exact .nil
  | succ n=>exact .cons x (ih n)
theorem drop:∀ {as bs},All2 P as bs->∀ n,All2 P (as.drop n) (bs.drop n):=by
 intro as bs r
 induction r with
 | nil=>intro n;cases n <;> exact .nil
 | cons x r ih=>intro n;induction n with
  | zero=>exact .cons x r
  | succ n=>exact ih n
theorem eraseIdx:∀ {as bs},All2 P as bs->∀ n,All2 P (as.eraseIdx n) (bs.eraseIdx n):=by
 intro as bs r
 induction r with
 | nil=>intro n;exact .nil
 | cons x r ih=>intro n;induction n with
  | zero=>exact r
  | succ n=>exact .cons x (ih n)
theorem replicate {a:Y}{b:β}(h:P a b):∀ n,All2 P (qi n a) (qi n b)
 | 0=>.nil
 | n+1=>.cons h (replicate h n)
end All2
structure Cfg where
 prog:qW
 w:World
 K:Frag
 base:Heap
 nm:Nat->Str
 cls:Nat->Addr
 fnA:Nat->Addr
 P:Prog
 fnNm:Nat->Option Str
 clsNm:Nat->Option Str
 mg:Str->Option Value
 mb:Str->Option Value
 tq:Nat->Str
 tabA:Nat->Addr
 lamOk:Nat->Scope->Expr->Prop
noncomputable abbrev fY (v w:Value):Obj:={ cls:=.type "tuple",data:=.seq #[v,w] }
noncomputable abbrev bI (its:List Value)(n:Nat):Obj:={ cls:=.type "list",data:=.seq its.toArray n }
noncomputable abbrev baO (b:List UInt8):Obj:={ cls:=.type "bytearray",data:=.bytearray b.toArray }
noncomputable abbrev kn (v:Option Value):Obj:={ cls:=.type "cell",data:=.cell v }
noncomputable def aG (o:Obj):Prop:=(∃ its n,o.data = .seq its n/\o.cls = .type "tuple")∨(∃ fd,o.data = .func fd)∨∃ vs,o.data = .fields vs/\o.cls = .type "code"
noncomputable def eE (h:Heap)(cd:Value)(q:Str):Prop:=∃ a o vs t,cd = .ref a/\h.get? a=rc o/\o.cls = .type "code"/\o.data = .fields vs/\vs[1]? = rc (.str q t)
theorem eE.mono {h h':Heap}{cd:Value}{q:Str}(hf:∀ b o,h.get? b=rc o->aG o->h'.get? b=rc o)(r:eE h cd q):eE h' cd q:=by
 refine aw λ_ Z9=>?_
 refine el45 r λx o vs tk e1 e2 e3 e4 e5=>?_
 refine Z9 ?_;exact zci x o vs tk e1 (hf _ _ e2 (.inr (.inr ⟨_,e4,e3⟩))) e3 e4 e5
structure CloAt (c:Cfg)(k:Nat)(fd:qR):Prop where
 body:∃ pe,fd.body = .expr pe/\c.lamOk k fd.scope pe
 glob:fd.globals=qw
 blt:fd.builtins=qD
 bind:bindArgs fd ⟨[],[]⟩=pure []
 fre:∀ n,(n,qk)∈fd.scope.names->∃ y,fd.closure.lookup n=rc y
class inductive VR (c:Cfg)(U:List Addr)(h:Heap):V->Value->Prop
 | none:VR c U h .none .none
 | bool (b:Bool):VR c U h (.bool b) (.bool b)
 | int (i:Int)(t:Tok):VR c U h (.int i) (.int i t)
 | str (k:Nat)(t:Tok):VR c U h (.str k) (.str (c.nm k) t)
 | bytes (b:List UInt8)(t:Tok):VR c U h (.bytes b) (.bytes b.toArray t)
 | ref {a:Nat}{x:Addr}:U[a]? = rc x->VR c U h (.ref a) (.ref x)
 | t2 {x:Addr}{a b:V}{v w:Value}:h.get? x=rc (fY v w)->VR c U h a v->VR c U h b w->VR c U h (.t2 a b) (.ref x)
 | clo {x:Addr}{o:Obj}{fd:qR}{k:Nat}{cs:Nat->Option Nat}:h.get? x=rc o->o.data = .func fd->eE h fd.code fd.qualname->CloAt c k fd->
   (∀ i a,cs i=rc a->(c.nm i,qk)∈fd.scope.names->∃ y,fd.closure.lookup (c.nm i)=rc y/\U[a]? = rc y)->VR c U h (.clo k cs) (.ref x)
noncomputable abbrev VRs (c:Cfg)(U:List Addr)(h:Heap):=All2 (VR c U h)
noncomputable def cy {prog:qW}{w:World}{K:Type} [DecidableEq K](knd:KeyKind prog w K)(ob:Obj)(kvs:List (K×Value)):Prop:=
 ob.ExactDict/\∃ es ep,ob.data = .dict es ep/\PySem.KeysOf knd es/\PySem.Pairs knd es.toList kvs/\(kvs.map (·.1)).Nodup
noncomputable abbrev iK (c:Cfg):=PySem.intKind c.prog c.w
noncomputable abbrev sK (c:Cfg):=PySem.strKind c.prog c.w
noncomputable def KV (c:Cfg)(U:List Addr)(h:Heap){κ K:Type}(f:κ->K)(p:κ×V)(q:K×Value):Prop:=f p.1=q.1/\VR c U h p.2 q.2
noncomputable def iJ (ob:Obj)(m:Str->Option Value)(k:Nat):Prop:=∃ es ep,ob.data = .dict es ep/\StrKeys es/\(∀ name,nsFind es name=m name)/\es.size=k
inductive OR (c:Cfg)(U:List Addr)(h:Heap)(a:Nat):O->Obj->Prop
 | lst {xs its n}:VRs c U h xs its->OR c U h a (.lst xs) (bI its n)
 | clst {xs its n d sl}:VRs c U h xs its->OR c U h a (.clst xs) ⟨.type "list",d,.seq its.toArray n,sl⟩
 | dct {es ob kvs}:cy (iK c) ob kvs->All2 (KV c U h (id:Int->Int)) es kvs->OR c U h a (.dct es) ob
 | inst {k d dx}:U[d]? = rc dx->OR c U h a (.inst k d) { cls:=.ref (c.cls k),dict:=rc dx,data:=.plain }
 | cdct {es ob kvs x}:U[a]? = rc x->c.base.get? x=rc ob->(x==PySem.sysModules)=rj->cy (iK c) ob kvs->All2 (KV c U h (id:Int->Int)) es kvs->OR c U h a (.cdct es) ob
 | tab {ps}:U[a]? = rc (c.tabA a)->PySem.TriplesOk ps.toList->(∀ pos cv,PySem.codeAmong pos ps.toList=rc cv->eE h cv (c.tq a))->OR c U h a .tab { cls:=.none,data:=.fields ps }
 | sd {fs ob kvs}:cy (sK c) ob kvs->All2 (KV c U h c.nm) fs kvs->OR c U h a (.sd fs) ob
 | ns {fs ob m}:iJ ob m fs.length->(∀ x v,af x fs=rc v->∃ v',m (c.nm x)=rc v'/\VR c U h v v')->(∀ x,af x fs=re->m (c.nm x)=re)->OR c U h a (.ns fs) ob
 | ba {b}:OR c U h a (.ba b) (baO b)
 | cell0:OR c U h a (.cell re) (kn re)
 | cell {v w}:VR c U h v w->OR c U h a (.cell (rc v)) (kn (rc w))
noncomputable def OR.Inv (c:Cfg)(U:List Addr)(h:Heap)(a:Nat)(o:O):Obj->Prop:=
 O.rec (motive:=λ_=>Obj->Prop) (λxs ob=>∃ its n,ob=bI its n/\VRs c U h xs its) (λxs ob=>∃ its n d sl,ob=⟨.type "list",d,.seq its.toArray n,sl⟩/\VRs c U h xs its)
  (λes ob=>∃ kvs,cy (iK c) ob kvs/\All2 (KV c U h (id:Int->Int)) es kvs) (λes ob=>∃ x kvs,U[a]? = rc x/\c.base.get? x=rc ob/\(x==PySem.sysModules)=rj/\cy (iK c) ob kvs/\All2 (KV c U h (id:Int->Int)) es kvs)
  (λfs ob=>∃ kvs,cy (sK c) ob kvs/\All2 (KV c U h c.nm) fs kvs) (λob=>∃ ps,ob={ cls:=.none,data:=.fields ps }/\U[a]? = rc (c.tabA a)/\PySem.TriplesOk ps.toList/\(∀ pos cv,PySem.codeAmong pos ps.toList=rc cv->eE h cv (c.tq a)))
  (λk d ob=>∃ dx,U[d]? = rc dx/\ob={ cls:=.ref (c.cls k),dict:=rc dx,data:=.plain }) (λfs ob=>∃ m,iJ ob m fs.length/\(∀ x v,af x fs=rc v->∃ v',m (c.nm x)=rc v'/\VR c U h v v')/\(∀ x,af x fs=re->m (c.nm x)=re))
  (λb ob=>ob=baO b) (λv ob=>∃ w,ob=kn w/\∀ v',v=rc v'->∃ w',w=rc w'/\VR c U h v' w') o
theorem OR.inv {c:Cfg}{U:List Addr}{h:Heap}{a:Nat}{o:O}{ob:Obj}(r:OR c U h a o ob):OR.Inv c U h a o ob:=by
 induction r with
 | lst r=>exact⟨_,_,rfl,r⟩
 | clst r=>exact⟨_,_,_,_,rfl,r⟩
 | dct d k=>exact⟨_,d,k⟩
 | inst e=>exact⟨_,e,rfl⟩
 | cdct e b m d k=>exact⟨_,_,e,b,m,d,k⟩
 | tab e t k=>exact⟨_,rfl,e,t,k⟩
 | sd d k=>exact⟨_,d,k⟩
 | ns n f g=>exact⟨_,n,f,g⟩
 | ba=>exact rfl
 | cell0=>exact⟨re,rfl,λ_ q=>nomatch q⟩
 | cell r=>exact⟨_,rfl,λ_ q=>⟨_,rfl,qb q▸r⟩⟩
noncomputable def o7:O->Bool | .clst _=>rj | .cdct _=>rj | _=>rg
noncomputable def frs (fs:List Env):List Addr:=fs.filterMap (·.frame)
inductive FrAt (base h:Heap)(U:List Addr)(env:Env):Prop
 | mk (a:env.scope.kind≠.module)(L:Addr)(o:Obj)(es:Array DictEntry)(n:Nat)(e1:env.frame=rc L)(e2:base.get? L=re)(e3:L∉U)(e4:h.get? L=rc o)(e5:o.data = .dict es n)
inductive FrMem (base h:Heap)(U:List Addr)(b:Addr):Prop
 | mk (e1:base.get? b=re)(e2:b∉U)(o:Obj)(es:Array DictEntry)(n:Nat)(e4:h.get? b=rc o)(e5:o.data = .dict es n)
theorem FrMem.base {base h:Heap}{U:List Addr}{b:Addr}(x:FrMem base h U b):base.get? b=none:=x.rec λe _ _ _ _ _ _=>e
theorem FrMem.out {base h:Heap}{U:List Addr}{b:Addr}(x:FrMem base h U b):b∉U:=x.rec λ_ e _ _ _ _ _=>e
inductive ObjAt (c:Cfg)(U:List Addr)(h:Heap)(a:Nat)(o:O):Prop
 | mk (x:Addr)(ob:Obj)(e1:U[a]? = rc x)(e2:h.get? x=rc ob)(r:OR c U h a o ob)(n:o7 o=rg->c.base.get? x=re)
theorem ObjAt.go {c:Cfg}{U:List Addr}{h:Heap}{a:Nat}{o:O}(z:ObjAt c U h a o){G:Prop}(k:∀ x ob,U[a]? = rc x->h.get? x=rc ob->OR c U h a o ob->(o7 o=rg->c.base.get? x=re)->G):G:=z.rec k
structure FramesOk (base:Heap)(h:Heap)(U:List Addr)(fs:List Env):Prop where
 each:∀ env∈fs,FrAt base h U env
structure St (c:Cfg)(fs:List Env)(U:List Addr)(J:MH)(h:Heap):Prop where
 len:J.n=U.length
 nodup:U.Nodup
 tot:∀ a,a<J.n->(J.get a).isSome
 obj:∀ a o,J.get a=rc o->ObjAt c U h a o
 base:c.base.StaysIn h
 fr:FramesOk c.base h U fs
structure Evo (fs:List Env)(X:List Addr)(U:List Addr)(h:Heap)(U':List Addr)(h':Heap):Prop where
 pre:∃ more,U'=U++more
 fresh:∀ x∈U',x∈U∨h.get? x=re
 dom:∀ b o,h.get? b=rc o->∃ o',h'.get? b=rc o'
 keep:∀ b o,h.get? b=rc o->b∉U->b∉X->b∉frs fs->h'.get? b=rc o
 slot:∀ b o,h.get? b=rc o->b∉U->b∉X->∃ sl,h'.get? b=rc { o with slots:=sl }
 frz:∀ b o,h.get? b=rc o->aG o->h'.get? b=rc o
theorem Evo.refl {fs X U h}:Evo fs X U h U h:=⟨⟨[],by simp⟩,λ_ e=>.inl e,λ_ o e=>⟨o,e⟩,λ_ _ e _ _ _=>e,λ_ o e _ _=>⟨o.slots,e⟩,λ_ _ e _=>e⟩
theorem Evo.trans {fs X U h U₁ h₁ U₂ h₂}(a:Evo fs X U h U₁ h₁)(b:Evo fs X U₁ h₁ U₂ h₂):Evo fs X U h U₂ h₂:=by
 have nin:∀ {b o},h.get? b=rc o->b∉U->b∉U₁:=λ{b o} e n m=>by
  refine Or.elim (a.fresh b m) (λz=>?_) (λz=>?_)
  ·exact n z
  ·replace e:=z▸e;cases e
 refine⟨?_,λx m=>?_,λy o e=>?_,λy o e n1 n2 n3=>?_,λy o e n1 n2=>?_,λy o e f=>b.frz _ _ (a.frz _ _ e f) f⟩
 ·obtain⟨m1,e1⟩:=a.pre
  obtain⟨m2,e2⟩:=b.pre;exact⟨m1++m2,by simp only[e2,e1,pK]⟩
 ·rcases b.fresh x m with z | z
  ·exact a.fresh x z
  ·right
   cases q:h.get? x with
   | none=>rfl
   | some o=>
    obtain⟨o',e'⟩:=a.dom _ _ q;replace z:=e'▸z;cases z
 ·obtain⟨o',e'⟩:=a.dom _ _ e
  exact b.dom _ _ e'
 ·exact b.keep _ _ (a.keep _ _ e n1 n2 n3) (nin e n1) n2 n3
 ·refine fk (a.slot _ _ e n1 n2) λs1 e1=>?_
  have n1':=nin e n1;refine fk (b.slot _ _ e1 n1' n2) λs2 e2=>?_
  exact⟨s2,e2⟩
theorem Evo.get {fs X U h U' h'}(E:Evo fs X U h U' h'){a:Nat}{x:Addr}(e:U[a]? = rc x):U'[a]? = rc x:=by
 obtain⟨m,rfl⟩:=E.pre;rw[oO]
 ·exact e
 ·exact(List.getElem?_eq_some_iff.mp e).1
theorem VR.mono {c:Cfg}{U U':List Addr}{h h':Heap}(hp:∀ (a:Nat)(x:Addr),U[a]? = rc x->U'[a]? = rc x)(hf:∀ b o,h.get? b=rc o->aG o->h'.get? b=rc o):
  ∀ {v x},VR c U h v x->VR c U' h' v x:=by
 intro v x r
 induction r with
 | none=>exact .none
 | bool b=>exact .bool b
 | int i t=>exact .int i t
 | str k t=>exact .str k t
 | bytes b t=>exact .bytes b t
 | ref e=>exact .ref (hp _ _ e)
 | t2 e _ _ p q=>exact .t2 (hf _ _ e (.inl ⟨_,_,rfl,rfl⟩)) p q
 | clo e d q k cl=>exact .clo (hf _ _ e (.inr (.inl ⟨_,d⟩))) d (q.mono hf) k λi a z m=>(by obtain⟨y,e1,e2⟩:=cl i a z m;exact⟨y,e1,hp _ _ e2⟩)
theorem VR.evo {c:Cfg} {fs X U h U' h'}(E:Evo fs X U h U' h') {v x}(r:VR c U h v x):VR c U' h' v x:=r.mono (λ_ _=>E.get) E.frz
theorem VRs.evo {c:Cfg} {fs X U h U' h'}(E:Evo fs X U h U' h') {v x}(r:VRs c U h v x):VRs c U' h' v x:=r.imp λ_ _ z=>z.evo E
theorem OR.mono {c:Cfg}{U U':List Addr}{h h':Heap}(hp:∀ (a:Nat)(x:Addr),U[a]? = rc x->U'[a]? = rc x)(hf:∀ b o,h.get? b=rc o->aG o->h'.get? b=rc o){a:Nat}{o:O}{ob:Obj}:
  OR c U h a o ob->OR c U' h' a o ob:=by
 intro r
 induction r with
 | lst r=>exact .lst (r.imp λ_ _ z=>z.mono hp hf)
 | clst r=>exact .clst (r.imp λ_ _ z=>z.mono hp hf)
 | dct d r=>exact .dct d (r.imp λ_ _ z=>⟨z.1,z.2.mono hp hf⟩)
 | inst e=>exact .inst (hp _ _ e)
 | cdct e b m d r=>exact .cdct (hp _ _ e) b m d (r.imp λ_ _ z=>⟨z.1,z.2.mono hp hf⟩)
 | tab e t r=>exact .tab (hp _ _ e) t λpos cv e=>(r pos cv e).mono hf
 | sd d r=>exact .sd d (r.imp λ_ _ z=>⟨z.1,z.2.mono hp hf⟩)
 | ns d r q=>exact .ns d (λx v e=>(by obtain⟨v',e1,e2⟩:=r x v e;exact bf v' e1 (e2.mono hp hf))) q
 | ba=>exact .ba
 | cell0=>exact .cell0
 | cell r=>exact .cell (r.mono hp hf)
theorem zau:Value.type "list"≠.type "tuple":=by decide
theorem zcy:qI≠.type "code":=by decide
theorem lN {o:Obj}{i:Nat}(e:o.data.ctorIdx=i)(h2:qX i 7=rj)(h1:qX i 2=rj∨o.cls≠.type "tuple")(h3:qX i 9=rj∨o.cls≠.type "code"):¬ aG o:=λf=>by
 subst e
 rcases f with ⟨its,n,e,c⟩ | ⟨fd,e⟩ | ⟨vs,e,c⟩
 ·rw[e] at h1;exact h1.elim (λz=>pY z) λz=>z c
 ·rw[e] at h2;exact pY h2
 ·rw[e] at h3;exact h3.elim (λz=>pY z) λz=>z c
theorem cB {o:Obj}{es:Array DictEntry}{n:Nat}(e:o.data = .dict es n):¬ aG o:=lN (i:=3) (e▸rfl) rfl (.inl rfl) (.inl rfl)
theorem fQ {its:List Value}{n:Nat}:¬ aG (bI its n):=lN (i:=2) rfl rfl (.inr zau) (.inl rfl)
theorem OR.unfrozen {c:Cfg} {U h a o ob}(r:OR c U h a o ob):¬ aG ob:=by
 induction r with
 | dct d _=>exact cB d.2.choose_spec.choose_spec.1
 | cdct _ _ _ d _=>exact cB d.2.choose_spec.choose_spec.1
 | sd d _=>exact cB d.2.choose_spec.choose_spec.1
 | ns d _ _=>exact cB d.choose_spec.choose_spec.1
 | tab=>exact lN (i:=9) rfl rfl (.inl rfl) (.inr zcy)
 | lst=>exact fQ
 | clst=>exact lN (i:=2) rfl rfl (.inr zau) (.inl rfl)
 | inst=>exact lN (i:=0) rfl rfl (.inl rfl) (.inl rfl)
 | ba=>exact lN (i:=5) rfl rfl (.inl rfl) (.inl rfl)
 | _=>exact lN (i:=6) rfl rfl (.inl rfl) (.inl rfl)
theorem St.other {c:Cfg}{fs:List Env}{U:List Addr}{J:MH}{h h':Heap}(S:St c fs U J h)(k:∀ b o,h.get? b=rc o->b∈U∨aG o∨(c.base.get? b).isSome->h'.get? b=rc o)
  (hfr:FramesOk c.base h' U fs):St c fs U J h':=by
 refine⟨S.len,S.nodup,S.tot,λa o e=>?_,λb o e=>k b o (S.base b o e) (.inr (.inr (by rw[e];rfl))),hfr⟩;obtain⟨x,ob,e1,e2,r,n⟩:=S.obj a o e;exact⟨x,ob,e1,k _ _ e2 (.inl (pv e1)),r.mono (λ_ _ z=>z) (λb o z f=>k b o z (.inr (.inl f))),n⟩
theorem FramesOk.keeps {base h h':Heap}{U:List Addr}{fs:List Env}(F:FramesOk base h U fs)(k:∀ b o,h.get? b=rc o->h'.get? b=rc o):FramesOk base h' U fs:=
 ⟨λenv m=>(by obtain⟨a,L,o,es,n,e1,e2,e3,e4,e6⟩:=F.each env m;exact⟨a,L,o,es,n,e1,e2,e3,k _ _ e4,e6⟩)⟩
theorem FramesOk.slots {base h h':Heap}{U:List Addr}{fs:List Env}(F:FramesOk base h U fs)(k:∀ b o,h.get? b=rc o->b∉U->base.get? b=re->(∃ es n,o.data = .dict es n)->∃ sl,h'.get? b=rc { o with slots:=sl }):FramesOk base h' U fs:=
 ⟨λenv m=>by
  obtain⟨a,L,o,es,n,e1,e2,e3,e4,e6⟩:=F.each env m;obtain⟨sl,e⟩:=k _ _ e4 e3 e2 ⟨_,_,e6⟩;exact⟨a,L,_,es,n,e1,e2,e3,e,e6⟩⟩
theorem FramesOk.fun {base h:Heap}{U:List Addr}:∀ {fs:List Env},FramesOk base h U fs->h.FunFrames base fs
 | []=>λ_=>trivial
 | env:: r=>by
  intro F;obtain⟨a,L,o,es,n,e1,e2,e3,e4,e6⟩:=F.each env (.head _);exact⟨a,⟨L,o,e1,e2,e4,λvs q=>by rw[e6] at q;cases q⟩,FramesOk.fun ⟨λe m=>F.each e (.tail _ m)⟩⟩
theorem FramesOk.mem {base h:Heap}{U:List Addr}{fs:List Env}(F:FramesOk base h U fs){b:Addr}(m:b∈frs fs):FrMem base h U b:=by
 refine aw λ_ Z9=>?_
 refine el12 (List.mem_filterMap.mp m) λenv me hf=>?_
 obtain⟨a,L,o,es,n,e1,e2,e3,e4,e6⟩:=F.each env me;refine Z9 ?_;replace hf:=e1▸hf;cases hf;exact⟨e2,e3,o,es,n,e4,e6⟩
theorem St.push {c:Cfg} {fs U J h}(S:St c fs U J h)(o:Obj):St c fs U J (h.push o):=
 S.other (λ_ _ e _=>oS _ e) (S.fr.keeps λ_ _ e=>oS _ e)
theorem Evo.push {fs X U h}(o:Obj):Evo fs X U h U (h.push o):=
 ⟨⟨[],by simp⟩,λ_ e=>.inl e,λ_ _ e=>⟨_,oS _ e⟩,λ_ _ e _ _ _=>oS _ e,λ_ x e _ _=>⟨x.slots,oS _ e⟩,λ_ _ e _=>oS _ e⟩
theorem St.mem_lt {c:Cfg} {fs U J h}(S:St c fs U J h){x:Addr}(m:x∈U):∃ a o ob,U[a]? = rc x/\J.get a=rc o/\h.get? x=rc ob/\OR c U h a o ob:=by
 refine fk (List.mem_iff_getElem?.mp m) λa ha=>?_
 have hlt:a<J.n:=by simp only[S.len];exact(List.getElem?_eq_some_iff.mp ha).1
 refine fk (Option.isSome_iff_exists.mp (S.tot a hlt)) λo ho=>?_
 refine(S.obj a o ho).go λx' ob e1 e2 r _=>?_
 exact in34 a o ob ha ho (qb (e1.symm.trans ha)▸e2) r
theorem St.objP {c:Cfg} {fs U J h}(S:St c fs U J h){a:Nat}{p:Addr}{o:O}(hp:U[a]? = rc p)(e:J.get a=rc o){G:Prop}(k:∀ ob,h.get? p=rc ob->OR c U h a o ob->(o7 o=rg->c.base.get? p=re)->G):G:=by
 refine(S.obj a o e).go λx ob e1 e2 r n=>?_
 have e:=qb (e1.symm.trans hp);exact k ob (e▸e2) r (e▸n)
theorem St.inj {c:Cfg} {fs U J h}(S:St c fs U J h){a b:Nat}{x:Addr}(ea:U[a]? = rc x)(eb:U[b]? = rc x):a=b:=by
 obtain⟨la,ga⟩:=List.getElem?_eq_some_iff.mp ea;obtain⟨lb,gb⟩:=List.getElem?_eq_some_iff.mp eb;exact(List.getElem_inj S.nodup).mp (ga.trans gb.symm)
theorem St.butN {c:Cfg} {fs U J h h'}(S:St c fs U J h){a:Nat}{x:Addr}{o':O}{ob ob':Obj}(hx:U[a]? = rc x)(ho:h.get? x=rc ob)(hs:∀ b o,b≠x->h.get? b=rc o->h'.get? b=rc o)(ho':h'.get? x=rc ob')
  (hr:OR c U h' a o' ob')(hown:c.base.get? x=re)(hnf:¬ aG ob):St c fs U (J.set a o') h':=by
 have frz:∀ b o,h.get? b=rc o->aG o->h'.get? b=rc o:=λb o e fz=>by
  have:b≠x:=λq=>by obtain rfl:=q.symm;replace e:=ho▸e;cases e;exact hnf fz
  exact hs _ _ this e
 refine⟨S.len,S.nodup,λb hb=>?_,λb o e=>?_,λb o e=>?_,S.fr.slots λb o e n _ _=>?_⟩
 ·rw[MH.get_set]
  split
  ·rfl
  ·exact S.tot b hb
 ·rw[MH.get_set] at e
  split at e
  ·rename_i q
   cases e
   subst q;exact .mk x ob' hx ho' hr (λ_=>hown)
  ·rename_i q
   refine(S.obj b o e).go λy oy e1 e2 r n=>?_
   have ne:y≠x:=λz=>q (S.inj e1 (z▸hx))
   exact .mk y oy e1 (hs _ _ ne e2) (r.mono (λ_ _ z=>z) frz) n
 ·have:b≠x:=λq=>by subst q;replace e:=hown▸e;cases e
  exact hs _ _ this (S.base b o e)
 ·have:b≠x:=λq=>n (q▸pv hx)
  exact⟨o.slots,hs _ _ this e⟩
theorem St.butK {c:Cfg} {fs U J h h'}(S:St c fs U J h){a:Nat}{x:Addr}{o':O}{ob ob':Obj}(hx:U[a]? = rc x)(ho:h.get? x=rc ob)(hs:∀ b o,b≠x->h.get? b=rc o->h'.get? b=rc o)(ho':h'.get? x=rc ob')
  (hr:OR c U h a o' ob')(hown:c.base.get? x=re)(hnf:¬ aG ob):St c fs U (J.set a o') h':=
 S.butN hx ho hs ho' (hr.mono (λ_ _ z=>z) λb o e fz=>hs _ _ (λq=>by subst q;rw[ho] at e;cases e;exact hnf fz) e) hown hnf
theorem Evo.butK {fs X:_}{U:List Addr}{h h':Heap}{a:Nat}{x:Addr}{ob ob':Obj}(hx:U[a]? = rc x)(ho:h.get? x=rc ob)(hs:∀ b o,b≠x->h.get? b=rc o->h'.get? b=rc o)(ho':h'.get? x=rc ob')(hnf:¬ aG ob):
  Evo fs X U h U h':=by
 have other:∀ b o,b∉U->h.get? b=rc o->h'.get? b=rc o:=λb o n=>hs _ _ λq=>n (q▸pv hx)
 refine⟨⟨[],by simp⟩,λ_ e=>.inl e,λb o e=>?_,λb o e n _ _=>other b o n e,λb o e n _=>⟨o.slots,other b o n e⟩,λb o e fz=>?_⟩
 ·by_cases q:b=x
  ·subst q;exact⟨ob',ho'⟩
  ·exact⟨o,hs _ _ q e⟩
 ·have:b≠x:=λq=>by subst q;rw[ho] at e;cases e;exact hnf fz
  exact hs _ _ this e
theorem St.but {c:Cfg} {fs U J h h'}(S:St c fs U J h){a:Nat}{x:Addr}{o':O}{ob ob':Obj}(hx:U[a]? = rc x)(ho:h.get? x=rc ob)(hs:qo x h h')(ho':h'.get? x=rc ob')
  (hr:OR c U h a o' ob')(hown:c.base.get? x=re)(hnf:¬ aG ob):St c fs U (J.set a o') h':=S.butK hx ho (λ_ _ ne e=>(hs.2 _ ne).trans e) ho' hr hown hnf
theorem Evo.but {fs X:_}{U:List Addr}{h h':Heap}{a:Nat}{x:Addr}{ob ob':Obj}(hx:U[a]? = rc x)(ho:h.get? x=rc ob)(hs:qo x h h')(ho':h'.get? x=rc ob')(hnf:¬ aG ob):
  Evo fs X U h U h':=Evo.butK hx ho (λ_ _ ne e=>(hs.2 _ ne).trans e) ho' hnf
theorem St.set {c:Cfg} {fs U J h}(S:St c fs U J h){a:Nat}{x:Addr}{o':O}{ob ob':Obj}{f:Obj->Obj}(hx:U[a]? = rc x)(ho:h.get? x=rc ob)(hf:f ob=ob')(hfree:ob'.isFreed=rj)
  (hr:OR c U h a o' ob')(hown:c.base.get? x=re)(hnf:¬ aG ob):St c fs U (J.set a o') (h.update x f):=by
 have frz:∀ b o,h.get? b=rc o->aG o->(h.update x f).get? b=rc o:=λb o e fz=>by
  have:x≠b:=λq=>by subst q;replace e:=ho▸e;cases e;exact hnf fz
  rw[oU _ _ this];exact e
 refine⟨S.len,S.nodup,λb hb=>?_,λb o e=>?_,λb o e=>?_,S.fr.slots λb o e n _ _=>?_⟩
 ·rw[MH.get_set]
  split
  ·rfl
  ·exact S.tot b hb
 ·rw[MH.get_set] at e
  split at e
  ·rename_i q
   cases e
   obtain rfl:=q.symm;exact .mk x ob' hx (hf▸oY f ho (hf.symm▸hfree)) (hr.mono (λ_ _ z=>z) frz) (λ_=>hown)
  ·rename_i q
   refine(S.obj b o e).go λy oy e1 e2 r n=>?_
   have ne:x≠y:=λz=>q (S.inj e1 (z▸hx))
   exact .mk y oy e1 ((oU _ _ ne).trans e2) (r.mono (λ_ _ z=>z) frz) n
 ·have:x≠b:=λq=>by subst q;replace e:=hown▸e;cases e
  rw[oU _ _ this];exact S.base b o e
 ·have:x≠b:=λq=>n (q▸pv hx)
  exact⟨o.slots,(oU _ _ this).trans e⟩
theorem Evo.set {fs X:_}{U:List Addr}{h:Heap}{a:Nat}{x:Addr}{ob ob':Obj}{f:Obj->Obj}(hx:U[a]? = rc x)(ho:h.get? x=rc ob)(hf:f ob=ob')(hfree:ob'.isFreed=rj)(hnf:¬ aG ob):
  Evo fs X U h U (h.update x f):=by
 have other:∀ b,b∉U->(h.update x f).get? b=h.get? b:=λb n=>oU _ _ λq=>n (q▸pv hx)
 refine⟨⟨[],by simp⟩,λ_ e=>.inl e,λb o e=>?_,λb o e n _ _=>(other b n).trans e,λb o e n _=>⟨o.slots,(other b n).trans e⟩,λb o e fz=>?_⟩
 ·by_cases q:x=b
  ·subst q;exact⟨ob',hf▸oY f ho (hf.symm▸hfree)⟩
  ·exact⟨o,(oU _ _ q).trans e⟩
 ·have:x≠b:=λq=>by subst q;rw[ho] at e;cases e;exact hnf fz
  exact(oU _ _ this).trans e
theorem St.own {c:Cfg} {fs U J h}(S:St c fs U J h){x:Addr}{o:O}{ob:Obj}(ho:h.get? x=rc ob)(hn:x∉U)(hb:c.base.get? x=re)(hfr:x∉frs fs)
  (hr:OR c (U++[x]) h J.n o ob):St c fs (U++[x]) (J.push o) h:=by
 have up:∀ (a:Nat)(y:Addr),U[a]? = rc y->(U++[x])[a]? = rc y:=λa y e=>by
  rw[oO (List.getElem?_eq_some_iff.mp e).1];exact e
 refine⟨by simp[MH.push,S.len],?_,λa ha=>?_,λa o' e=>?_,S.base,⟨λenv m=>?_⟩⟩
 ·exact List.nodup_append.mpr ⟨S.nodup,by simp,λa ha b hb q=>by simp at hb;obtain rfl:=hb.symm;obtain rfl:=q.symm;exact hn ha⟩
 ·rw[MH.get_push]
  split
  ·rfl
  ·rename_i q
   exact S.tot a (Nat.lt_of_le_of_ne (Nat.le_of_lt_succ ha) q)
 ·rw[MH.get_push] at e
  split at e
  ·rename_i q
   cases e
   subst q;exact .mk x ob (by rw[S.len];simp) ho hr (λ_=>hb)
  ·refine aw λ_ Z9=>?_
   refine(S.obj a o' e).go λy oy e1 e2 r n=>?_
   refine Z9 ?_;exact .mk y oy (up _ _ e1) e2 (r.mono up (λ_ _ z _=>z)) n
 ·refine aw λ_ Z9=>?_
  obtain⟨a,L,o,es,n,e1,e2,e3,e4,e6⟩:=S.fr.each env m;refine Z9 ?_;refine⟨a,L,o,es,n,e1,e2,λq=>?_,e4,e6⟩;refine Or.elim (List.mem_append.mp q) (λz=>?_) (λz=>?_)
  ·exact e3 z
  ·simp at z;obtain rfl:=z.symm
   exact hfr (List.mem_filterMap.mpr ⟨env,m,e1⟩)
theorem Evo.own {fs X U h U' h'}{x:Addr}(E:Evo fs X U h U' h')(hx:h.get? x=re):Evo fs X U h (U'++[x]) h':=by
 obtain⟨m,rfl⟩:=E.pre;refine⟨⟨m++[x],by simp⟩,λy my=>?_,E.dom,E.keep,E.slot,E.frz⟩
 rcases List.mem_append.mp my with z | z
 ·exact E.fresh y z
 ·simp at z;subst z;exact .inr hx
theorem St.no_size {c:Cfg} {fs U J h}(S:St c fs U J h):h.objs.size∉U/\c.base.get? h.objs.size=re/\h.objs.size∉frs fs:=by
 refine⟨λm=>?_,S.base.fresh,λm=>?_⟩
 ·obtain⟨_,_,_,_,_,e,_⟩:=S.mem_lt m
  exact Nat.lt_irrefl _ (qp e)
 ·obtain⟨_,_,o,_,_,e,_⟩:=S.fr.mem m
  exact Nat.lt_irrefl _ (qp e)
theorem aZ (h:Heap):h.get? h.objs.size=none:=by
 cases q:h.get? h.objs.size with
 | none=>rfl
 | some o=>exact absurd (qp q) (Nat.lt_irrefl _)
theorem St.alloc {c:Cfg} {fs U J h}(S:St c fs U J h){o:O}{ob:Obj}(hf:ob.isFreed=rj)(hr:OR c (U++[h.objs.size]) (h.push ob) J.n o ob):St c fs (U++[h.objs.size]) (J.push o) (h.push ob):=
 (S.push ob).own (pA _ hf) S.no_size.1 S.no_size.2.1 S.no_size.2.2 hr
theorem Evo.alloc {fs X U h}(ob:Obj):Evo fs X U h (U++[h.objs.size]) (h.push ob):=(Evo.push ob).own (aZ h)
section
variable {c:Cfg}{U:List Addr}{h:Heap}{κ K:Type} [DecidableEq κ] [DecidableEq K]{f:κ->K}
theorem gW (hf:∀ i j,f i=f j->i=j){k:κ}:∀ {es:List (κ×V)}{kvs:List (K×Value)},All2 (KV c U h f) es kvs->
  match af k es with | some v=>∃ v',valueAt kvs (f k)=rc v'/\VR c U h v v' | none=>valueAt kvs (f k)=none:=by
 intro es kvs r
 induction r with
 | nil=>rfl
 | @cons p q es kvs x r ih=>
  obtain⟨k',v⟩:=p;obtain⟨y,v'⟩:=q;obtain⟨e1,e2⟩:=x;dsimp only at e1 e2
  rw[z1V];unfold valueAt;by_cases q:k'=k
  ·obtain rfl:=q.symm
   rw[if_pos rfl];exact bf v' (by simp[e1]) e2
  ·refine(if_neg q)▸?_
   have:¬ y=f k:=λz=>q (hf _ _ (e1.trans z))
   have e:valueAt ((y,v'):: kvs) (f k)=valueAt kvs (f k):=by simp[valueAt,List.find?_cons,this]
   unfold valueAt at e ih
   refine e▸?_;exact ih
theorem z7P (hf:∀ i j,f i=f j->i=j){k:κ}{v:V}{v':Value}(hv:VR c U h v v'):∀ {es:List (κ×V)}{kvs:List (K×Value)},All2 (KV c U h f) es kvs->(kvs.map (·.1)).Nodup->
  All2 (KV c U h f) (aJ k v es) (stored kvs (f k) v'):=by
 intro es kvs r
 induction r with
 | nil=>exact λ_=>.cons ⟨rfl,hv⟩ .nil
 | @cons p q es kvs x r ih=>
  obtain⟨k₁,w⟩:=p;obtain⟨y,w'⟩:=q;intro hn;have ih:=ih (List.nodup_cons.mp hn).2;refine bX x λe1 e2=>?_
  dsimp only at e1 e2
  simp only[hU];by_cases q:k₁=k
  ·subst q
   rw[if_pos rfl];have hk:f k₁∉kvs.map (·.1):=by rw[e1];exact(List.nodup_cons.mp hn).1
   have:stored ((y,w'):: kvs) (f k₁) v'=(y,v'):: kvs:=by
    unfold stored;rw[if_pos (by simp[e1])];rw[ql,e1];simp only[e1] at hk
    rw[map_store_of_not_mem _ _ _ hk];simp
   simp only[this];exact .cons ⟨e1,hv⟩ r
  ·rw[if_neg q]
   have ny:¬ y=f k:=λz=>q (hf _ _ (e1.trans z))
   have:stored ((y,w'):: kvs) (f k) v'=(y,w'):: stored kvs (f k) v':=by
    unfold stored;simp only[List.any_cons,ny,decide_false,Bool.false_or,ql,if_false]
    split <;> rfl
   simp only[this];exact .cons ⟨e1,e2⟩ ih
theorem z7O (hf:∀ i j,f i=f j->i=j){k:κ}:∀ {es:List (κ×V)}{kvs:List (K×Value)},All2 (KV c U h f) es kvs->(kvs.map (·.1)).Nodup->All2 (KV c U h f) (bR k es) (without kvs (f k)):=by
 intro es kvs r
 induction r with
 | nil=>exact λ_=>.nil
 | @cons p q es kvs x r ih=>
  obtain⟨k₁,w⟩:=p;obtain⟨y,w'⟩:=q;intro hn;have ih:=ih (List.nodup_cons.mp hn).2;refine bX x λe1 e2=>?_
  dsimp only at e1 e2
  simp only[z5H];by_cases q:k₁=k
  ·subst q
   rw[if_pos rfl];have hk:f k₁∉kvs.map (·.1):=by simp only[e1];exact(List.nodup_cons.mp hn).1
   have:without ((y,w'):: kvs) (f k₁)=kvs:=by
    unfold without;rw[pS,if_neg (by simp[e1])];exact without_of_not_mem kvs _ hk
   simp only[this];exact r
  ·rw[if_neg q]
   have ny:y≠f k:=λz=>q (hf _ _ (e1.trans z))
   have:without ((y,w'):: kvs) (f k)=(y,w'):: without kvs (f k):=by
    unfold without;rw[pS,if_pos (by simpa using ny)]
   simp only[this];exact .cons ⟨e1,e2⟩ ih
theorem cy.of {prog:qW}{w:World}{knd:KeyKind prog w K}{h:Heap}{x:Addr}{kvs:List (K×Value)}(D:h.DictOf knd x kvs):∃ ob,h.get? x=rc ob/\cy knd ob kvs:=
 (by obtain⟨o,es,ep,e1,e2,e3,e4,e5,e6⟩:=D;exact⟨o,e1,e2,es,ep,e3,e4,e5,e6⟩)
theorem cy.at {prog:qW}{w:World}{knd:KeyKind prog w K}{h:Heap}{x:Addr}{ob:Obj}{kvs:List (K×Value)}(e:h.get? x=rc ob)(D:cy knd ob kvs):h.DictOf knd x kvs:=
 (by obtain⟨e2,es,ep,e3,e4,e5,e6⟩:=D;exact⟨ob,es,ep,e,e2,e3,e4,e5,e6⟩)
theorem cy.nodup {prog:qW}{w:World}{knd:KeyKind prog w K}{ob:Obj}{kvs:List (K×Value)}(D:cy knd ob kvs):(kvs.map (·.1)).Nodup:=(by obtain⟨_,_,_,_,_,_,e⟩:=D;exact e)
theorem cy.empty {prog:qW}{w:World}(knd:KeyKind prog w K):cy knd { cls:=.type "dict",data:=.dict #[] } []:=
 ⟨⟨rfl,rfl,rfl⟩,#[],0,rfl,λ_ he=>by simp at he,.nil,List.nodup_nil⟩
end
end
section
inductive ExcAt (fs:List Env)(B h:Heap)(a:Addr)(cls a0:Value):Prop
 | new {oe vs}:h.get? a=rc oe->oe.cls=cls->oe.data = .fields vs->vs[0]? = rc a0->vs[1]? = rc .none->ExcAt fs B h a cls a0
 | on:h.TracedW B a cls a0->ExcAt fs B h a cls a0
 | held {env:Env}{outer:List Env}{L:Addr}:fs=env:: outer->env.frame=rc L->h.TracedAtW B a cls a0 (r7 L)->ExcAt fs B h a cls a0
structure FlyAt (c:Cfg)(fs:List Env)(X U:List Addr)(h:Heap)(k:Nat)(J':MH)(U':List Addr)(a:Addr)(h' B:Heap)(a0:Value):Prop where
 stays:B.StaysIn h'
 eB:B.get? a=re
 frames:h'.FunFrames B fs
 st:St c [] U' J' B
 nfr:∀ b∈frs fs,b∉U'
 pre:∃ more,U'=U++more
 fresh:∀ x∈U',x∈U∨h.get? x=re
 keep:∀ b o,h.get? b=rc o->b∉U->b∉X->b∉frs fs->B.get? b=rc o
 slot:∀ b o,h.get? b=rc o->b∉U->b∉X->∃ sl,h'.get? b=rc { o with slots:=sl }
 domB:∀ b o,h.get? b=rc o->b∉frs fs->∃ o',B.get? b=rc o'
 frz:∀ b o,h.get? b=rc o->aG o->B.get? b=rc o
noncomputable def Fly (c:Cfg)(fs:List Env)(X U:List Addr)(h:Heap)(k:Nat)(J':MH)(U':List Addr)(e:Value)(h':Heap):Prop:=
 ∃ a B a0,e = .ref a/\ExcAt fs B h' a (.ref (c.cls k)) a0/\FlyAt c fs X U h k J' U' a h' B a0
theorem Fly.before {c fs X U h k J' U' e h' U₁ h₁}(E:Evo fs X U h U₁ h₁)(F:Fly c fs X U₁ h₁ k J' U' e h'):Fly c fs X U h k J' U' e h':=by
 refine aw λ_ Z9=>?_
 refine lE F λa B a0 e1 e2 F=>?_
 refine Z9 ?_;have nin:∀ {b o},h.get? b=rc o->b∉U->b∉U₁:=λ{b o} e n m=>by
  refine Or.elim (E.fresh b m) (λz=>?_) (λz=>?_)
  ·exact n z
  ·replace e:=z▸e;cases e
 refine⟨a,B,a0,e1,e2,F.stays,F.eB,F.frames,F.st,F.nfr,?_,λx m=>?_,λy o e n1 n2 n3=>?_,λy o e n1 n2=>?_,λy o e nf=>?_,λy o e f=>F.frz _ _ (E.frz _ _ e f) f⟩
 ·obtain⟨m1,q1⟩:=E.pre
  obtain⟨m2,q2⟩:=F.pre;exact⟨m1++m2,by rw[q2,q1,pK]⟩
 ·rcases F.fresh x m with z | z
  ·exact E.fresh x z
  ·right
   cases q:h.get? x with
   | none=>rfl
   | some o=>
    obtain⟨o',e'⟩:=E.dom _ _ q;replace z:=e'▸z;cases z
 ·exact F.keep _ _ (E.keep _ _ e n1 n2 n3) (nin e n1) n2 n3
 ·obtain⟨s1,q1⟩:=E.slot _ _ e n1 n2
  refine fk (F.slot _ _ q1 (nin e n1) n2) λs2 q2=>?_
  exact⟨s2,q2⟩
 ·obtain⟨o',e'⟩:=E.dom _ _ e
  exact F.domB _ _ e' nf
structure Room (n:Nat)(A:qZ)(fs:List Env):Prop where
 frames:A.frames=rc fs
 handled:A.handled=re
 depth:A.depth+n<=900
 units:A.units+8*n<=9000
theorem Room.le {n m A fs}(R:Room n A fs)(h:m<=n):Room m A fs:=⟨R.frames,R.handled,qt (Nat.add_le_add_left h _) R.depth,qt (Nat.add_le_add_left (Nat.mul_le_mul_left 8 h) _) R.units⟩
theorem Room.cl {n A fs}(R:Room n A fs):A.units<cLine:=pJ (qt (Nat.le_add_right _ _) R.units) (show 9000<9900 by decide)
theorem z8d {n m d:Nat}(R:d+n<=900)(h:m+1<=n):d+1+m<=900:=by rw[Nat.add_assoc,Nat.add_comm 1 m];exact qt (Nat.add_le_add_left h d) R
theorem z8e {n m u j:Nat}(R:u+8*n<=9000)(h:m+1<=n)(hj:j<=8):u+j+8*m<=9000:=by
 rw[Nat.add_assoc];exact qt (Nat.add_le_add_left (qt (Nat.add_le_add_right hj _) (qt (qu (Nat.add_comm 8 (8*m))) (Nat.mul_le_mul_left 8 h))) u) R
structure Oth (s s':Shared):Prop where
 gens:s'.gens=s.gens
 os:s'.os=s.os
theorem Oth.trans {a b d:Shared}(x:Oth a b)(y:Oth b d):Oth a d:=⟨y.gens.trans x.gens,y.os.trans x.os⟩
noncomputable def Rok {Y β:Type}(c:Cfg)(fs:List Env)(X U:List Addr)(s:Shared)(r:R Y)(rel:List Addr->Heap->Y->β->Prop)(Q:β->Shared->Prop):Prop:=
 ∀ a J' U' b s',r = .ok a J'->St c fs U' J' s'.heap->Evo fs X U s.heap U' s'.heap->rel U' s'.heap a b->(_:Oth s s':=by exact⟨rfl,rfl⟩)->Q b s'
noncomputable def Rex {Y:Type}(c:Cfg)(fs:List Env)(X U:List Addr)(s:Shared)(r:R Y)(E:VP):Prop:=
 ∀ k J' U' e s',r = .exc k J'->Fly c fs X U s.heap k J' U' e s'.heap->(_:Oth s s':=by exact⟨rfl,rfl⟩)->E e s'
noncomputable def Sat {Y β:Type}(c:Cfg)(A:qZ)(fs:List Env)(X U:List Addr)(J:MH)(s:Shared)(r:R Y)(rel:List Addr->Heap->Y->β->Prop)(t:Sem β):Prop:=
 ∀ (Q:β->Shared->Prop)(E:VP),St c fs U J s.heap->r≠.bad->Rok c fs X U s r rel Q->Rex c fs X U s r E->wpF (model c.prog c.w) A t Q E s
section
variable {Y β γ δ:Type}{c:Cfg}{A:qZ}{fs:List Env}{X U:List Addr}{J:MH}{s:Shared}{rel:List Addr->Heap->Y->β->Prop}{rel':List Addr->Heap->γ->δ->Prop}
theorem Sat.pure {a:Y}{b:β}(h:rel U s.heap a b):Sat c A fs X U J s (.ok a J) rel (Pure.pure b):=λ_ _ S _ ok _=>ac (ok _ _ _ _ _ rfl S .refl h)
theorem Sat.bind {m:M Y}{f:Y->M γ}{t:Sem β}{g:β->Sem δ}(h1:Sat c A fs X U J s (m J) rel t)
  (h2:∀ a J' U' b s',m J = .ok a J'->St c fs U' J' s'.heap->Evo fs X U s.heap U' s'.heap->rel U' s'.heap a b->Sat c A fs X U' J' s' (f a J') rel' (g b)):
  Sat c A fs X U J s ((m >>= f) J) rel' (t >>= g):=by
 intro Q E S nb ok ex;have eb:(m >>= f) J=match m J with | .ok a J'=>f a J' | .exc c J'=>.exc c J' | .bad=>.bad:=rfl
 refine a9 (h1 _ _ S (λq=>?_) (λa J' U' b s' e S' E' r O=>?_) (λk J' U' e s' q F O=>?_))
 ·rw[eb,q] at nb;exact nb rfl
 ·rw[e] at eb
  refine h2 a J' U' b s' e S' E' r Q E S' (λq=>nb (eb.trans q)) (λa2 J2 U2 b2 s2 e2 S2 E2 r2 O2=>ok _ _ _ _ _ (eb.trans e2) S2 (E'.trans E2) r2 (O.trans O2))
   (λk J2 U2 e2 s2 q F O2=>ex _ _ _ _ _ (eb.trans q) (F.before E') (O.trans O2))
 ·rw[q] at eb
  exact ex _ _ _ _ _ eb F O
theorem Sat.bind2 {m:M Y}{f:Y->M γ}{t:Sem β}{g:β->Sem δ}{P:List Addr->Heap->Y->β->Prop}{G:List Addr->Heap->Prop}(h1:Sat c A fs X U J s (m J) (λU h a b=>P U h a b/\G U h) t)
  (h2:∀ a J' U' b s',m J = .ok a J'->St c fs U' J' s'.heap->Evo fs X U s.heap U' s'.heap->P U' s'.heap a b->G U' s'.heap->Sat c A fs X U' J' s' (f a J') rel' (g b)):
  Sat c A fs X U J s ((m >>= f) J) rel' (t >>= g):=Sat.bind h1 λa J' U' b s' e S E r=>h2 a J' U' b s' e S E r.1 r.2
theorem Sat.left {m:M Y}{f:Y->M γ}{t:Sem δ}{a:Y}(e:m J = .ok a J)(h:Sat c A fs X U J s (f a J) rel' t):Sat c A fs X U J s ((m >>= f) J) rel' t:=by
 have eb:(m >>= f) J=f a J:=by show(match m J with | .ok a J'=>f a J' | .exc c J'=>.exc c J' | .bad=>.bad)=_;rw[e]
 rw[eb];exact h
theorem Sat.standAt {r:R γ}{p:Pos}{t:Sem δ}(h:Sat c A fs X U J s r rel' t):Sat c A fs X U J s r rel' (PySem.standAt p >>= λ_=>t):=
 λQ E S nb ok ex=>a9 (aF (h Q E S nb @ok @ex))
theorem Sat.rule {r:R γ}{p:String}{t:Sem δ}(h:Sat c A fs X U J s r rel' t):Sat c A fs X U J s r rel' (PySem.rule p >>= λ_=>t):=
 λQ E S nb ok ex=>a9 (eD (h Q E S nb @ok @ex))
theorem Sat.holding {r:R γ}{vs:List Value}{t:Sem δ}(h:Sat c A fs X U J s r rel' t):Sat c A fs X U J s r rel' (PySem.holding vs t):=
 λQ E S nb ok ex=>ay (h Q E S nb @ok @ex)
theorem Sat.operate {r:R γ}{vs:List Value}{rel':List Addr->Heap->γ->Value->Prop}{t:Sem Value}(h:Sat c A fs X U J s r rel' t):Sat c A fs X U J s r rel' (PySem.operate vs t):=
 λQ E S nb ok ex=>z4s (h Q E S nb @ok @ex)
theorem Sat.any {r:R Y}{t:Sem β}(h:∀ (Q:β->Shared->Prop)(E:VP),St c fs U J s.heap->r≠.bad->Rok c fs X U s r rel Q->Rex c fs X U s r E->wpAny (model c.prog c.w) A t Q E s):Sat c A fs X U J s r rel t:=λQ E S nb ok ex=>.of (h Q E S nb @ok @ex)
theorem Sat.val {a:Y}{t:Sem β}{b:Tok->β}(h:∀ (Q:β->Shared->Prop)(E:VP),(∀ tk tk',Q (b tk) { s with toks:=tk' })->wpAny (model c.prog c.w) A t Q E s)(hr:∀ tk,rel U s.heap a (b tk)):
  Sat c A fs X U J s (.ok a J) rel t:=
 λQ E S _ ok _=>.of (h Q E λtk _=>ok _ _ _ _ _ rfl S .refl (hr tk))
theorem Sat.bad {t:Sem δ}{r:R γ}(h:r = .bad):Sat c A fs X U J s r rel' t:=λ_ _ _ nb _ _=>absurd h nb
theorem ap {t:Sem δ}:Sat c A fs X U J s (.bad:R γ) rel' t:=Sat.bad rfl
theorem Sat.using {r:R γ}{t:Sem δ}(h:St c fs U J s.heap->Sat c A fs X U J s r rel' t):Sat c A fs X U J s r rel' t:=λQ E S nb ok ex=>h S Q E S nb @ok @ex
end
noncomputable def lA (sc:Scope)(i:Nat):Prop:=sc.names.lookup ⟨#[106,111,117,114,110,97,108]⟩=rc .cell/\sc.names.lookup (match i with | 0=>⟨#[114,101,115,116]⟩ | _=>⟨#[119,97,121]⟩)=rc .local
structure EnvOk (sc:Scope)(env:Env):Prop where
 kind:env.scope.kind = .function
 glob:env.globals=qw
 blt:env.builtins=qD
 loc:∀ n,sc.names.lookup n=rc .local->env.kindOf n=rc .local
 gl:∀ n,sc.names.lookup n=rc .globalImplicit->env.kindOf n=rc .globalImplicit
 cel:∀ n,sc.names.lookup n=rc .cell∨sc.names.lookup n=rc .free->env.kindOf n=rc .cell∨env.kindOf n=rc .free
 has:∀ n,sc.names.lookup n=rc .cell∨sc.names.lookup n=rc .free->∃ y,env.cells.lookup n=rc y
 code:∀ i,lA sc i->env.code = .ref (cdA i)/\env.qual ++ "<lambda>" = cdQ i
structure Fst (c:Cfg)(sc:Scope)(env:Env)(cl:Nat->Option Nat)(U:List Addr)(l:Loc)(h:Heap):Prop where
 ok:EnvOk sc env
 ns:∃ m,h.Ns env.locals m/\∀ x v,l x=rc v->∃ v',m (c.nm x)=rc v'/\VR c U h v v'
 own:env.locals∉U
 base:c.base.get? env.locals=re
 cells:∀ x a,cl x=rc a->sc.names.lookup (c.nm x)=rc .cell∨sc.names.lookup (c.nm x)=rc .free->∃ y,env.cells.lookup (c.nm x)=rc y/\U[a]? = rc y
theorem Heap.Ns.slots {h h':Heap}{a:Addr}{m:Str->Option Value}(hn:h.Ns a m)(k:∀ o,h.get? a=rc o->∃ sl,h'.get? a=rc { o with slots:=sl }):h'.Ns a m:=by
 refine aw λ_ Z9=>?_
 obtain⟨o,es,ep,ho,hd,r⟩:=hn;obtain⟨sl,hs⟩:=k o ho;refine Z9 ?_;exact⟨_,es,ep,hs,hd,r⟩
theorem Fst.evo {c sc env cl U l h fs X U' h'}(F:Fst c sc env cl U l h)(E:Evo fs X U h U' h')(hX:env.locals∉X):Fst c sc env cl U' l h':=by
 refine aw λ_ Z9=>?_
 obtain⟨e,⟨m,hm,hv⟩,own,base,cells⟩:=F;refine lE (id hm) λo es ep ho hd r=>?_
 refine Z9 ?_;refine⟨e,⟨m,Heap.Ns.slots hm λo e=>E.slot _ _ e own hX,λx v q=>?_⟩,λq=>?_,base,λx a q hl=>?_⟩
 ·refine el12 (hv x v q) λv' e1 e2=>?_
  exact bf v' e1 (e2.evo E)
 ·refine Or.elim (E.fresh _ q) (λz=>?_) (λz=>?_)
  ·exact own z
  ·replace ho:=z▸ho;cases ho
 ·refine el12 (cells x a q hl) λy e1 e2=>?_
  exact bf y e1 (E.get e2)
inductive FnR (c:Cfg)(U:List Addr)(h:Heap):Fn->Value->Prop
 | fn (k:Nat):FnR c U h (.fn k) (.ref (c.fnA k))
 | lam {k cs v}:VR c U h (.clo k cs) v->FnR c U h (.lam k cs) v
noncomputable def cH (c:Cfg)(n:Nat)(call:Fn->List V->M V):Prop:=
 ∀ A fs,Room n A fs->∀ f fv vs vals X U J s,FnR c U s.heap f fv->VRs c U s.heap vs vals->Sat c A fs X U J s (call f vs J) (VR c) (PySem.call fv vals)
structure CxOk (c:Cfg)(n:Nat)(cx:Cx):Prop where
 P:cx.P=c.P
 call:∃ m,m+2<=n/\cH c m cx.call
noncomputable def ar (c:Cfg)(n:Nat)(cx:Cx)(sc:Scope)(e:E)(pe:Expr):Prop:=
 ∀ A fs,Room n A fs->∀ env X U J l s,env.locals∉X->Fst c sc env cx.cl U l s.heap->Sat c A fs X U J s (evE cx e l J) (VR c) (eval pe env)
noncomputable def f6 (c:Cfg)(n:Nat)(cx:Cx)(sc:Scope)(e:E)(pe:Expr):Prop:=
 ∀ A fs,Room n A fs->∀ env X U J l s,env.locals∉X->Fst c sc env cx.cl U l s.heap->Sat c A fs X U J s ((evE cx e l >>= aQ) J) (λ_ _ a b=>a=b) (isTrue pe env (eval pe env))
section
variable {c:Cfg}{n:Nat}{cx:Cx}{sc:Scope}
theorem z8n {i k p}:ar c n cx sc (.cint i) (.Constant (.int i) k p):=λA fs _ env X U J l s _ _=>
 Sat.val (rel:=VR c) (a:=V.int i) (b:=λt=>Value.int i t) (λQ E h=>wpAny_Constant_int (h _ _)) λt=>VR.int i t
theorem z6x {k p}:ar c n cx sc .cnone (.Constant .none k p):=λA fs _ env X U J l s _ _=>Sat.pure (rel:=VR c) VR.none
theorem z6v {b k p}:ar c n cx sc (.cbool b) (.Constant (.bool b) k p):=λA fs _ env X U J l s _ _=>Sat.pure (rel:=VR c) (VR.bool b)
theorem z4j {x i k p}(h:c.nm i=x):ar c n cx sc (.cstr i) (.Constant (.str x) k p):=λA fs _ env X U J l s _ _=>
 Sat.val (rel:=VR c) (a:=V.str i) (b:=λt=>Value.str x t) (λQ E h=>Constant_str (h _ _)) λt=>by subst h;exact VR.str i t
theorem z4Y {k p}:ar c n cx sc .cbytes (.Constant (.bytes []) k p):=λA fs _ env X U J l s _ _=>
 Sat.val (rel:=VR c) (a:=V.bytes []) (b:=λt=>Value.bytes #[] t) (λQ E h=>λ_ _ _=>h s.toks _) λt=>VR.bytes [] t
theorem z9C {x nm p}(h:c.nm x=nm)(hl:sc.names.lookup nm=rc .local)(hd:(nm==("__debug__" : Str))=rj):ar c n cx sc (.loc x) (.Name nm p):=by
 intro A fs _ env X U J l s _ F;subst h;show Sat c A fs X U J s (M.lift (l x) J) _ _;cases q:l x with
 | none=>exact ap
 | some v=>
  refine aw λ_ Z9=>?_
  obtain⟨m,hm,hv⟩:=F.ns;obtain⟨v',e1,e2⟩:=hv x v q;refine Z9 ?_;exact Sat.val (rel:=VR c) (a:=v) (b:=λ_=>v') (λQ E h=>wpAny_Name (wpAny_loadName_local F.ok.kind (F.ok.loc _ hl) hm e1 (h 0 _)) hd) λ_=>e2
theorem z9w {x nm p}(h:c.nm x=nm)(hl:sc.names.lookup nm=rc .cell∨sc.names.lookup nm=rc .free)(hd:(nm==("__debug__" : Str))=rj)(hd2:(nm==("__classdict__" : Str))=rj):ar c n cx sc (.cel x) (.Name nm p):=by
 intro A fs _ env X U J l s _ F;subst h;show Sat c A fs X U J s (jE cx.cl x J) _ _;cases q:cx.cl x with
 | none=>exact Sat.bad (by show M.bind (M.lift (cx.cl x)) _ J=_;refine q▸?_;rfl)
 | some a=>
  refine aw λ_ Z9=>?_
  refine el12 (F.cells x a q hl) λy ey ea=>?_
  refine Z9 ?_;cases q2:J.get a with
  | none=>exact Sat.bad ((bnd (lfE q)).trans (rdN q2))
  | some o=>
   by_cases hc:∃ v,o = .cell (rc v)
   ·refine fk hc λv ez5=>?_;subst ez5
    have e:jE cx.cl x J = .ok v J:=(bnd (lfE q)).trans (bnd (rdE q2))
    rw[e];refine Sat.any λQ E S _ ok _=>?_
    refine aw λ_ Z9=>?_
    refine S.objP ea q2 λob e2 r _=>?_
    refine Z9 ?_;refine el12 r.inv λw eo rv=>?_
    refine el12 (rv v rfl) λw' ew rv=>?_
    replace e2:=(eo.trans (congrArg kn ew))▸e2;have fin:=ok _ _ _ _ s rfl S .refl rv;refine Or.elim (F.ok.cel _ hl) (λz=>?_) (λz=>?_)
    ·exact wpAny_Name (wpAny_loadName_cell F.ok.kind z ey ⟨_,e2,rfl⟩ fin) hd
    ·exact wpAny_Name (wpAny_loadName_free F.ok.kind z ey ⟨_,e2,rfl⟩ fin hd2) hd
   ·exact Sat.bad (((bnd (lfE q)).trans (bnd (rdE q2))).trans (by
     induction o with
     | cell v=>induction v with
      | none=>rfl
      | some v=>exact absurd ⟨v,rfl⟩ hc
     | _=>rfl))
end
end
section
section
variable {Y β γ δ:Type}{c:Cfg}{A:qZ}{fs:List Env}{X U:List Addr}{J:MH}{s:Shared}{rel':List Addr->Heap->γ->δ->Prop}
theorem VR.inv_ref {a:Nat}{h:Heap}{v:Value}(r:VR c U h (.ref a) v):∃ x,v = .ref x/\U[a]? = rc x:=by cases r;exact⟨_,rfl,by assumption⟩
theorem VR.inv_int {i:Int}{h:Heap}{v:Value}(r:VR c U h (.int i) v):∃ t,v = .int i t:=by cases r;exact⟨_,rfl⟩
theorem VR.inv_bool {i:Bool}{h:Heap}{v:Value}(r:VR c U h (.bool i) v):v = .bool i:=by cases r;rfl
theorem VR.inv_none {h:Heap}{v:Value}(r:VR c U h .none v):v = .none:=by cases r;rfl
theorem VR.inv_t2 {a b:V}{h:Heap}{v:Value}(r:VR c U h (.t2 a b) v):∃ x,v = .ref x:=by cases r;exact⟨_,rfl⟩
theorem VR.inv_str {i:Nat}{h:Heap}{v:Value}(r:VR c U h (.str i) v):∃ t,v = .str (c.nm i) t:=by cases r;exact⟨_,rfl⟩
theorem VR.inv_bytes {b:List UInt8}{h:Heap}{v:Value}(r:VR c U h (.bytes b) v):∃ t,v = .bytes b.toArray t:=by cases r;exact⟨_,rfl⟩
@[elab_as_elim] theorem VR.refC {a:Nat}{h:Heap}{C:Value->Prop}{v:Value}(r:VR c U h (.ref a) v)(k:∀ x,U[a]? = rc x->C (.ref x)):C v:=by obtain⟨x,rfl,e⟩:=r.inv_ref;exact k x e
@[elab_as_elim] theorem VR.intC {i:Int}{h:Heap}{C:Value->Prop}{v:Value}(r:VR c U h (.int i) v)(k:∀ t,C (.int i t)):C v:=by obtain⟨t,rfl⟩:=r.inv_int;exact k t
@[elab_as_elim] theorem VR.strC {i:Nat}{h:Heap}{C:Value->Prop}{v:Value}(r:VR c U h (.str i) v)(k:∀ t,C (.str (c.nm i) t)):C v:=by obtain⟨t,rfl⟩:=r.inv_str;exact k t
@[elab_as_elim] theorem VR.bytesC {b:List UInt8}{h:Heap}{C:Value->Prop}{v:Value}(r:VR c U h (.bytes b) v)(k:∀ t,C (.bytes b.toArray t)):C v:=by obtain⟨t,rfl⟩:=r.inv_bytes;exact k t
@[elab_as_elim] theorem VR.boolC {b:Bool}{h:Heap}{C:Value->Prop}{v:Value}(r:VR c U h (.bool b) v)(k:C (.bool b)):C v:=r.inv_bool▸k
@[elab_as_elim] theorem VR.noneC {h:Heap}{C:Value->Prop}{v:Value}(r:VR c U h .none v)(k:C .none):C v:=r.inv_none▸k
theorem Sat.read {a:Nat}{f:O->M γ}{t:Sem δ}{x:Addr}(hx:U[a]? = rc x)
  (h:∀ o ob,J.get a=rc o->s.heap.get? x=rc ob->OR c U s.heap a o ob->(o7 o=rg->c.base.get? x=re)->Sat c A fs X U J s (f o J) rel' t):Sat c A fs X U J s ((M.read a >>= f) J) rel' t:=by
 refine Sat.using λS=>?_
 cases q:J.get a with
 | none=>exact Sat.bad (by show M.bind (M.read a) f J=_;simp only[M.bind,M.read,q])
 | some o=>
  exact S.objP hx q λob e2 r n=>Sat.left (a:=o) (by simp only[M.read,q]) (h o ob q e2 r n)
theorem Sat.guard {b:Bool}{f:Unit->M γ}{t:Sem δ}(h:b=rg->Sat c A fs X U J s (f () J) rel' t):Sat c A fs X U J s ((M.guard b >>= f) J) rel' t:=by
 induction b with
 | false=>exact Sat.bad (jw rfl)
 | true=>exact Sat.left (a:=()) (z7E _) (h rfl)
theorem Sat.guardD {p:Prop} [Decidable p]{f:Unit->M γ}{t:Sem δ}(h:p->Sat c A fs X U J s (f () J) rel' t):Sat c A fs X U J s ((M.guard (decide p) >>= f) J) rel' t:=Sat.guard λg=>h (of_decide_eq_true g)
theorem Sat.lift {o:Option Y}{f:Y->M γ}{t:Sem δ}(h:∀ a,o=rc a->Sat c A fs X U J s (f a J) rel' t):Sat c A fs X U J s ((M.lift o >>= f) J) rel' t:=by
 induction o with
 | none=>exact ap
 | some a=>exact Sat.left (a:=a) rfl (h a rfl)
theorem Sat.lift1 {o:Option Y}{t:Sem δ}{rel:List Addr->Heap->Y->δ->Prop}(h:∀ a,o=rc a->Sat c A fs X U J s (.ok a J) rel t):Sat c A fs X U J s (M.lift o J) rel t:=by
 induction o with
 | none=>exact ap
 | some a=>exact h a rfl
theorem Sat.ret {a:Y}{f:Y->M γ}{t:Sem δ}(h:Sat c A fs X U J s (f a J) rel' t):Sat c A fs X U J s (((Pure.pure a:M Y) >>= f) J) rel' t:=Sat.left rfl h
theorem Sat.write {a:Nat}{x:Addr}{o':O}{ob:Obj}{t:Sem β}{b:β}{rel:List Addr->Heap->Unit->β->Prop}(hx:U[a]? = rc x)(ho:s.heap.get? x=rc ob)(hown:c.base.get? x=re)(hnf:¬ aG ob)
  (h:∀ (Q:β->Shared->Prop)(E:VP),(∀ h' tk ob',qo x s.heap h'->h'.get? x=rc ob'->OR c U s.heap a o' ob'->Q b { s with heap:=h',toks:=tk })->wpAny (model c.prog c.w) A t Q E s)
  (hr:∀ U h,rel U h () b):Sat c A fs X U J s (M.write a o' J) rel t:=Sat.any λQ E S _ ok _=>
 h Q E λh' tk ob' hs e r=>ok () (J.set a o') U b _ rfl (S.but hx ho hs e r hown hnf) (Evo.but hx ho hs e hnf) (hr _ _)
theorem Sat.writeThen {a:Nat}{x:Addr}{o':O}{ob:Obj}{f:Unit->M γ}{v:γ}{t:Sem β}{b:β}{rel:List Addr->Heap->γ->β->Prop}(hf:∀ J,f () J = .ok v J)(hx:U[a]? = rc x)(ho:s.heap.get? x=rc ob)(hown:c.base.get? x=re)(hnf:¬ aG ob)
  (h:∀ (Q:β->Shared->Prop)(E:VP),(∀ h' tk ob',qo x s.heap h'->h'.get? x=rc ob'->OR c U s.heap a o' ob'->Q b { s with heap:=h',toks:=tk })->wpAny (model c.prog c.w) A t Q E s)
  (hr:∀ h' ,(∀ b o,s.heap.get? b=rc o->aG o->h'.get? b=rc o)->rel U h' v b):Sat c A fs X U J s ((M.write a o' >>= f) J) rel t:=by
 have e:(M.write a o' >>= f) J = .ok v (J.set a o'):=hf _;rw[e];refine Sat.any λQ E S _ ok _=>?_
 refine h Q E λh' tk ob' hs e r=>?_
 have fz:∀ b o,s.heap.get? b=rc o->aG o->h'.get? b=rc o:=λb o z fz=>by
  by_cases q:b=x
  ·subst q;rw[ho] at z;cases z;exact absurd fz hnf
  ·exact(hs.2 _ q).trans z
 exact ok v (J.set a o') U b _ rfl (S.but hx ho hs e r hown hnf) (Evo.but hx ho hs e hnf) (hr _ fz)
end
section
variable {c:Cfg}{A:qZ}{fs:List Env}{X U:List Addr}{J:MH}{s:Shared}{n:Nat}
theorem br {k:Nat}(h:k<=lim):k<=qS:=qx▸qt h (show 1000000<=16777216 by decide)
theorem z4l {xs:List V}{vs:List Value}(h:VRs c U s.heap xs vs):Sat c A fs X U J s (Mine.Internal.newList xs J) (VR c) (PySem.newList vs):=by
 unfold Mine.Internal.newList;refine Sat.guard λhl=>?_
 have hl:xs.length<=lim:=of_decide_eq_true hl;refine Sat.any λQ E S _ ok _=>?_
 have E':Evo fs X U s.heap (U++[s.heap.objs.size]) (s.heap.push (bI vs 0)):=Evo.alloc _;refine wpAny_newList (ok _ _ _ _ _ rfl (S.alloc rfl (.lst (h.evo E'))) E' (.ref ?_)) (by rw[<-h.length];exact br hl);rw[S.len];simp
theorem z2g {a:Int}(h:a.natAbs<2 ^ 64):Builtin.Int.intBits a<=64:=by
 unfold Builtin.Int.intBits
 split
 ·exact qB _
 ·rename_i q
  exact(Nat.log2_lt (n:=a.natAbs) (k:=64) (by simpa using q)).mpr h
theorem zcx {a b:Int}(h:a.natAbs<2 ^ 64):IntMulOk a b:=by
 unfold IntMulOk;have:=z2g h;have e:decide (Builtin.Int.intBits a > shortFactorBits)=false:=decide_eq_false (Nat.not_lt.mpr (qt this (by decide)));rw[e,Bool.false_and,Bool.false_and];decide
theorem z83 {a b:Int}(h:a.natAbs<2 ^ 64):Builtin.divisionGoesByPylong a b=false:=by
 unfold Builtin.divisionGoesByPylong;have:(if(a==0)=rg then 0 else a.natAbs.log2 / 30+1)<=3:=by
  split
  ·exact qB _
  ·rename_i q
   exact Nat.div_lt_of_lt_mul (Nat.lt_trans ((Nat.log2_lt (n:=a.natAbs) (k:=64) (Int.natAbs_ne_zero.mpr (by simpa using q))).mpr h) (by decide))
 dsimp only;rw[Bool.and_eq_false_iff];by_cases z:(if(b==0)=rg then 0 else b.natAbs.log2 / 30+1) > 300
 ·right
  exact decide_eq_false (by omega)
 ·left
  exact decide_eq_false z
theorem zaL {a b:Int}(ha:0<=a)(hb:0<=b):Builtin.bitAnd a b=qK (a.toNat &&& b.toNat):=by
 unfold Builtin.bitAnd;rw[decide_eq_true ha,decide_eq_true hb];rfl
theorem iG {Y:Type}{p:Prop} [Decidable p]{x r:Y}(h:(if p then rc x else re)=rc r):p/\x=r:=by
 by_cases q:p
 ·exact⟨q,qb ((if_pos q).symm.trans h)⟩
 ·cases(if_neg q).symm.trans h
theorem zan {Y:Type}{p:Prop} [Decidable p]{x r:Y}(h:(if p then re else rc x)=rc r):¬p/\x=r:=by
 by_cases q:p
 ·cases(if_pos q).symm.trans h
 ·exact⟨q,qb ((if_neg q).symm.trans h)⟩
theorem zcD {a b:Int}(ha:0<=a)(hb:0<=b):Builtin.bitOr a b=qK (a.toNat ||| b.toNat):=by
 obtain⟨i,rfl⟩:=oQ ha;obtain⟨j,rfl⟩:=oQ hb;have m:∀ i:Nat,decide (0<=Builtin.bitNot (i:Int))=false:=λi=>decide_eq_false (show ¬0<=-(i:Int)-1 by omega)
 have n:∀ x:Int,Builtin.bitNot (Builtin.bitNot x)=x:=λx=>show -(-x-1)-1=x by omega
 unfold Builtin.bitOr Builtin.bitAnd;rw[m,m];refine(n _).trans ?_;rw[n,n];rfl
theorem z8l {op:BOp}{a b r:Int}{t u:Tok}(h:iM op a b=rc r):Sat c A fs X U J s (.ok (.int r) J) (VR c) (binaryOp (bop op) (.int a t) (.int b u)):=by
 refine Sat.val (b:=λt=>.int r t) (λQ E k=>?_) λt=>.int r t
 cases op with
 | add=>exact PyProof.Rows.add_int (qb h▸k _ _)
 | sub=>exact PyProof.Rows.sub_int (qb h▸k _ _)
 | mul=>
  obtain⟨q,rfl⟩:=iG h;exact PyProof.Rows.mul_int (k _ _) (zcx (of_decide_eq_true (Bool.and_eq_true_iff.mp q).1))
 | fdiv=>
  obtain⟨q,rfl⟩:=zan h;have z:small a=true:=by
   cases z:small a with
   | true=>rfl
   | false=>exact absurd (.inr (by rw[z];rfl)) q
  exact PyProof.Rows.floordiv_int (λz=>q (.inl z)) (k _ _) (.inl (z83 (of_decide_eq_true z)))
 | mod=>
  obtain⟨q,rfl⟩:=zan h;exact PyProof.Rows.mod_int' q (k _ _)
 | pow=>
  obtain⟨⟨q1,q2,q3⟩,rfl⟩:=iG h;have:=z2g (of_decide_eq_true q3);refine PyProof.Rows.pow_int q1 ?_ (k _ _)
  calc (Builtin.Int.intBits a:Int)*b<=64*b:=Int.mul_le_mul_of_nonneg_right (by omega) q1
   _<=2 ^ 27:=Int.le_trans (Int.mul_le_mul_of_nonneg_left q2 (by decide)) (by decide)
 | shl=>
  obtain⟨⟨q1,q2,q3⟩,rfl⟩:=iG h;exact PyProof.Rows.lshift_int_small q1 (by omega) (of_decide_eq_true q3) (k _ _)
 | shr=>
  obtain⟨q,rfl⟩:=iG h;exact PyProof.Rows.rshift_int q (k _ _)
 | and=>
  obtain⟨q,rfl⟩:=iG h;refine PyProof.Rows.and_int ?_;rw[zaL q.1 q.2];exact k _ _
 | or=>
  obtain⟨q,rfl⟩:=iG h;refine PyProof.Rows.or_int ?_;rw[zcD q.1 q.2];exact k _ _
end
end
section
structure CfgOk (c:Cfg):Prop where
 nm:∀ i j,c.nm i=c.nm j->i=j
 mods:(c.base.get? sysModules).isSome
theorem CfgOk.notMods {c:Cfg}(C:CfgOk c){x:Addr}(h:c.base.get? x=re):(x==sysModules)=false:=by
 cases q:x==sysModules with
 | false=>rfl
 | true=>
  have:=qL q;subst this;have:=C.mods;rw[h] at this;cases this
section
variable {c:Cfg}{A:qZ}{fs:List Env}{X U:List Addr}{J:MH}{s:Shared}
theorem OR.isList {h:Heap}{a:Nat}{xs:List V}{ob:Obj}{x:Addr}(r:OR c U h a (.lst xs) ob)(ho:s.heap.get? x=rc ob):∃ its,s.heap.IsList x its.toArray/\VRs c U h xs its:=by
 exact el22 r.inv λits n e v=>bf its ⟨_,ho,e▸rfl,n,e▸rfl⟩ v
theorem OR.isClist {h:Heap}{a:Nat}{xs:List V}{ob:Obj}{x:Addr}(r:OR c U h a (.clst xs) ob)(ho:s.heap.get? x=rc ob):∃ its,s.heap.IsList x its.toArray/\VRs c U h xs its:=by
 exact ot r.inv λits n _ _ e v=>bf its ⟨_,ho,e▸rfl,n,e▸rfl⟩ v
theorem OR.dct' {h:Heap}{a:Nat}{ob:Obj}{es:List (Int×V)}(r:OR c U h a (.dct es) ob):∃ kvs,cy (iK c) ob kvs/\All2 (KV c U h (id:Int->Int)) es kvs:=r.inv
theorem OR.cdct' {h:Heap}{a:Nat}{ob:Obj}{es:List (Int×V)}(r:OR c U h a (.cdct es) ob):∃ x kvs,U[a]? = rc x/\c.base.get? x=rc ob/\(x==sysModules)=rj/\cy (iK c) ob kvs/\All2 (KV c U h (id:Int->Int)) es kvs:=r.inv
theorem z4B (a b:List UInt8)(t u:Tok):SeqAt.EqAt A s (.bytes a.toArray t) (.bytes b.toArray u) (a==b):=λprog w E Q h=>by
 unfold eqBool;refine qm ?_;refine wpAny_ite_split (λhab=>?_) (λ_=>?_)
 ·have e:a=b:=by have:=qL hab;injection this with z _;injection z
  subst e;exact qE (wpAny_rule (qF (by simpa using h)))
 ·exact qE (PySem.W.eq_bytes (pL h))
theorem zaP (C:CfgOk c)(a b:Nat):(c.nm a==c.nm b)=(a==b):=by
 rw[Bool.eq_iff_iff,beq_iff_eq,beq_iff_eq];exact⟨C.nm _ _,λh=>by rw[h]⟩
theorem bE {Y:Type}{x:Y}{P:Prop}(e:(re:Option Y)=rc x):P:=by cases e
theorem z7m (C:CfgOk c){h:Heap}{x y:V}{v u:Value}{r:Bool}(rv:VR c U h x v)(ru:VR c U h y u)(e:V.eqq x y=rc r):SeqAt.EqAt A s v u r/\SeqAt.RcAt A s v u r/\SeqAt.RcNeAt A s v u (!r):=by
 induction x with
 | none=>induction y with
  | none=>obtain rfl:=qb e;rw[rv.inv_none,ru.inv_none];exact⟨SeqAt.EqAt.same _,SeqAt.RcAt.none_none,SeqAt.RcNeAt.none_none⟩
  | _=>exact bE e
 | bool b=>induction y with
  | bool b'=>obtain rfl:=qb e;rw[rv.inv_bool,ru.inv_bool];exact⟨SeqAt.EqAt.bool_bool _ _,SeqAt.RcAt.bool_bool _ _,SeqAt.RcNeAt.bool_bool _ _⟩
  | _=>exact bE e
 | int i=>induction y with
  | int j=>obtain rfl:=qb e;refine VR.intC rv λt=>?_;refine VR.intC ru λt'=>?_;exact⟨SeqAt.EqAt.int_int _ _ _ _,SeqAt.RcAt.int_int _ _ _ _,SeqAt.RcNeAt.int_int _ _ _ _⟩
  | _=>exact bE e
 | str k=>induction y with
  | str k'=>obtain rfl:=qb e;refine VR.strC rv λt=>?_;refine VR.strC ru λt'=>?_;rw[<-zaP C];exact⟨SeqAt.EqAt.str_str _ _ _ _,SeqAt.RcAt.str_str _ _ _ _,SeqAt.RcNeAt.str_str _ _ _ _⟩
  | _=>exact bE e
 | bytes b=>induction y with
  | bytes b'=>obtain rfl:=qb e;refine VR.bytesC rv λt=>?_;refine VR.bytesC ru λt'=>?_;exact⟨z4B _ _ _ _,λprog w E Q h=>PySem.W.eq_bytes h,λprog w E Q h=>PySem.W.ne_bytes h⟩
  | _=>exact bE e
 | _=>exact bE e
theorem z7l (C:CfgOk c){h:Heap}:∀ {xs ys:List V}{vs us:List Value}{r:Bool},VRs c U h xs vs->VRs c U h ys us->V.eqAll xs ys=rc r->xs.length=ys.length->
  ∃ e:Nat->Bool,(∀ j (h1:j<vs.length)(h2:j<us.length),SeqAt.EqAt A s vs[j] us[j] (e j))/\(List.range vs.length).all e=r:=by
 intro xs ys vs us r hx
 induction hx generalizing ys us r with
 | nil=>
  intro hy e hl
  induction hy with
  | nil=>exact bf (λ_=>rg) (λj h1=>absurd h1 (Nat.not_lt_zero _)) (by cases e;rfl)
  | cons _ _=>cases hl
 | @cons x v xs vs a as ih=>
  intro hy e hl
  induction hy with
  | nil=>cases hl
  | @cons y u ys us b bs=>
   replace e:(match V.eqq x y,V.eqAll xs ys with | some x,rc y=>rc (x&&y) | _,_=>Option.none)=rc r:=e;cases e1:V.eqq x y with
   | none=>replace e:=e1▸e;cases e
   | some p=>
    cases e2:V.eqAll xs ys with
    | none=>rw[e1,e2] at e;cases e
    | some q=>
     rw[e1,e2] at e
     cases e
     refine el12 (ih bs e2 (Nat.succ.inj hl)) λe' h1 h2=>?_
     refine bf (λj=>match j with | 0=>p | j+1=>e' j) (λj=>?_) ?_
     ·induction j with
      | zero=>exact λ_ _=>(z7m C a b e1).1
      | succ j=>exact λh3 h4=>h1 j (oV h3) (oV h4)
     ·rw[pT,List.range_succ_eq_map,List.all_cons,List.all_map]
      show(p&&(List.range vs.length).all e')=_;rw[h2]
theorem z43 (C:CfgOk c){h:Heap}{x y:Addr}{xs ys:List V}{is js:List Value}{r:Bool}(hu:A.units<cLine)(hx:s.heap.IsList x is.toArray)(hy:s.heap.IsList y js.toArray)(rx:VRs c U h xs is)(ry:VRs c U h ys js)
  (e:(if xs.length=ys.length then V.eqAll xs ys else rc rj)=rc r):SeqAt.RcAt A s (.ref x) (.ref y) r/\SeqAt.RcNeAt A s (.ref x) (.ref y) (!r):=by
 have l1:=rx.length;have l2:=ry.length
 split at e
 ·rename_i q
  refine el12 (z7l (A:=A.in1) (s:=s) C rx ry e q) λe' h1 h2=>?_
  subst h2;have hs:is.toArray.size=js.toArray.size:=l1.symm.trans (q.trans l2)
  have hh:∀ j (h3:j<is.toArray.size)(h4:j<js.toArray.size),SeqAt.EqAt A.in1 s is.toArray[j] js.toArray[j] (e' j):=λj h3 h4=>by
   simpa using h1 j h3 h4
  exact⟨by have:=SeqAt.RcAt.lists hx hy hs hu hh;simpa using this,by have:=SeqAt.RcNeAt.lists hx hy hs hu hh;simpa using this⟩
 ·rename_i q
  cases e
  have hs:(is.toArray.size != js.toArray.size)=true:=bne_iff_ne.mpr λh=>q (l1.trans (Eq.trans h l2.symm))
  exact⟨SeqAt.RcAt.lists_lengths hx hy hs hu,SeqAt.RcNeAt.lists_lengths hx hy hs hu⟩
theorem M.assoc {Y β γ:Type}(x:M Y)(f:Y->M β)(g:β->M γ):(x >>= f) >>= g=x >>= λa=>f a >>= g:=by
 funext J
 show M.bind (M.bind x f) g J=M.bind x (λa=>M.bind (f a) g) J;unfold M.bind;cases x J <;> rfl
noncomputable abbrev iL:List Addr->Heap->Bool->Value->Prop:=λ_ _ b v=>v = .bool b
theorem Sat.both {neg:Bool}{p q:CmpOp}{v u:Value}{r:Bool}(h1:∀ (E:VP)(Q:VP),Q (.bool r) s->wpAny (model c.prog c.w) A (qM p v u) Q E s)(h2:∀ (E:VP)(Q:VP),Q (.bool !r) s->wpAny (model c.prog c.w) A (qM q v u) Q E s):
  Sat c A fs X U J s (.ok (if neg then !r else r) J) iL (qM (if neg then q else p) v u):=Sat.any λQ E S _ ok _=>by
 have k:=ok (if neg then !r else r) J U (.bool (if neg then !r else r)) s rfl S .refl rfl;cases neg with
 | false=>exact h1 E Q k
 | true=>exact h2 E Q k
theorem z5w (C:CfgOk c){n:Nat}(Rm:Room n A fs){neg:Bool}{x y:V}{v u:Value}(rx:VR c U s.heap x v)(ry:VR c U s.heap y u):
  Sat c A fs X U J s ((do let b<-eqV x y;pure (if neg then !b else b):M Bool) J) iL (qM (if neg then .NotEq else .Eq) v u):=by
 have fin:∀ {r:Bool},SeqAt.RcAt A s v u r/\SeqAt.RcNeAt A s v u (!r)->Sat c A fs X U J s (.ok (if neg then !r else r) J) iL (qM (if neg then .NotEq else .Eq) v u):=λh=>Sat.both (h.1 c.prog c.w) (h.2 c.prog c.w)
 have plain:∀ {o:Option Bool},V.eqq x y=o->Sat c A fs X U J s ((M.lift o >>= λb=>(pure (if neg then !b else b):M Bool)) J) iL (qM (if neg then .NotEq else .Eq) v u):=λ{o} e=>
  Sat.lift λr q=>fin (z7m C rx ry (e.trans q)).2
 induction x with
 | ref a=>
  induction y with
  | ref b=>
   refine el12 rx.inv_ref λp ez1=>?_;subst ez1;intro hp
   refine el12 ry.inv_ref λq ez2=>?_;subst ez2;intro hq
   show Sat c A fs X U J s (((M.read a >>= _) >>= _:M Bool) J) _ _;rw[M.assoc];refine Sat.read hp λo ob e1 e2 r1 n1=>?_
   show Sat c A fs X U J s (((M.read b >>= _) >>= _:M Bool) J) _ _;rw[M.assoc];refine Sat.read hq λo' ob' e3 e4 r2 n2=>?_
   induction o with
   | lst xs=>
    induction o' with
    | lst ys=>
     obtain⟨is,h1,h2⟩:=r1.isList e2;obtain⟨js,h3,h4⟩:=r2.isList e4;exact Sat.lift λr q=>fin (z43 C Rm.cl h1 h3 h2 h4 q)
    | _=>exact ap
   | clst xs=>
    induction o' with
    | lst ys=>
     obtain⟨is,h1,h2⟩:=r1.isClist e2;obtain⟨js,h3,h4⟩:=r2.isList e4;exact Sat.lift λr q=>fin (z43 C Rm.cl h1 h3 h2 h4 q)
    | _=>exact ap
   | dct xs=>
    induction o' with
    | dct ys=>
     induction ys with
     | nil=>
      refine aw λ_ Z9=>?_
      refine el12 r1.dct' λkvs d1 k1=>?_
      refine el12 r2.dct' λkvs2 d2 k2=>?_
      obtain rfl:kvs2=[]:=oK k2.length.symm;refine Z9 ?_;have ka:kvs.length=([]:List (Int×Value)).length->KeqHits A.in1 s [] kvs true:=λe=>by
       obtain rfl:kvs=[]:=oK e;exact .nil
      have e:(kvs.length==([]:List (Int×Value)).length&&rg)=(xs.length==0):=by rw[Bool.and_true,k1.length];rfl
      exact Sat.both (r:=xs.length==0) (λE Q h=>keq_eq (knd:=iK c) (C.notMods (n1 rfl)) (C.notMods (n2 rfl)) (d1.at e2) (d2.at e4) Rm.cl ka (by rw[e];exact h))
       (λE Q h=>keq_ne (knd:=iK c) (C.notMods (n1 rfl)) (C.notMods (n2 rfl)) (d1.at e2) (d2.at e4) Rm.cl ka (by rw[e];exact h))
     | cons=>exact ap
    | _=>exact ap
   | _=>exact ap
  | _=>exact plain rfl
 | _=>exact plain rfl
theorem z5U {h:Heap}{i:Int}{t:Tok}{xs:List V}{its:List Value}(r:VRs c U h xs its):∀ {r:Bool},fp i xs=rc r->
  (∀ y∈its,SeqAt.EqAt A s y (.int i t) (isInt i y))/\its.any (isInt i)=r:=by
 induction r with
 | nil=>exact λe=>⟨(λ_ h=>nomatch h),qb e⟩
 | @cons x v xs its a as ih=>
  intro r e
  induction x with
  | int j=>
   refine el12 (Option.map_eq_some_iff.mp e) λr' e1 e2=>?_
   subst e2;refine VR.intC a λt'=>?_
   refine bX (ih e1) λh1 h2=>?_
   refine⟨λy hy=>?_,?_⟩
   ·refine Or.elim (List.mem_cons.mp hy) (λz=>?_) (λz=>?_)
    ·subst z;exact SeqAt.EqAt.int_int _ _ _ _
    ·exact h1 y z
   ·simp only[List.any_cons,h2];rfl
  | _=>cases e
theorem iC (c:Cfg)(i:Int)(t:Tok):(iK c).is i (.int i t)=true:=by
 show Value.isInt i (.int i t)=rg;simp[Value.isInt]
theorem zaz (c:Cfg)(i:Nat)(t:Tok):(sK c).is (c.nm i) (.str (c.nm i) t)=true:=by
 show Value.isStrOf (c.nm i) (.str (c.nm i) t)=rg;simp[Value.isStrOf]
theorem iD:∀ i j:Int,id i=id j->i=j:=λ_ _ h=>h
theorem dE {h:Heap}{i:Int}{es:List (Int×V)}{kvs:List (Int×Value)}(k:All2 (KV c U h (id:Int->Int)) es kvs):(valueAt kvs i).isSome=(af i es).isSome:=by
 have:=gW (c:=c) (f:=(id:Int->Int)) iD (k:=i) k;cases q:af i es with
 | some v=>
  rw[q] at this
  obtain⟨v',e1,_⟩:=this;exact congrArg Option.isSome e1
 | none=>
  rw[q] at this
  exact congrArg Option.isSome this
theorem z5x (C:CfgOk c){n:Nat}(Rm:Room n A fs){neg:Bool}{x y:V}{v u:Value}(rx:VR c U s.heap x v)(ry:VR c U s.heap y u):
  Sat c A fs X U J s ((do let b<-inV x y;pure (if neg then !b else b):M Bool) J) iL (qM (if neg then .NotIn else .In) v u):=by
 induction y with
 | ref b=>
  refine VR.refC ry λq hq=>?_
  have dict:∀ {es:List (Int×V)}{kvs:List (Int×Value)}{i:Int}{t:Tok},(q==sysModules)=rj->s.heap.DictOf (iK c) q kvs->All2 (KV c U s.heap (id:Int->Int)) es kvs->
    Sat c A fs X U J s (.ok (if neg then !(af i es).isSome else(af i es).isSome) J) iL (qM (if neg then .NotIn else .In) (.int i t) (.ref q)):=λ{es kvs i t} m d k=>by
   refine Sat.any λQ E S _ ok _=>?_
   have k':=ok (if neg then !(af i es).isSome else(af i es).isSome) J U (.bool (if neg then !(af i es).isSome else(af i es).isSome)) { s with toks:=s.toks+1 } rfl S .refl rfl
   induction neg with
   | false=>exact wpAny_in_of (knd:=iK c) (iC c i t) m d.mapOf (by rw[dE k];exact k')
   | true=>exact wpAny_notIn_of (knd:=iK c) (iC c i t) m d.mapOf (by rw[dE k];exact k')
  show Sat c A fs X U J s (((M.read b >>= _) >>= _:M Bool) J) _ _;rw[M.assoc];refine Sat.read hq λo ob e1 e2 r1 n1=>?_
  induction o with
  | lst xs=>
   induction x with
   | int i=>
    refine VR.intC rx λt=>?_
    refine el12 (r1.isList e2) λis h1 h2=>?_
    refine Sat.lift λr e=>?_
    obtain⟨k1,k2⟩:=z5U (A:=A.in1) (s:=s) (t:=t) h2 e;have e3:is.toArray.any (isInt i)=r:=by simpa using k2
    exact Sat.both (λE Q k=>SeqAt.in_listAt _ h1 (λy hy=>k1 y (by simpa using hy)) (by rw[e3];exact k)) (λE Q k=>SeqAt.notIn_listAt _ h1 (λy hy=>k1 y (by simpa using hy)) (by rw[e3];exact k))
   | _=>exact ap
  | dct es=>
   induction x with
   | int i=>
    refine VR.intC rx λt=>?_
    refine el12 r1.dct' λkvs d k=>?_
    exact dict (C.notMods (n1 rfl)) (d.at e2) k
   | _=>exact ap
  | cdct es=>
   induction x with
   | int i=>
    refine VR.intC rx λt=>?_
    refine aw λ_ Z9=>?_
    refine zc8 r1.cdct' λx kvs hx _ m d k=>?_
    obtain rfl:=qb (hq.symm.trans hx);refine Z9 ?_;exact dict m (d.at e2) k
   | _=>exact ap
  | _=>exact ap
 | _=>exact ap
theorem z5Y {h:Heap}{x y:V}{v u:Value}{r:Bool}(rx:VR c U h x v)(ry:VR c U h y u)(e:V.isK x y=rc r):plainIs v u=rg/\(v==u)=r:=by
 induction y with
 | none=>
  refine VR.noneC ry ?_
  induction x with
  | none=>obtain rfl:=qb e;refine VR.noneC rx ?_;exact⟨rfl,rfl⟩
  | ref a=>obtain rfl:=qb e;refine VR.refC rx λp _=>?_;exact⟨rfl,rfl⟩
  | int i=>obtain rfl:=qb e;refine VR.intC rx λp=>?_;exact⟨rfl,rfl⟩
  | t2 a b=>obtain rfl:=qb e;refine fk rx.inv_t2 λp ez1=>?_;subst ez1;exact⟨rfl,rfl⟩
  | str k=>obtain rfl:=qb e;refine VR.strC rx λp=>?_;exact⟨rfl,rfl⟩
  | _=>exact bE e
 | _=>exact bE e
theorem z5y {neg:Bool}{x y:V}{v u:Value}(rx:VR c U s.heap x v)(ry:VR c U s.heap y u):
  Sat c A fs X U J s ((do let b<-isV x y;pure (if neg then !b else b):M Bool) J) iL (qM (if neg then .IsNot else .Is) v u):=by
 have plain:∀ {o:Option Bool},V.isK x y=o->Sat c A fs X U J s ((M.lift o >>= λb=>(pure (if neg then !b else b):M Bool)) J) iL (qM (if neg then .IsNot else .Is) v u):=λ{o} e0=>Sat.lift λr e=>by
  obtain⟨p,q⟩:=z5Y rx ry (e0.trans e);exact Sat.both (λE Q k=>wpAny_is_plain p (q.symm▸k)) (λE Q k=>wpAny_isNot_plain p (q.symm▸k))
 induction x with
 | ref a=>
  induction y with
  | ref b=>
   refine VR.refC rx λp hp=>?_
   refine VR.refC ry λq hq=>?_
   show Sat c A fs X U J s (((M.read a >>= _) >>= _:M Bool) J) _ _;rw[M.assoc];refine Sat.read hp λo ob e1 e2 r1 n1=>?_
   induction o with
   | inst k d=>
    refine Sat.ret (Sat.using λS=>?_);refine np (S.mem_lt (pv hq)) λ_ _ ob' _ _ z5 _=>?_
    have hc:ob.cls≠.type "tuple":=by cases r1;simp
    refine if hpq:p=q then ?_ else ?_
    ·subst hpq
     obtain rfl:=S.inj hp hq;exact Sat.both (λE Q k=>wpAny_is_ref_self (by rw[beq_self_eq_true] at k;exact k)) (λE Q k=>wpAny_isNot_ref_self (by rw[beq_self_eq_true] at k;exact k))
    ·have eb:(a==b)=false:=beq_eq_false_iff_ne.mpr λz=>hpq (qb ((z▸hp).symm.trans hq))
     exact Sat.both (λE Q k=>wpAny_is_ref_other hpq e2 z5 hc (by rw[eb] at k;exact k)) (λE Q k=>wpAny_isNot_ref_other hpq e2 z5 hc (by rw[eb] at k;exact k))
   | _=>exact ap
  | _=>exact plain rfl
 | _=>exact plain rfl
theorem iX {f:Int->Int->Bool}{o:CmpOp}{x y:V}{v u:Value}(rx:VR c U s.heap x v)(ry:VR c U s.heap y u)(k:∀ a b t t' (Q:VP)(E:VP),Q (.bool (f a b)) s->wpAny (model c.prog c.w) A (qM o (.int a t) (.int b t')) Q E s):Sat c A fs X U J s (nK f x y J) iL (qM o v u):=by
 refine Sat.lift λi hi=>Sat.lift λj hj=>?_
 obtain rfl:=V.int_e hi;obtain rfl:=V.int_e hj;refine VR.intC rx λt=>?_
 refine VR.intC ry λt'=>?_
 exact Sat.any λQ E S _ ok _=>k _ _ _ _ _ _ (ok (f i j) J U (.bool (f i j)) s rfl S .refl rfl)
theorem hG (C:CfgOk c){n:Nat}(Rm:Room n A fs){op:COp}{x y:V}{v u:Value}(rx:VR c U s.heap x v)(ry:VR c U s.heap y u):
  Sat c A fs X U J s (aP op x y J) iL (qM (cop op) v u):=by
 have p2:∀ {m:M Bool},m=(do let b<-m;pure (if rj=rg then !b else b):M Bool):=by
  intro m;funext J;show m J=M.bind m _ J;unfold M.bind;cases m J <;> rfl
 induction op with
 | eq=>rw[(p2:aP .eq x y=_)];exact z5w (neg:=rj) C Rm rx ry
 | ne=>exact z5w (neg:=rg) C Rm rx ry
 | isin=>rw[(p2:aP .isin x y=_)];exact z5x (neg:=rj) C Rm rx ry
 | notin=>exact z5x (neg:=rg) C Rm rx ry
 | is=>rw[(p2:aP .is x y=_)];exact z5y (neg:=rj) rx ry
 | isnot=>exact z5y (neg:=rg) rx ry
 | lt=>exact iX rx ry λ_ _ _ _ _ _ h=>PyProof.Rows.lt_int h
 | le=>exact iX rx ry λ_ _ _ _ _ _ h=>PyProof.Rows.le_int h
 | gt=>exact iX rx ry λ_ _ _ _ _ _ h=>PyProof.Rows.gt_int h
 | ge=>exact iX rx ry λ_ _ _ _ _ _ h=>PyProof.Rows.ge_int h
end
end
section
section
variable {c:Cfg}{A:qZ}{fs:List Env}{X U:List Addr}{J:MH}{s:Shared}{h:Heap}{a:Nat}{ob:Obj}
theorem OR.lst' {xs:List V}(r:OR c U h a (.lst xs) ob):∃ its n,ob=bI its n/\VRs c U h xs its:=r.inv
theorem OR.lstG {xs:List V}{p:Addr}(r:OR c U h a (.lst xs) ob)(e:h.get? p=rc ob){G:Prop}(k:∀ its n,h.get? p=rc (bI its n)->VRs c U h xs its->G):G:=
 el22 r.lst' λits n q v=>k its n (q▸e) v
theorem St.lstP {fs:List Env}{U:List Addr}{J:MH}{h:Heap}(S:St c fs U J h){a:Nat}{p:Addr}{xs:List V}(hp:U[a]? = rc p)(e:J.get a=rc (.lst xs)){G:Prop}(k:∀ its m,h.get? p=rc (bI its m)->VRs c U h xs its->G):G:=
 S.objP hp e λ_ e2 r _=>r.lstG e2 k
theorem OR.sd' {es:List (Nat×V)}(r:OR c U h a (.sd es) ob):∃ kvs,cy (sK c) ob kvs/\All2 (KV c U h c.nm) es kvs:=r.inv
theorem z8m {op:BOp}{x y:V}{v u:Value}(rx:VR c U s.heap x v)(ry:VR c U s.heap y u):Sat c A fs X U J s (fc op x y J) (VR c) (binaryOp (bop op) v u):=by
 induction x with
 | int a=>
  induction y with
  | int b=>
   refine VR.intC rx λt=>?_
   refine VR.intC ry λt'=>?_
   exact Sat.lift λr e=>z8l e
  | _=>exact ap
 | bytes b=>
  induction y with
  | bytes b'=>
   refine VR.bytesC rx λt=>?_
   refine VR.bytesC ry λt'=>?_
   induction op with
   | add=>
    refine Sat.guardD λg=>?_
    refine Sat.any λQ E S _ ok _=>?_
    refine KBy.add_bytes (by simp only[pM];unfold lim at g;omega) λt' k=>?_
    have e:b.toArray++b'.toArray=(b++b').toArray:=by simp
    refine e▸?_;exact ok (.bytes (b++b')) J U (.bytes (b++b').toArray t') { s with toks:=k } rfl S .refl (.bytes _ _)
   | _=>exact ap
  | int i=>
   refine VR.bytesC rx λt=>?_
   refine VR.intC ry λt'=>?_
   induction op with
   | mul=>
    refine Sat.guard λg=>?_
    obtain⟨g1,g2,g3,g4⟩:=of_decide_eq_true g;exact Sat.any λQ E S _ ok _=>bytes_mul_any g1 (by omega) (by omega) g2 λt' k=>ok _ J U _ { s with toks:=k } rfl S .refl (.bytes _ _)
   | _=>exact ap
  | _=>exact ap
 | ref a=>
  induction y with
  | ref b=>
   refine VR.refC rx λp hp=>?_
   refine VR.refC ry λq hq=>?_
   induction op with
   | add=>
    refine Sat.read hp λo ob e1 e2 r1 n1=>?_
    refine Sat.read hq λo' ob' e3 e4 r2 n2=>?_
    induction o with
    | lst xs=>
     induction o' with
     | lst ys=>
      obtain⟨is,n,rfl,rx⟩:=r1.lst';obtain⟨js,m,rfl,ry⟩:=r2.lst';refine Sat.guard λgl=>?_
      have gl:=of_decide_eq_true gl;simp only[pF,rx.length,ry.length] at gl
      have gl:=br gl;refine Sat.any λQ E S _ ok _=>?_
      have E':Evo fs X U s.heap (U++[s.heap.objs.size]) (s.heap.push (bI (is++js) 0)):=Evo.alloc _;have k:=ok _ _ _ (.ref s.heap.objs.size) { s with heap:=s.heap.push (bI (is++js) 0) } rfl (S.alloc (o:=.lst (xs++ys)) rfl (.lst (VRs.evo E' (rx.append ry)))) E' (.ref (by rw[S.len];simp));refine concat_meets ⟨_,e2,rfl⟩ ⟨_,e4,rfl⟩ noFill_list_add seq_list_add PySem.F.slot_list_add PySem.F.entry_list_add (PySem.F.args_list_add_2 _ _)
       (list_addW p q is.toArray js.toArray n m re re #[] #[] gl) ⟨e2,e4,?_⟩
      have e:is.toArray++js.toArray=(is++js).toArray:=by simp
      refine e▸?_;exact k
     | _=>exact ap
    | _=>exact ap
   | _=>exact ap
  | _=>exact ap
 | _=>exact ap
theorem z3P {K κ:Type} [DecidableEq K] [DecidableEq κ]{knd:KeyKind c.prog c.w K}{f:κ->K}(hf:∀ i j,f i=f j->i=j){k:κ}{key:Value}{p:Addr}{es:List (κ×V)}{kvs:List (K×Value)}(hk:knd.is (f k) key=rg)(D:cy knd ob kvs)(e2:s.heap.get? p=rc ob)(r:All2 (KV c U s.heap f) es kvs):
  Sat c A fs X U J s (M.lift (af k es) J) (VR c) (getItem (.ref p) key):=Sat.lift1 λr' e=>by
 have:=gW hf (k:=k) r;rw[e] at this
 obtain⟨v',e3,e4⟩:=this;exact Sat.any λQ E S _ ok _=>wpAny_getItem_of hk (D.at e2).mapOf e3 (ok _ _ _ _ { s with toks:=s.toks+1 } rfl S .refl e4)
theorem z2h (C:CfgOk c){x y:V}{v u:Value}(rx:VR c U s.heap x v)(ry:VR c U s.heap y u):Sat c A fs X U J s (cg x y J) (VR c) (getItem v u):=by
 induction x with
 | ref a=>
  refine VR.refC rx λp hp=>?_
  refine Sat.read hp λo ob e1 e2 r1 n1=>?_
  induction o with
  | lst xs=>
   induction y with
   | int k=>
    refine VR.intC ry λt=>?_
    refine Sat.guard λg=>?_
    refine aw λ_ Z9=>?_
    refine bX (of_decide_eq_true g) λg1 g2=>?_
    refine el12 (r1.isList e2) λis h1 h2=>?_
    refine Z9 ?_;refine Sat.lift1 λr e=>?_
    refine el12 (h2.get e) λw e3 e4=>?_
    exact Sat.any λQ E S _ ok _=>wpAny_getItem_list h1 g1 g2 (by simpa using e3) (ok _ _ _ _ s rfl S .refl e4)
   | _=>exact ap
  | dct es=>
   induction y with
   | int k=>
    refine VR.intC ry λt=>?_
    refine el12 r1.dct' λkvs d r=>?_
    exact z3P (f:=(id:Int->Int)) iD (iC c k t) d e2 r
   | _=>exact ap
  | sd es=>
   induction y with
   | str k=>
    refine VR.strC ry λt=>?_
    refine el12 r1.sd' λkvs d r=>?_
    exact z3P C.nm (zaz c k t) d e2 r
   | _=>exact ap
  | _=>exact ap
 | _=>exact ap
noncomputable abbrev o9:List Addr->Heap->Unit->Unit->Prop:=λ_ _ _ _=>True
theorem z3i {its its':List Value}{n:Nat}{x:Addr}(ho:s.heap.get? x=rc (bI its n))(f:Array Value->Array Value)(he:f its.toArray=its'.toArray):∃ n',(s.heap.update x (Obj.mapSeq f)).get? x=rc (bI its' n'):=by
 have:=PySem.IsL.update (h:=s.heap) (l:=x) (n:=n) (items:=its.toArray) ho f;rw[he] at this
 exact⟨_,this⟩
theorem z2i (C:CfgOk c){x y z:V}{v u w:Value}(rx:VR c U s.heap x v)(ry:VR c U s.heap y u)(rz:VR c U s.heap z w):Sat c A fs X U J s (cG x y z J) o9 (setItem v u w):=by
 induction x with
 | ref a=>
  refine VR.refC rx λp hp=>?_
  refine Sat.read hp λo ob e1 e2 r1 n1=>?_
  induction o with
  | lst xs=>
   induction y with
   | int k=>
    refine VR.intC ry λt=>?_
    refine Sat.guard λg=>?_
    refine aw λ_ Z9=>?_
    refine gh (of_decide_eq_true g) λg1 g2 g3=>?_
    refine r1.lstG e2 λits n e2 r=>?_
    refine Z9 ?_;refine Sat.write (b:=()) (x:=p) hp e2 (n1 rfl) fQ (λQ E q=>?_) (λ_ _=>trivial);obtain⟨n',e⟩:=z3i e2 (·.setIfInBounds k.toNat w) (its':=its.set k.toNat w) (by simp);refine ki_setAt e2 g1 g2 (by rw[pM,<-r.length];exact(Int.toNat_lt g1).mp g3) (q _ _ _ (pB ..) e (.lst (r.set rz)))
   | _=>exact ap
  | dct es=>
   induction y with
   | int k=>
    refine VR.intC ry λt=>?_
    refine Sat.guardD λg=>?_
    obtain⟨kvs,d,r⟩:=r1.dct';refine Sat.write (b:=()) (x:=p) hp e2 (n1 rfl) r1.unfrozen (λQ E q=>?_) (λ_ _=>trivial);refine wpAny_setItem_pairs (knd:=iK c) (iC c k t) (d.at e2) (λh' hd hs=>?_) (by refine r.length▸?_;exact br g);obtain⟨ob',e',d'⟩:=cy.of hd;exact q h' _ ob' hs e' (.dct d' (z7P (f:=(id:Int->Int)) iD rz r d.nodup))
   | _=>exact ap
  | sd es=>
   induction y with
   | str k=>
    refine VR.strC ry λt=>?_
    refine Sat.guardD λg=>?_
    obtain⟨kvs,d,r⟩:=r1.sd';refine Sat.write (b:=()) (x:=p) hp e2 (n1 rfl) r1.unfrozen (λQ E q=>?_) (λ_ _=>trivial);refine wpAny_setItem_pairs (knd:=sK c) (zaz c k t) (d.at e2) (λh' hd hs=>?_) (by rw[<-r.length];exact br (by unfold lim;omega));obtain⟨ob',e',d'⟩:=cy.of hd;exact q h' _ ob' hs e' (.sd d' (z7P C.nm rz r d.nodup))
   | _=>exact ap
  | _=>exact ap
 | _=>exact ap
theorem z50 {x y:V}{v u:Value}(rx:VR c U s.heap x v)(ry:VR c U s.heap y u):Sat c A fs X U J s (i5 x y J) o9 (delItem v u):=by
 induction x with
 | ref a=>
  refine VR.refC rx λp hp=>?_
  refine Sat.read hp λo ob e1 e2 r1 n1=>?_
  induction o with
  | lst xs=>
   induction y with
   | int k=>
    refine VR.intC ry λt=>?_
    refine Sat.guard λg=>?_
    refine aw λ_ Z9=>?_
    refine kO (of_decide_eq_true g) λg1 g2 g3 g4=>?_
    refine r1.lstG e2 λits n e2 r=>?_
    refine Z9 ?_;have hl:=r.length;refine Sat.write (b:=()) (x:=p) hp e2 (n1 rfl) fQ (λQ E q=>?_) (λ_ _=>trivial);refine delItem_at e2 (by unfold Builtin.List.listFitsIndex;simp only[pU,decide_eq_true_eq,decide_eq_true_eq];exact⟨Int.le_trans (by decide) g1,g2⟩) (k:=k.toNat) ?_ (λh' hs e=>q h' _ _ hs (by simpa using e) (.lst (r.eraseIdx _))) (by rw[pM,<-hl];exact br g4);unfold seqIndex?;have hk:¬ k<0:=by simp_all
    simp only[hk,if_false,pM];rw[if_pos (by simp only[pU,decide_eq_true_eq,decide_eq_true_eq];exact⟨g1,hl▸(Int.toNat_lt g1).mp g3⟩)]
   | _=>exact ap
  | dct es=>
   induction y with
   | int k=>
    refine VR.intC ry λt=>?_
    refine Sat.guard λg=>?_
    simp only[pU,decide_eq_true_eq] at g
    obtain⟨g1,g2⟩:=g;refine el12 r1.dct' λkvs d r=>?_
    refine Sat.write (b:=()) (x:=p) hp e2 (n1 rfl) r1.unfrozen (λQ E q=>?_) (λ_ _=>trivial);refine wpAny_delItem_slot (d.at e2).typeIs (by decide) F.slot_dict_delitem ?_;refine call_meetsIn F.slot_dict_delitem (d.at e2).typeIs F.entry_dict_delitem (F.args_dict_delitem_2 _ _) (meets_dict_delitem_pairs (iK c) p (iC c k t)) ?_;refine oC kvs (d.at e2) (by rw[<-r.length];exact br g2) (by rw[dE r];exact g1) (λh' hd hs=>?_);refine el12 (cy.of hd) λob' e' d'=>?_
    exact q h' _ ob' hs e' (.dct d' (z7O (f:=(id:Int->Int)) iD r d.nodup))
   | _=>exact ap
  | _=>exact ap
 | _=>exact ap
end
end
section
section
variable {prog:qW}{w:World}{A:qZ}{E:VP}{s:Shared}{d:Addr}{kvs:List (Int×Value)}
theorem z3d {ep:Nat}{Q:List Value->Shared->Prop}(hh:A.handled=re)(lo:(d==sysModules)=rj)(hm:s.heap.DictAt (intKind prog w) d kvs ep)(hn:kvs.length<=qS)
  (h:∀ h' tk vs,(∀ b o,s.heap.get? b=rc o->h'.get? b=rc o)->vs.length=kvs.length->(∀ (j:Nat)(v:Value),vs[j]? = rc v->∃ k x,kvs[j]? = rc (k,x)/\(intKind prog w).is k v=rg)->Q vs { s with heap:=h',toks:=tk }):
  wpAny (model prog w) A (collect (.ref d)) Q E s:=by
 unfold collect;refine qE (wpAny_runValue (qc entry_proto_collect' ?_));show wpAny _ _ (do again (.builtin "list.__iadd__" ⟨[<-PySem.newList [],.ref d],[]⟩)) _ _ s;refine qE (wpAny_newList (qF ⟨Code.quiet_builtin _ (by decide +kernel),qc entry_list_iadd' ?_⟩));have hlt:=Nat.ne_of_gt hm.lt_size;rw[pw PySem.F.plain_list_iadd _];show wpAny _ A.in1 (Builtin.List.listExtendWith (.ref s.heap.objs.size) (.ref d) (.ref s.heap.objs.size)) _ _ _;refine kdl_extend (R:=wants (λv s'=>wpAny (model prog w) A (match v with
   | .ref a=>do
    let o<-load a
    match o.data with
    | .seq xs _=>pure xs.toList
    | _=>unsupported "internal:collect"
   | _=>unsupported "internal:collect") Q E s') E) (s:={ s with heap:=s.heap.push (seqObj "list" #[] 0) }) (kdl_dict lo) hh (hm.push _) s.heap.objs.size hlt hlt _ 0 (pA _ rfl) (λh' tk acc c' hk hS hacc=>?_) hn
 show wpAny (model prog w) A (do
   let o<-load s.heap.objs.size
   match o.data with
   | .seq xs _=>pure xs.toList
   | _=>unsupported "internal:collect") Q E _
 refine qE (qG hS ?_);exact qF (h h' tk acc.toList (λb o e=>hk b o (qq (qp e)) (oS _ e)) (by rw[Array.length_toList];exact hacc.1) λj v e=>hacc.2 j v (by rw[<-Array.getElem?_toList];exact e))
theorem z3h {vs:List Value}(hl:vs.length=kvs.length)(h:∀ (j:Nat)(v:Value),vs[j]? = rc v->∃ k x,kvs[j]? = rc (k,x)/\(intKind prog w).is k v=rg):IntsAre vs (kvs.map (·.1)):=by
 induction kvs generalizing vs with
 | nil=>obtain rfl:=oK hl;exact .nil
 | cons p r ih=>
  refine kP (List.exists_cons_of_length_eq_add_one hl) λv vs ez3=>?_;subst ez3
  refine el22 (h 0 v rfl) λk' x' e hk=>?_
  obtain rfl:=qb e;obtain⟨t,rfl⟩:=Value.isInt_shape hk;exact .cons _ t (ih (Nat.succ.inj hl) λj v e=>h (j+1) v e)
theorem z4n {Q:VP}(hh:A.handled=re)(lo:(d==sysModules)=rj)(hd:s.heap.DictOf (intKind prog w) d kvs)(h64:kvs.length<64)
  (h:∀ h' tk D (vs':List Value) ns' e,(∀ b o,s.heap.get? b=rc o->h'.get? b=rc o)->s.heap.get? D=re->h'.get? D=rc (seqObj "list" vs'.toArray e)->IntsAre vs' ns'->ns'.Perm (kvs.map (·.1))->ns'.Pairwise (·<=·)->Q (.ref D) { s with heap:=h',toks:=tk }):
  wpAny (model prog w) A (call (.builtin "sorted") [.ref d]) Q E s:=by
 have sl:=qx;obtain⟨ep,hm⟩:=hd.dictAt;refine call_function_entry kind_sorted plain_sorted entry_sorted (args_sorted1 _) ?_;unfold Builtin.«sorted»;refine qE (m:=checkCount "sorted" 1 1 _) (qF ?_);refine qE (z3d hh lo hm (br (Nat.le_of_lt (Nat.lt_trans h64 (by decide)))) λh1 tk vs k1 hl hv=>?_);have hI:=z3h hl hv;refine qE (wpAny_newList ?_);have ho:(h1.push (seqObj "list" vs.toArray 0)).get? h1.objs.size=rc (seqObj "list" vs.toArray 0):=pA _ rfl;refine qE (qm (PySem.wpAny_call_entry slot_list_sort ⟨_,ho,rfl⟩ entry_list_sort (list_sort_tree ho hI (by omega) λout ns' a1 a2 a3=>⟨_,rfl,?_⟩) (args_list_sort _)));obtain⟨e,he⟩:=sortedHeap_at (vs:=vs) (out:=out) ho;have fresh:s.heap.get? h1.objs.size=none:=by
  cases q:s.heap.get? h1.objs.size with
  | none=>rfl
  | some o=>exact absurd (qp (k1 _ _ q)) (Nat.lt_irrefl _)
 refine qF ⟨_,rfl,h _ _ _ out.toList ns' e (λb o q=>?_) fresh he a1 a2 a3⟩;have lt:=qp (k1 _ _ q);rw[sortedHeap_old (qq lt) (Nat.lt_of_lt_of_le lt (by rw[size_push'];exact Nat.le_succ _))];exact oS _ (k1 _ _ q)
theorem dh (x:Int):∀ l,(lG x l).Perm (x:: l)
 | []=>.refl _
 | y:: r=>by
  show(if x<=y then x:: y:: r else y:: lG x r).Perm _
  split
  ·exact .refl _
  ·exact((dh x r).cons y).trans (.swap x y r)
theorem bP:∀ l,(bW l).Perm l
 | []=>.refl _
 | x:: r=>(dh x _).trans ((bP r).cons x)
theorem z5k (x:Int):∀ l,l.Pairwise (·<=·)->(lG x l).Pairwise (·<=·)
 | []=>λ_=>List.pairwise_singleton ..
 | y:: r=>by
  intro h;obtain⟨h1,h2⟩:=List.pairwise_cons.mp h;show(if x<=y then x:: y:: r else y:: lG x r).Pairwise _
  split
  ·rename_i q
   exact List.pairwise_cons.mpr ⟨λz m=>by rcases List.mem_cons.mp m with e | m;exact e▸q;exact Int.le_trans q (h1 z m),h⟩
  ·rename_i q
   refine List.pairwise_cons.mpr ⟨λz m=>?_,z5k x r h2⟩
   rcases List.mem_cons.mp ((dh x r).mem_iff.mp m) with e | m
   ·exact e▸Int.le_of_lt (Int.not_le.mp q)
   ·exact h1 z m
theorem z4m:∀ l,(bW l).Pairwise (·<=·)
 | []=>.nil
 | x:: r=>z5k x _ (z4m r)
theorem z6E {a l:List Int}(p:a.Perm l)(h:a.Pairwise (·<=·)):a=bW l:=
 List.Perm.eq_of_pairwise (λ_ _ _ _ x y=>Int.le_antisymm x y) h (z4m l) (p.trans (bP l).symm)
end
end
section
section
variable {prog:qW}{w:World}{A:qZ}{E:VP}{s:Shared}
theorem z2c:qH (.type "list") "keys" = pure none:=by rw[qd,oZ];kernel_rfl
theorem z3j {a:Addr}{xs:Array Value}{k:Nat}{Q:Option Value->Shared->Prop}(hx:s.heap.get? a=rc (seqObj "list" xs k))(hA:A.handled=re)
  (h:∀ h' tk,(∀ b o,s.heap.get? b=rc o->h'.get? b=rc o)->Q re { s with heap:=h',toks:=tk }):wpAny (model prog w) A (getAttr? (.ref a) "keys") Q E s:=by
 obtain⟨hp,g,d,tk,os⟩:=s;have hT:∀ tk',(⟨hp,g,d,tk',os⟩:Shared).TypeIs (.ref a) "list":=λ_=>⟨_,hx,rfl⟩
 have f1:=sub_AttributeError;have f3:=F.slot_list_getattribute.lookup;have f4:=F.slot_list_getattribute.bind (.ref a);have f5:=am_list_getattr_none;unfold getAttr? getAttrBy? getAttrBy;repeat (any_goals (first | assumption | exact hT _ | ((with_reducible show wpAny _ _ (call (Value.builtin "list.__getattribute__") _ _) _ _ _);refine call_meets F.slot_list_getattribute (hT _) am_entry_list_getattribute (F.args_list_getattribute_2 _ _) (meets_getattribute_miss_list a xs k #[] "keys" _ z2c (by decide +kernel)) ⟨hx,hA,λh' tk' e hx'=>?_⟩) | wp_step))
 obtain⟨t',u',he⟩:=hx'.there;show wpAny _ _ (getattributeRaised _ _ _ _ _ _ _) _ _ _;unfold getattributeRaised;repeat (any_goals (first | assumption | wp_step))
 exact h _ _ hx'.keeps
theorem z03:entryFor table "dict.update.loop" = rc Builtin.«dict.update.loop»:=pV (by kernel_rfl)
theorem z05:plainId "dict.update.loop" = true:=by decide +kernel
theorem z4R {x:Addr}{v u:Value}{Q:List Value->Shared->Prop}(hx:s.heap.get? x=rc (fY v u))(h:Q [v,u] s):wpAny (model prog w) A (Builtin.Dict.pairItems (.ref x)) Q E s:=by
 unfold Builtin.Dict.pairItems;refine qE (wpAny_typeOf (T:="tuple") ⟨_,hx,rfl⟩ ?_);rw[if_pos (by decide)];exact qE (wpAny_seqItems hx rfl (qF h))
theorem z5Q {h₀:Heap}{l I D:Addr}{its:List Value}{R:r6->Shared->Prop}(hh:A.handled=re)(hl:h₀.IsList l its.toArray)(hI:h₀.get? I=re)(hD:h₀.get? D=re)(hID:I≠D):∀ (r:List (Int×Value))(i:Nat)(kvs:List (Int×Value))(s:Shared),
  (∀ (j:Nat)(p:Int×Value),r[j]? = rc p->∃ x t,its[i+j]? = rc (.ref x)/\h₀.get? x=rc (fY (.int p.1 t) p.2))->its.length=i+r.length->(∀ b o,h₀.get? b=rc o->s.heap.get? b=rc o)->s.heap.IsListIter I l i->s.heap.DictOf (intKind prog w) D kvs->kvs.length+r.length<=1000000->
  (∀ h' tk,(∀ b o,h₀.get? b=rc o->h'.get? b=rc o)->h'.DictOf (intKind prog w) D (r.foldl (λa p=>stored a p.1 p.2) kvs)->R (.ok (.ret .none)) { s with heap:=h',toks:=tk })->
  codeAny (model prog w) A (.builtin "dict.update.loop" ⟨[.ref D,.ref I,r7 i,.none],[]⟩) R s:=by
 have sl:=qx;intro r
 induction r with
 | nil=>
  intro i kvs s hp hn hk hi hd hs hR;refine qc z03 ?_;have hl':s.heap.IsList l its.toArray:=(by obtain⟨o,e,c⟩:=hl;exact bf o (hk _ _ e) c)
  refine qE (wpAny_pyNext_list_end hh hi hl' (by simp[hn]) λh' k=>?_);have kp:∀ b o,h₀.get? b=rc o->h'.get? b=rc o:=λb o e=>k b o (λq=>by obtain rfl:=q.symm;replace e:=hI▸e;cases e) (hk b o e)
  refine qE (qF (qF (hR h' s.toks kp ?_)));refine aw λ_ Z9=>?_
  refine mV hd λo es ep e c=>?_
  refine Z9 ?_;exact zcg o es ep (k D o (qY hID) e) c
 | cons p r ih=>
  intro i kvs s hp hn hk hi hd hs hR;refine el22 (hp 0 p rfl) λx t e1 e2=>?_
  refine qc z03 ?_;have hl':s.heap.IsList l its.toArray:=(by obtain⟨o,e,c⟩:=hl;exact⟨o,hk _ _ e,c⟩)
  refine qE (wpAny_pyNext_list_item hi hl' ((p0 ..).trans e1) λh1 hi1 k1=>?_);have kp:∀ b o,h₀.get? b=rc o->h1.get? b=rc o:=λb o e=>(k1.2 _ (λq=>by obtain rfl:=q.symm;replace e:=hI▸e;cases e)).trans (hk b o e)
  have hd1:h1.DictOf (intKind prog w) D kvs:=by
   refine mV hd λo es ep e c=>?_
   exact⟨o,es,ep,(k1.2 _ (qY hID)).trans e,c⟩
  have hr:kvs.length+(r.length+1)<=1000000:=hs;refine qE (qm (qE (wpAny_tryCatch (z4R (kp _ _ e2) (qm (wpAny_dictSet_pairs (knd:=intKind prog w) (k:=p.1) (intKind_is _ _ _ _) hd1 (λh2 hd2 hs2=>?_) (br (qt (Nat.le_add_right _ _) hr))))))));have kp2:∀ b o,h₀.get? b=rc o->h2.get? b=rc o:=λb o e=>(hs2.2 _ (λq=>by obtain rfl:=q.symm;replace e:=hD▸e;cases e)).trans (kp b o e)
  have hi2:h2.IsListIter I l (i+1):=(by obtain⟨o,e,c⟩:=hi1;exact⟨o,(hs2.2 _ hID).trans e,c⟩)
  have sz:=stored_length_le kvs p.1 p.2;refine qF ⟨plainId_quiet z05 _,ih (i+1) _ _ (λj q e=>?_) (by rw[hn];exact(Nat.succ_add i r.length).symm) kp2 hi2 hd2 (qt (Nat.add_le_add_right sz _) (qt (qu (Nat.succ_add ..)) hr)) λh' tk k hd'=>hR h' tk k hd'⟩;refine el22 (hp (j+1) q e) λx' t' e3 e4=>?_
  exact⟨x',t',by simp only[<-e3];congr 1;exact Nat.succ_add i j,e4⟩
theorem z3e {l:Addr}{its:List Value}{n:Nat}{ps:List (Int×Value)}{Q:VP}(hh:A.handled=re)(hx:s.heap.get? l=rc (seqObj "list" its.toArray n))(hl:its.length=ps.length)(hs:ps.length<=1000000)
  (hp:∀ (j:Nat)(p:Int×Value),ps[j]? = rc p->∃ x t,its[j]? = rc (.ref x)/\s.heap.get? x=rc (fY (.int p.1 t) p.2))
  (h:∀ h' tk D,(∀ b o,s.heap.get? b=rc o->h'.get? b=rc o)->s.heap.get? D=re->h'.DictOf (intKind prog w) D (ps.foldl (λa p=>stored a p.1 p.2) [])->Q (.ref D) { s with heap:=h',toks:=tk }):
  wpAny (model prog w) A (call (.type "dict") [.ref l]) Q E s:=by
 refine callType_codes (Q₁:=λobj s₁=>obj = .ref s.heap.objs.size/\s₁={ s with heap:=s.heap.push { cls:=.type "dict",data:=.dict #[] } }) F.kt_called_dict (F.kt_typeCall_dict_1 _) F.entry_dict_init (kt_code_dict_new _ ⟨rfl,rfl⟩) ?_;rintro obj s₁ ⟨rfl,rfl⟩;have hnew:(s.heap.push { cls:=.type "dict",data:=.dict #[] }).DictOf (intKind prog w) s.heap.objs.size []:=Heap.DictOf.new s.heap;have hx1:(s.heap.push { cls:=.type "dict",data:=.dict #[] }).get? l=rc (seqObj "list" its.toArray n):=oS _ hx;have re:s.heap.get? s.heap.objs.size=none:=aZ _;refine⟨hnew.typeIs,F.args_dict_init_2 _ _,?_⟩;refine qE ?_;refine bQ (λh=>wpAny_notOrdered_dict hnew.typeIs h) ?_;refine qF ?_;show wpAny _ _ (Builtin.Dict.updateFrom "dict.__init__" s.heap.objs.size (.ref l) [] .none) _ _ _;refine qE (wpAny_typeOf (T:="list") ⟨_,hx1,rfl⟩ ?_);refine qE (z3j hx1 hh λh1 tk k1=>?_);refine qE (wpAny_rule ?_);have k01:∀ b o,s.heap.get? b=rc o->h1.get? b=rc o:=λb o e=>k1 _ _ (oS _ e)
 have hx2:=k1 _ _ hx1;refine qE (wpAny_pyIter_list ⟨_,hx2,rfl,_,rfl⟩ ?_);have fr:s.heap.get? h1.objs.size = .none:=by
  cases q:s.heap.get? h1.objs.size with
  | none=>rfl
  | some o=>exact absurd (qp (k01 _ _ q)) (Nat.lt_irrefl _)
 have hd1:(h1.push { cls:=.type "list_iterator",data:=.fields #[.ref l,.int 0 0] }).DictOf (intKind prog w) s.heap.objs.size []:=by
  refine aw λ_ Z9=>?_
  refine mV hnew λo es ep e c=>?_
  refine Z9 ?_;exact zcg o es ep (oS _ (k1 _ _ e)) c
 have ne:h1.objs.size≠s.heap.objs.size:=λq=>by
  refine mV hnew λo _ _ e _=>?_
  exact absurd (qp (k1 _ _ e)) (by rw[q];exact Nat.lt_irrefl _)
 refine qF ⟨plainId_quiet z05 _,z5Q (A:=A.in1) (prog:=prog) (w:=w) (R:=wants (λr s₂=>r=qI/\Q (.ref s.heap.objs.size) s₂) E) (h₀:=s.heap) hh ⟨_,hx,rfl,_,rfl⟩ fr re ne ps 0 [] _ (λj p e=>?_) (by rw[hl,qr]) (λb o e=>oS _ (k01 _ _ e)) ⟨_,pA _ rfl,rfl,rfl⟩ hd1 (by simpa using hs) λh' tk k hd=>?_⟩
 ·rw[qr];exact hp j p e
 ·exact⟨rfl,h h' tk _ k re hd⟩
end
end
section
section
variable {prog:qW}{w:World}{A:qZ}{E:VP}{s:Shared}{R:r6->Shared->Prop}
theorem aL {Y:Type}{M:Model}{t:Sem Y}{a:Y}{Q:Y->Shared->Prop}(h:t=pure a)(hq:Q a s):wpF M A t Q E s:=by rw[h];exact ac hq
theorem i4 {id:String}(h:c7.contains id=rj)(args:Args):cb (.builtin id args)=true:=by
 show(!c7.contains id)=rg;rw[h];rfl
noncomputable abbrev mX (M:Model)(A:qZ)(R:r6->Shared->Prop):PySem.Fin->Shared->Prop:=λfin s'=>match fin with | .done f=>R (.ok f) s' | .again c'=>c'.quiet=rg/\cb c'=rg/\bo M A c' R s'
theorem dM {id:String}{args:Args}{b:Builtin}(hb:entryFor table id=rc b)
  (h:wpF (model prog w) (A.under (.builtin id args)) (b args) (mX (model prog w) A R) (λe s'=>R (.error e) s') s):bo (model prog w) A (.builtin id args) R s:=by
 refine aT ?_;show wpF _ _ (match entryFor table id with | some b=>b args | none=>unsupported ((withoutEnding? id "#data").getD id)) _ _ s;rw[hb];exact h
theorem z0F {id:String}{args:Args}{b:Builtin}(hq:plainId id=rg)(hl:c7.contains id=rj)(hb:entryFor table id=rc b)
  (hc:wpAny (model prog w) A.in1 (pW id args) (λ_ s₁=>s₁=s) (λ_ _=>False) s)
  (h:wpF (model prog w) A.in1 (b args) (mX (model prog w) A R) (λe s'=>R (.error e) s') s):bo (model prog w) A (.call (.builtin id) args) R s:=by
 refine aT ?_;show wpF _ A.in1 (do pW id args;again (.builtin id args)) _ _ s;refine a9 (ao (.of hc) (λ_ s₁ e=>?_) λ_ _ x=>x.elim);subst e;exact ac ⟨plainId_quiet hq args,i4 hl _,dM hb (by rw[pw hq args];exact h)⟩
theorem z4X {T id:String}{name:Str}(slot:Slot T name id){M:Model}{self:Value}{rest:List Value}(hT:s.TypeIs self T)(ha:argsOk id ⟨self:: rest,[]⟩):
  wpAny M A (pW id ⟨self:: rest,[]⟩) (λ_ s₁=>s₁=s) (λ_ _=>False) s:=slot.check _ _ _ _ _ _ _ _ hT ha rfl
theorem dF {T id:String}{name:Str}{b:Builtin}{self:Value}{rest:List Value}{Q:VP}(slot:Slot T name id)(hl:c7.contains id=rj)(hT:s.TypeIs self T)(hb:entryFor table id=rc b)(ha:argsOk id ⟨self:: rest,[]⟩)
  (h:wpF (model prog w) A.in1 (b ⟨self:: rest,[]⟩) (mX (model prog w) A (wants Q E)) (λe s'=>wants Q E (.error e) s') s):wpF (model prog w) A (call (.builtin id) (self:: rest)) Q E s:=by
 refine fE (z20 (z0F slot.plain hl hb (z4X slot hT ha) h) λr s' hr=>?_)
 induction r with
 | error e=>exact hr
 | ok f=>cases f <;> exact hr
theorem z9Q (T:String)(args:List Value):A.under (.builtin "type.__call__" ⟨.type T:: args,[]⟩)=A.in1:=qZ.under_plain (weight_type_call_type T args []) (units_type_call_type T args [])
theorem z1Y {T newId initId:String}{Bi:Builtin}{args:List Value}{Q Q₁:VP}(ft:TypeCalled T newId initId)(hl:c7.contains initId=rj)
  (hct:checkTypeCall T ⟨args,[]⟩=pure ())(entryI:entryFor table initId=rc Bi)
  (hnew:codeAny (model prog w) A.in1 (.call (.builtin newId) ⟨.type T:: args,[]⟩) (wants Q₁ E) s)
  (hnext:∀ obj s₁,Q₁ obj s₁->s₁.TypeIs obj T/\argsOk initId ⟨obj:: args,[]⟩/\
   wpF (model prog w) A.in1.in1 (Bi ⟨obj:: args,[]⟩) (mX (model prog w) A.in1 (wants (λr s₂=>r = .none/\Q obj s₂) E)) (λe s'=>E e s') s₁):
  wpF (model prog w) A (call (.type T) args) Q E s:=by
 refine kP ft.mro λc tl hmro=>?_
 refine fE (aT ?_);refine ac ⟨Code.quiet_builtin _ (by decide +kernel),i4 (by decide +kernel) _,dM F.entry_type_call ?_⟩;simp only[z9Q];unfold Builtin.«type.__call__»;dsimp only;rw[if_neg (by rw[ft.notType];exact pE),if_neg (by simp only[ft.canCreate];exact pE)];refine bH (λh=>aL hct h) (a9 (aL hmro ?_));refine a9 (aL ft.made (bH (λh=>ac h) ?_));have hn:wpAny (model prog w) A.in1 (call (.builtin newId) (.type T:: args)) Q₁ E s:=wpAny_call (codeAny_mono hnew λr s₁ hr=>by
  induction r with
  | error e=>exact hr
  | ok f=>cases f <;> exact hr)
 refine a9 (ay (ao (.of hn) (λobj s₁ h₁=>?_) λ_ _ x=>x));refine gh (hnext obj s₁ h₁) λhT hok hi=>?_
 refine bH (λh=>.of (wpAny_isInstance hT ft.sub h)) ?_;refine a9 (ay ?_);refine bH (λh=>.of (qe hT ft.init.lookup h)) ?_;refine ay (a9 (aL (ft.init.bind obj) (a9 (ao (dF ft.init hl hT entryI hok (ao hi (λ_ _ x=>x) λ_ _ x=>x)) (λr s₂ h₂=>?_) λ_ _ x=>x))));obtain⟨rfl,hq⟩:=h₂;refine ac ?_;show wpF _ _ (if(qI != qI)=rg then _ else ret obj) _ _ _;exact ac hq
end
namespace F
theorem z6Z:mroOf (.type "bytearray")=pure [.type "bytearray",.type "object"]:=by rw[mroOf_type];kernel_rfl
theorem z2z:qH (.type "bytearray") "__new__" = pure (rc (.builtin "bytearray.__new__")):=by rw[qd,oZ];kernel_rfl
theorem z39:Slot "bytearray" "__init__" "bytearray.__init__":=
 .of (owner:="bytearray") (n:="__init__") (by rw[qd,oZ];kernel_rfl) (by decide +kernel) (by decide +kernel) (by decide +kernel)
  (by first | exact .inl (by decide +kernel) | exact .inr (by decide +kernel)) (by rw[qj];kernel_rfl)
theorem ba_called:TypeCalled "bytearray" "bytearray.__new__" "bytearray.__init__":=
 ⟨by decide +kernel,by decide +kernel,⟨_,_,z6Z⟩,madeBy_type z6Z z2z (by decide +kernel),by decide +kernel,by rw[qj];kernel_rfl,z39⟩
theorem ba_typeCall0:checkTypeCall "bytearray" ⟨[],[]⟩=pure ():=by kernel_rfl
theorem ba_typeCall1 (a:Value):checkTypeCall "bytearray" ⟨[a],[]⟩=pure ():=by kernel_rfl
theorem ba_newCall0:pW "bytearray.__new__" ⟨[.type "bytearray"],[]⟩=pure ():=by kernel_rfl
theorem ba_newCall1 (a:Value):pW "bytearray.__new__" ⟨[.type "bytearray",a],[]⟩=pure ():=by kernel_rfl
theorem ba_entry_init:entryFor table "bytearray.__init__" = rc Builtin.«bytearray.__init__»:=by first | exact entryFor_of_fast (by kernel_rfl) | exact pV (by kernel_rfl)
theorem ba_entry_new:entryFor table "bytearray.__new__" = rc Builtin.«list.__new__»:=entryFor_alias (id':="list.__new__") (by kernel_rfl) rfl (by decide +kernel) (by kernel_rfl)
theorem ba_plain_new:plainId "bytearray.__new__" = true:=by decide +kernel
theorem ba_args_init1 (a:Value):argsOk "bytearray.__init__" ⟨[a],[]⟩:=by unfold argsOk;kernel_rfl
theorem ba_args_init2 (a b:Value):argsOk "bytearray.__init__" ⟨[a,b],[]⟩:=by unfold argsOk;kernel_rfl
theorem ba_sub_self:isSubtype (.type "bytearray") (.type "bytearray")=pure true:=by rw[qj];kernel_rfl
end F
set_option maxRecDepth 1000000 in
set_option maxHeartbeats 4000000 in
theorem z3y:("bytearray.__new__".splitOn ".__new__").headD "" = "bytearray":=by simp +decide [String.splitOn,String.splitOnAux]
section
variable {prog:qW}{w:World}{A:qZ}{E:VP}{s:Shared}{R:r6->Shared->Prop}
theorem z1d (args:List Value)(hc:pW "bytearray.__new__" ⟨.type "bytearray" :: args,[]⟩=pure ()){Q₁:VP}
  (h:Q₁ (.ref s.heap.objs.size) { s with heap:=s.heap.push { cls:=.type "bytearray",data:=.bytearray #[] } }):
  codeAny (model prog w) A (.call (.builtin "bytearray.__new__") ⟨.type "bytearray" :: args,[]⟩) (wants Q₁ E) s:=by
 refine codeAny_of_tree ?_;refine qE (qy hc (qF ⟨plainId_quiet F.ba_plain_new _,codeAny_builtin_stack F.ba_entry_new rfl λp st=>?_⟩));refine qE (qy (a:=rg) rfl ?_);refine qE (qy (a:=rg) (by rw[z3y];exact F.ba_sub_self) ?_);rw[z3y];exact qE (m:=pure (Data.bytearray #[])) (qF (qE (pN (qF h))))
noncomputable abbrev c9 (b:Array UInt8):Obj:={ cls:=.type "bytearray",data:=.bytearray b }
theorem z1v:qH (.type "bytearray") "__release_buffer__" = pure (rc (.builtin "bytearray.__release_buffer__")):=by rw[qd,oZ];kernel_rfl
theorem dm:qH (.type "bytearray") "__buffer__" = pure (rc (.builtin "bytearray.__buffer__")):=by rw[qd,oZ];kernel_rfl
theorem z2x:qH (.type "bytearray") "__bytes__" = pure none:=by rw[qd,oZ];kernel_rfl
theorem z2y:qH (.type "bytearray") "__index__" = pure none:=by rw[qd,oZ];kernel_rfl
theorem z0n:qH (.type "bytes") "__index__" = pure none:=by rw[qd,oZ];kernel_rfl
theorem z2A:qH (.type "bytes") "__bytes__" = pure (rc (.builtin "bytes.__bytes__")):=by rw[qd,oZ];kernel_rfl
theorem z2b:qH (.type "int") "__bytes__" = pure none:=by rw[qd,oZ];kernel_rfl
theorem z70 {S:Addr}{b:Array UInt8}{name:Str}{nm id:String}(hS:s.heap.get? S=rc (c9 b))(hn:(nm:Str)=name)(hl:qH (.type "bytearray") name=pure (rc (.builtin id)))
  (h1:id.endsWith ("." ++ nm)=rg)(h2:id.dropRight (nm.length+1) = "bytearray"){M:Model}{Q:Bool->Shared->Prop}(h:Q rg s):wpAny M A (Builtin.Bytes.slotIsOwn (.ref S) nm) Q E s:=by
 have hT:s.TypeIs (.ref S) "bytearray":=⟨_,hS,rfl⟩
 unfold Builtin.Bytes.slotIsOwn;rw[hn];refine qE (qe hT hl ?_);dsimp only;rw[if_neg (by rw[h1];decide),h2];exact wpAny_isInstance hT F.ba_sub_self h
theorem gy {S:Addr}{b:Array UInt8}(hS:s.heap.get? S=rc (c9 b)){M:Model}{Q:Bool->Shared->Prop}(h:Q rj s):wpAny M A (Builtin.Bytes.ownRelease (.ref S)) Q E s:=by
 unfold Builtin.Bytes.ownRelease;exact qE (z70 hS rfl z1v (by decide +kernel) (by decide +kernel) (qF h))
theorem dp {S:Addr}{b:Array UInt8}(hS:s.heap.get? S=rc (c9 b)){M:Model}{Q:Array UInt8->Shared->Prop}(h:Q b s):wpAny M A (Builtin.Bytes.payload (.ref S)) Q E s:=by
 unfold Builtin.Bytes.payload Builtin.Bytes.payload?;exact qE (bQ (λh=>qG hS h) (qF (qF h)))
theorem z5J {S:Addr}{b:Array UInt8}{id:String}{full:Bool}(hS:s.heap.get? S=rc (c9 b)){M:Model}{Q:Option (Array UInt8)->Shared->Prop}(h:Q (rc b) s):wpAny M A (Builtin.Bytes.buffer? id (.ref S) full) Q E s:=by
 have hT:s.TypeIs (.ref S) "bytearray":=⟨_,hS,rfl⟩
 refine qE (qe hT dm ?_);refine bQ (λh=>z70 hS rfl dm (by decide +kernel) (by decide +kernel) h) ?_;refine bQ (λh=>qe hT dm h) ?_;refine qE (gy hS ?_);exact qE (dp hS (qF h))
theorem f9 {S:Addr}{b:Array UInt8}{f:Array UInt8->Array UInt8}(hS:s.heap.get? S=rc (c9 b))(hf:(f b).size<=qS){M:Model}{Q:Unit->Shared->Prop}
  (h:Q () { s with heap:=s.heap.update S (pX f) }):wpAny M A (Builtin.Bytes.write (.ref S) f) Q E s:=by
 show wpAny M A (updateBytearray S f) Q E s;unfold updateBytearray;refine bQ (λh=>qG hS h) ?_;show wpAny _ _ (update S (pX f) >>= λ_=>lookBehind S) _ _ _;refine qE (wpAny_update hS ?_);refine wpAny_lookBehind (o:=c9 (f b)) (oY (pX f) hS rfl) ?_ h;show(if(f b).size > qS then rc "bytearray:memory" else re)=re;rw[if_neg (by omega)]
theorem gv {S:Addr}{b:Array UInt8}(hS:s.heap.get? S=rc (c9 b)){M:Model}{Q:Nat->Shared->Prop}(h:Q 0 s):wpAny M A (Builtin.Bytes.exportsOf (.ref S)) Q E s:=by
 unfold Builtin.Bytes.exportsOf;exact qE (qG hS (qF h))
theorem z6X:Builtin.Bytes.bindOptional "bytearray.__init__" "bytearray" ["source","encoding","errors"] [] []=pure [re,re,re]:=by kernel_rfl
theorem z6Y (v:Value):Builtin.Bytes.bindOptional "bytearray.__init__" "bytearray" ["source","encoding","errors"] [v] []=pure [rc v,re,re]:=by kernel_rfl
theorem z36 {Q:VP}(h:Q (.ref s.heap.objs.size) { s with heap:=(s.heap.push (c9 #[])).update s.heap.objs.size (pX λ_=>#[]) }):
  wpF (model prog w) A (call (.type "bytearray") []) Q E s:=by
 refine z1Y (Q₁:=λobj s₁=>obj = .ref s.heap.objs.size/\s₁={ s with heap:=s.heap.push { cls:=.type "bytearray",data:=.bytearray #[] } }) F.ba_called (by decide +kernel) F.ba_typeCall0 F.ba_entry_init
  (z1d [] F.ba_newCall0 ⟨rfl,rfl⟩) λobj s₁ h₁=>?_
 obtain⟨rfl,rfl⟩:=h₁;have hS:(s.heap.push { cls:=.type "bytearray",data:=.bytearray #[] }).get? s.heap.objs.size=rc { cls:=.type "bytearray",data:=.bytearray #[] }:=pA _ rfl;refine⟨⟨_,hS,rfl⟩,F.ba_args_init1 _,?_⟩;unfold Builtin.«bytearray.__init__»;refine bH (λh=>.of (gy hS h)) ?_;refine bH (λh=>aL z6X h) ?_;dsimp only;refine a9 (aL (a:=()) rfl (a9 (aL (a:=()) rfl ?_)));refine a9 (a9 (eR ?_));refine .of (qE (gv hS (qF ?_)));refine a9 (.of (f9 hS (by decide +kernel) ?_));refine aL (a:=.done (.ret .none)) rfl ?_;exact⟨rfl,h⟩
theorem z0Q {x:Array UInt8}{t:Tok}{Q:VP}(hx:x.size<=qS)(h:Q (.ref s.heap.objs.size) { s with heap:=((s.heap.push (c9 #[])).update s.heap.objs.size (pX λ_=>#[])).update s.heap.objs.size (pX λ_=>x) }):
  wpF (model prog w) A (call (.type "bytearray") [.bytes x t]) Q E s:=by
 refine z1Y (Q₁:=λobj s₁=>obj = .ref s.heap.objs.size/\s₁={ s with heap:=s.heap.push { cls:=.type "bytearray",data:=.bytearray #[] } }) F.ba_called (by decide +kernel) (F.ba_typeCall1 _) F.ba_entry_init
  (z1d [_] (F.ba_newCall1 _) ⟨rfl,rfl⟩) λobj s₁ h₁=>?_
 obtain⟨rfl,rfl⟩:=h₁;have hS:(s.heap.push { cls:=.type "bytearray",data:=.bytearray #[] }).get? s.heap.objs.size=rc { cls:=.type "bytearray",data:=.bytearray #[] }:=pA _ rfl;refine⟨⟨_,hS,rfl⟩,F.ba_args_init2 _ _,?_⟩;unfold Builtin.«bytearray.__init__»;refine bH (λh=>.of (gy hS h)) ?_;refine bH (λh=>aL (z6Y _) h) ?_;dsimp only;refine a9 (aL (a:=()) rfl (a9 (aL (a:=()) rfl ?_)));refine a9 (a9 (eR ?_));refine .of (qE (gv hS (qF ?_)));refine a9 (.of (f9 hS (by decide +kernel) ?_));have hS₂:((s.heap.push (c9 #[])).update s.heap.objs.size (pX λ_=>#[])).get? s.heap.objs.size=rc (c9 #[]):=oY (pX λ_=>#[]) hS rfl;refine a9 (aL (a:=re) rfl ?_);refine a9 (aL (a:=()) rfl ?_);refine .of (qE (qe (T:="bytes") (typeIs_bytes _ x t) z0n ?_));refine qE (qy KBy.buffer_eq ?_);refine qE (wpAny_rule (qE (f9 hS₂ hx ?_)));exact qF ⟨rfl,h⟩
end
end
section
namespace F
theorem ba_slot_extend:Slot "bytearray" "extend" "bytearray.extend":=
 .of (owner:="bytearray") (n:="extend") (by rw[qd,oZ];kernel_rfl) (by decide +kernel) (by decide +kernel) (by decide +kernel)
  (by first | exact .inl (by decide +kernel) | exact .inr (by decide +kernel)) (by rw[qj];kernel_rfl)
theorem ba_entry_extend:entryFor table "bytearray.extend" = rc Builtin.«bytearray.extend»:=by first | exact entryFor_of_fast (by kernel_rfl) | exact pV (by kernel_rfl)
theorem ba_args_extend (a b:Value):argsOk "bytearray.extend" ⟨[a,b],[]⟩:=by unfold argsOk;kernel_rfl
theorem ba_slot_set:Slot "bytearray" "__setitem__" "bytearray.__setitem__":=
 .of (owner:="bytearray") (n:="__setitem__") (by rw[qd,oZ];kernel_rfl) (by decide +kernel) (by decide +kernel) (by decide +kernel)
  (by first | exact .inl (by decide +kernel) | exact .inr (by decide +kernel)) (by rw[qj];kernel_rfl)
theorem ba_entry_set:entryFor table "bytearray.__setitem__" = rc Builtin.«bytearray.__setitem__»:=by first | exact entryFor_of_fast (by kernel_rfl) | exact pV (by kernel_rfl)
theorem ba_args_set (a b c:Value):argsOk "bytearray.__setitem__" ⟨[a,b,c],[]⟩:=by unfold argsOk;kernel_rfl
theorem ba_slot_len:Slot "bytearray" "__len__" "bytearray.__len__":=
 .of (owner:="bytearray") (n:="__len__") (by rw[qd,oZ];kernel_rfl) (by decide +kernel) (by decide +kernel) (by decide +kernel)
  (by first | exact .inl (by decide +kernel) | exact .inr (by decide +kernel)) (by rw[qj];kernel_rfl)
theorem ba_entry_len:entryFor table "bytearray.__len__" = rc Builtin.«bytearray.__len__»:=by first | exact entryFor_of_fast (by kernel_rfl) | exact pV (by kernel_rfl)
theorem ba_args_len (a:Value):argsOk "bytearray.__len__" ⟨[a],[]⟩:=by unfold argsOk;kernel_rfl
theorem sub_bytes_ba:isSubtype (.type "bytes") (.type "bytearray")=pure false:=by rw[qj];kernel_rfl
theorem sub_bytes_complex:isSubtype (.type "bytes") (.type "complex")=pure false:=by rw[qj];kernel_rfl
theorem by_look_int:qH (.type "bytes") "__int__" = pure none:=by rw[qd,oZ];kernel_rfl
theorem by_look_float:qH (.type "bytes") "__float__" = pure none:=by rw[qd,oZ];kernel_rfl
end F
section
variable {prog:qW}{w:World}{A:qZ}{E:VP}{s:Shared}{R:r6->Shared->Prop}{x b:Array UInt8}{t:Tok}{S:Addr}
theorem z9L {id:String}{fl:Int}:Builtin.Bytes.takeBuffer? id (.bytes b t) fl=pure (rc (b,re)):=by
 unfold Builtin.Bytes.takeBuffer?;rw[KBy.special_eq KBy.look_buffer,KBy.own_buffer];show(Builtin.Bytes.buffer? id (.bytes b t) _ >>= _)=_;rw[show Builtin.Bytes.buffer? id (.bytes b t) (fl==Builtin.Bytes.fullReadOnly)=pure (rc b) from KBy.buffer_eq];rfl
theorem z4p {id:String}{fl:Int}:Builtin.Bytes.takeBufferQuiet? id (.bytes b t) fl=pure (rc (b,re)):=by
 unfold Builtin.Bytes.takeBufferQuiet?;rw[z9L];rfl
theorem z2w (hS:s.heap.get? S=rc (c9 b)){M:Model}{Q:Unit->Shared->Prop}(h:Q () s):wpF M A (Builtin.Bytes.checkResize (.ref S)) Q E s:=by
 unfold Builtin.Bytes.checkResize;refine a9 (bH (λh=>eR h) ?_);refine .of (bQ (λh=>gv hS h) (qF ?_));rw[if_neg (by decide)];exact ac h
theorem z6S {Q:VP}(hS:s.heap.get? S=rc (c9 b))(hsz:b.size+x.size<=qS)(h:Q .none { s with heap:=s.heap.update S (pX (· ++ x)) }):
  wpF (model prog w) A (call (.builtin "bytearray.extend") [.ref S,.bytes x t]) Q E s:=by
 refine dF F.ba_slot_extend (by decide +kernel) ⟨_,hS,rfl⟩ F.ba_entry_extend (F.ba_args_extend _ _) ?_;refine a9 (aL (a:=(.ref S,.bytes x t)) rfl ?_);refine bH (λh=>.of (qe (T:="bytes") (typeIs_bytes _ x t) KBy.look_buffer h)) ?_;refine bH (λh=>eD h) (a9 (.of (dp hS ?_)));refine bH (λh=>aL z4p h) ?_;have fin:wpF (model prog w) A.in1 (Builtin.Bytes.write (.ref S) (· ++ x) >>= λ_=>ret .none) (mX (model prog w) A (wants Q E)) (λe s'=>wants Q E (.error e) s') s:=
  .of (qE (f9 hS (by rw[Array.size_append];exact hsz) (qF h)))
 show wpF _ _ (if(!x.isEmpty)=rg then _ else _) _ _ _;by_cases hx:(!x.isEmpty)=rg
 ·rw[if_pos hx]
  exact a9 (z2w hS fin)
 ·rw[if_neg hx]
  exact fin
theorem zaO (hS:s.heap.get? S=rc (c9 b))(hsz:b.size<=qS){Q:VP}(h:∀ t k,Q (.int b.size t) { s with toks:=k }):wpAny (model prog w) A (call (.builtin "len") [.ref S]) Q E s:=by
 have hT:s.TypeIs (.ref S) "bytearray":=⟨_,hS,rfl⟩
 have sl:qS=16777216:=qx;refine call_len_slot hT F.ba_slot_len (n:=(b.size:Int)) (λQ' hq=>wpAny_call_entry F.ba_slot_len hT F.ba_entry_len ?_ (F.ba_args_len _)) (by omega) (by omega) (h _ _);show wpAny _ _ (Builtin.Bytes.payload (.ref S) >>= λr=>_) _ _ _;exact bQ (λh=>dp hS h) (wpAny_ret_mkInt hq)
theorem z2d {M:Model}{sl:Addr}(hs:s.heap.IsSliceOf sl .none .none .none){Q:Value×Value×Value->Shared->Prop}(h:Q (.none,.none,.none) s):wpAny M A (Builtin.Bytes.sliceParts (.ref sl)) Q E s:=by
 obtain⟨o,ho,hc,hd⟩:=hs;unfold Builtin.Bytes.sliceParts;refine qE (qz (x:=.none) ho hd rfl (qE (qy (a:=qI) rfl ?_)));rw[if_neg (by decide)];exact qE (qz (x:=.none) ho hd rfl (qE (qy (a:=qI) rfl (qE (qz (x:=.none) ho hd rfl (qE (qy (a:=qI) rfl (qF h))))))))
theorem z2j {M:Model}{sl:Addr}(hs:s.heap.IsSliceOf sl .none .none .none){Q:Option Int->Shared->Prop}(h:Q re s):wpAny M A (Builtin.Bytes.subscript? (.ref sl)) Q E s:=by
 have hTs:s.TypeIs (.ref sl) "slice":=by obtain⟨o,ho,hc,_⟩:=hs;exact⟨o,ho,hc⟩
 unfold Builtin.Bytes.subscript?;refine bQ (λh=>qe hTs slice_no_index h) ?_;rw[if_pos (by decide)];exact qF h
theorem z6T {sl:Addr}{Q:Unit->Shared->Prop}(hS:s.heap.get? S=rc (c9 b))(hs:s.heap.IsSliceOf sl .none .none .none)(hsz:b.size=x.size)(hx:x.size<=qS)
  (h:∀ h',(∀ a o,a≠S->s.heap.get? a=rc o->h'.get? a=rc o)->h'.get? S=rc (c9 x)->Q () { s with heap:=h' }):wpF (model prog w) A (setItem (.ref S) (.ref sl) (.bytes x t)) Q E s:=by
 have hTs:s.TypeIs (.ref sl) "slice":=by obtain⟨o,ho,hc,_⟩:=hs;exact⟨o,ho,hc⟩
 refine ay ?_;refine a9 (.of (wpAny_sequenceKey ⟨_,hS,rfl⟩ (by decide) ?_));refine a9 (a9 (.of (qe (T:="bytearray") ⟨_,hS,rfl⟩ F.ba_slot_set.lookup ?_)));refine ay (a9 (aL (F.ba_slot_set.bind _) (a9 (dF F.ba_slot_set (by decide +kernel) ⟨_,hS,rfl⟩ F.ba_entry_set (F.ba_args_set _ _ _) ?_))));dsimp only;refine bH (λh=>.of (z2j hs h)) ?_;refine bH (λh=>.of (wpAny_typeOf hTs h)) ?_;refine bH (λh=>.of (z2d hs h)) ?_;dsimp only;rw[if_neg (by exact pE)];refine bH (λh=>.of (wpAny_isInstance (T:="bytes") (typeIs_bytes _ x t) F.sub_bytes_ba h)) ?_;rw[if_pos (by decide)];rw[KBy.special_eq z0n,KBy.special_eq F.by_look_int,KBy.special_eq F.by_look_float,show isInstance (.bytes x t) (.type "complex")=pure rj from F.sub_bytes_complex];refine a9 (aL (a:=rj) rfl ?_);refine a9 (aL (a:=re) rfl ?_);rw[if_neg (by decide)];refine a9 (eD (a9 (z0Q hx ?_)));generalize hh2:((s.heap.push (c9 #[])).update s.heap.objs.size (pX λ_=>#[])).update s.heap.objs.size (pX λ_=>x)=h2;have hN0:(s.heap.push (c9 #[])).get? s.heap.objs.size=rc (c9 #[]):=pA _ rfl;have hN1:((s.heap.push (c9 #[])).update s.heap.objs.size (pX λ_=>#[])).get? s.heap.objs.size=rc (c9 #[]):=oY (pX λ_=>#[]) hN0 rfl;have hN:h2.get? s.heap.objs.size=rc (c9 x):=by rw[<-hh2];exact oY (pX λ_=>x) hN1 rfl
 have keep:∀ a o,s.heap.get? a=rc o->h2.get? a=rc o:=λa o e=>by
  have ne:s.heap.objs.size≠a:=Nat.ne_of_gt (qp e);rw[<-hh2,oU _ _ ne,oU _ _ ne];exact oS _ e
 have hs2:h2.IsSliceOf sl .none .none .none:=by obtain⟨o,ho,r⟩:=hs;exact⟨o,keep _ _ ho,r⟩
 refine a9 (ay (.of (z2d hs2 ?_)));refine bH (λh=>.of (dp hN h)) ?_;refine bH (λh=>.of (dp (keep _ _ hS) h)) ?_;refine a9 (aL (a:=(0,(b.size:Int),1)) ?_ ?_)
 ·exact(sliceIndices_raw re re re b.size (by decide)).trans (by simp[sliceBounds])
 dsimp only;rw[if_pos (by decide)];refine bH (λh=>eD h) ?_;have em:max (0:Int) (b.size:Int)=b.size:=by simp
 rw[em,if_neg (by rw[hsz];simp)];refine a9 (.of (f9 (keep _ _ hS) ?_ ?_))
 ·have e:b.extract 0 (0:Int).toNat++x++b.extract ((b.size:Nat):Int).toNat b.size=x:=by
   apply Array.toList_inj.mp;simp
  show(b.extract 0 (0:Int).toNat++x++b.extract ((b.size:Nat):Int).toNat b.size).size<=qS;rw[e];first | assumption | (rw[hsz];assumption) | (rw[<-hsz];assumption) | (trace_state;omega)
 refine ac ?_;refine ac (ac (h _ (λa o ne e=>?_) ?_))
 ·rw[oU _ _ (qY ne)];exact keep _ _ e
 ·refine(oY _ (keep _ _ hS) rfl).trans ?_
  have e:b.extract 0 (0:Int).toNat++x++b.extract ((b.size:Nat):Int).toNat b.size=x:=by
   apply Array.toList_inj.mp;simp
  show rc (c9 (b.extract 0 (0:Int).toNat++x++b.extract ((b.size:Nat):Int).toNat b.size))=_;rw[e]
theorem kF {v:Value}{Q:VP}(hct:checkTypeCall "bytes" ⟨[v],[]⟩=pure ())(hnew:codeAny (model prog w) A.in1 (.call (.builtin "bytes.__new__") ⟨[.type "bytes",v],[]⟩) (wants (λobj s₁=>s₁.TypeIs obj "bytes"/\Q obj s₁) E) s):
  wpAny (model prog w) A (call (.type "bytes") [v]) Q E s:=by
 refine callType_codes (Q₁:=λobj s₁=>s₁.TypeIs obj "bytes"/\Q obj s₁) PySem.F.bm_called hct F.entry_object_init hnew λobj s₁ h₁=>?_
 exact⟨h₁.1,F.args_object_init_2 obj _,object_init_meets PySem.F.bm_called.init.lookup PySem.F.bm_called.made (by decide) prog w A.in1 _ s₁ ⟨h₁.1,rfl,h₁.2⟩⟩
theorem lT {v:Value}{P:r6->Shared->Prop}(h:wpAny (model prog w) A.in1 (Builtin.«bytes.__new__» ⟨[.type "bytes",v],[]⟩) (λfin s'=>∃ f,fin = .done f/\P (.ok f) s') (λe s'=>P (.error e) s') s):
  codeAny (model prog w) A (.call (.builtin "bytes.__new__") ⟨[.type "bytes",v],[]⟩) P s:=by
 refine codeAny_of_tree ?_;show wpAny _ A.in1 (do pW "bytes.__new__" ⟨[.type "bytes",v],[]⟩;again (.builtin "bytes.__new__" ⟨[.type "bytes",v],[]⟩)) _ _ s;refine bQ (λh=>qy (PySem.F.bm_newCall _) h) (qF ⟨plainId_quiet PySem.F.bm_plain _,qc PySem.F.bm_entry ?_⟩);rw[pw PySem.F.bm_plain _];exact wpAny_mono h (λfin s' z=>by obtain⟨f,e,p⟩:=z;subst e;exact p) λ_ _ p=>p
theorem kG {M:Model}{v:Value}{P:PySem.Fin->Shared->Prop}(h:P (.done (.ret v)) s):wpAny M A (ret v >>= λr=>pure r) P E s:=qE (qF (qF h))
theorem z77 {n:Int}{Q:VP}(h0:0<=n)(h1:n<=1000000)(h:∀ t' k,Q (.bytes (Array.replicate n.toNat 0) t') { s with toks:=k }):wpAny (model prog w) A (call (.type "bytes") [.int n t]) Q E s:=by
 have sl:qS=16777216:=qx;refine kF (PySem.F.bm_typeCall _) (lT ?_);refine qE (qy (a:=rg) rfl ?_);refine qA rfl ?_;refine qE (qy PySem.F.bm_sub ?_);refine qA rfl ?_;refine qE (qy (PySem.F.bm_bind _) ?_);refine qE (qy (a:=()) rfl ?_);refine qE (qy (a:=()) rfl ?_);refine qA rfl ?_;refine qE (qe (T:="int") (typeIs_int _ n t) z2b ?_);refine qE (qy (a:=rj) rfl ?_);refine qA rfl ?_;refine qE (qe (T:="int") (typeIs_int _ n t) F.slot_int_index.lookup ?_);refine qA rfl ?_;refine qE (wpAny_attempt (qy (a:=n) rfl ?_));dsimp only;have e1:(!Builtin.Bytes.fitsIndex n)=false:=by unfold Builtin.Bytes.fitsIndex;simp only[Bool.not_eq_false',pU,decide_eq_true_eq];exact⟨Int.le_trans (by decide) h0,Int.lt_of_le_of_lt h1 (by decide)⟩
 refine qA e1 ?_;rw[if_neg (Int.not_lt.mpr h0),if_neg (by omega)];refine qA (by unfold Builtin.Bytes.tooLong;rw[decide_eq_false_iff_not];exact Nat.not_lt.mpr (qx▸qt (Int.toNat_le.mpr h1) (show 1000000<=16777216 by decide))) ?_;refine qE (wpAny_rule (qE (wpAny_mkBytes ?_ (by simp;omega))));exact kG ⟨_,rfl,px _ _ _,h _ _⟩
theorem z8S {Q:VP}(h:Q (.bytes b t) s):wpAny (model prog w) A (call (.type "bytes") [.bytes b t]) Q E s:=by
 refine kF (PySem.F.bm_typeCall _) (lT ?_);unfold Builtin.«bytes.__new__»;refine qE (qy (a:=rg) rfl ?_);refine qA rfl ?_;refine qE (qy PySem.F.bm_sub ?_);refine qA rfl ?_;refine qE (qy (PySem.F.bm_bind _) ?_);refine qE (qy (a:=()) rfl ?_);refine qE (qy (a:=()) rfl ?_);refine qA rfl ?_;refine qE (qe (T:="bytes") (px _ b t) z2A ?_);refine qE (wpAny_rule (qE (wpAny_typeOf (px _ b t) ?_)));refine bm_if_true (by decide) ?_;exact kG ⟨_,rfl,px _ _ _,h⟩
theorem z76 {Q:VP}(hS:s.heap.get? S=rc (c9 b))(hz:b.size<=qS)(h:∀ t' k,Q (.bytes b t') { s with toks:=k }):wpAny (model prog w) A (call (.type "bytes") [.ref S]) Q E s:=by
 have hT:s.TypeIs (.ref S) "bytearray":=⟨_,hS,rfl⟩
 refine kF (PySem.F.bm_typeCall _) (lT ?_);refine qE (qy (a:=rg) rfl ?_);refine qA rfl ?_;refine qE (qy PySem.F.bm_sub ?_);refine qA rfl ?_;refine qE (qy (PySem.F.bm_bind _) ?_);refine qE (qy (a:=()) rfl ?_);refine qE (qy (a:=()) rfl ?_);refine qA rfl ?_;refine qE (qe hT z2x ?_);refine qE (qE ?_);refine bQ (λh=>qG hS h) ?_;refine qF (qF ?_);refine qA rfl ?_;refine qE (qe hT z2y ?_);refine bm_if_true rfl ?_;refine bQ (λh=>z5J hS h) ?_;refine qE (wpAny_rule (qE (wpAny_mkBytes ?_ hz)));exact kG ⟨_,rfl,px _ _ _,h _ _⟩
end
end
section
section
variable {Y β:Type}{c:Cfg}{A:qZ}{fs:List Env}{X U:List Addr}{J:MH}{s:Shared}{h h':Heap}{a:Nat}{ob:Obj}
theorem St.keeps (S:St c fs U J h)(k:∀ b o,h.get? b=rc o->h'.get? b=rc o):St c fs U J h':=S.other (λb o e _=>k b o e) (S.fr.keeps k)
theorem Evo.keeps (k:∀ b o,h.get? b=rc o->h'.get? b=rc o):Evo fs X U h U h':=
 ⟨⟨[],by simp⟩,λ_ e=>.inl e,λb o e=>⟨o,k b o e⟩,λb o e _ _ _=>k b o e,λb o e _ _=>⟨o.slots,k b o e⟩,λb o e _=>k b o e⟩
theorem VR.keeps {v:V}{w:Value}(r:VR c U h v w)(k:∀ b o,h.get? b=rc o->h'.get? b=rc o):VR c U h' v w:=r.mono (λ_ _ z=>z) λb o e _=>k b o e
theorem St.new {x:Addr}{o:O}(S:St c fs U J h)(k:∀ b o,h.get? b=rc o->h'.get? b=rc o)(hx:h.get? x=re)(ho:h'.get? x=rc ob)(hr:OR c (U++[x]) h' J.n o ob):St c fs (U++[x]) (J.push o) h':=by
 have old:∀ b o,h.get? b=rc o->b≠x:=λb o e q=>by subst q;rw[hx] at e;cases e
 refine(S.keeps k).own ho (λm=>?_) ?_ (λm=>?_) hr
 ·obtain⟨_,_,_,_,_,e,_⟩:=S.mem_lt m;exact old _ _ e rfl
 ·cases q:c.base.get? x with
  | none=>rfl
  | some o=>exact absurd rfl (old _ _ (S.base _ _ q))
 ·obtain⟨_,_,o,_,_,e,_⟩:=S.fr.mem m;exact old _ _ e rfl
theorem Evo.new {x:Addr}(k:∀ b o,h.get? b=rc o->h'.get? b=rc o)(hx:h.get? x=re):Evo fs X U h (U++[x]) h':=(Evo.keeps k).own hx
theorem z8c (S:St c fs U J h)(x:Addr)(h':Heap):VR c (U++[x]) h' (.ref J.n) (.ref x):=.ref (by rw[S.len];simp)
theorem Sat.new {o:O}{f:Nat->M V}{t:Sem Value}(hf:∀ n J,f n J = .ok (.ref n) J)
  (h:∀ (Q:VP)(E:VP),(∀ h' tk x ob,(∀ b o,s.heap.get? b=rc o->h'.get? b=rc o)->s.heap.get? x=re->h'.get? x=rc ob->OR c (U++[x]) h' J.n o ob->Q (.ref x) { s with heap:=h',toks:=tk })->wpF (model c.prog c.w) A t Q E s):
  Sat c A fs X U J s ((M.alloc o >>= f) J) (VR c) t:=by
 have e:(M.alloc o >>= f) J = .ok (.ref J.n) (J.push o):=by show f J.n (J.push o)=_;rw[hf]
 rw[e];intro Q E S _ ok _;exact h Q E λh' tk x ob k hx ho r=>ok _ _ _ _ _ rfl (S.new k hx ho r) (.new k hx) (z8c S x h')
noncomputable def mH:B1->Value
 | .len=>.builtin "len" | .list=>.type "list" | .bytes=>.type "bytes" | .bytearray=>.type "bytearray" | .abs=>.builtin "abs" | .sorted=>.builtin "sorted" | .dict=>.type "dict" | .int=>.type "int" | .isint=>.builtin "isinstance"
noncomputable def z6V:B1->Value->List Value
 | .isint,v=>[v,.type "int"]
 | _,v=>[v]
theorem OR.ba' {b:List UInt8}(r:OR c U h a (.ba b) ob):ob=c9 b.toArray:=r.inv
theorem z5n {es:List (Int×V)}{kvs:List (Int×Value)}(r:All2 (KV c U h (id:Int->Int)) es kvs):es.map (·.1)=kvs.map (·.1):=by
 induction r with
 | nil=>rfl
 | cons x _ ih=>exact congr (congrArg List.cons x.1) ih
theorem z7G {vs:List Value}{ns:List Int}(r:IntsAre vs ns):VRs c U h (ns.map V.int) vs:=by
 induction r with
 | nil=>exact .nil
 | cons i t _ ih=>exact .cons (.int i t) ih
theorem z6h {xs:List V}{its:List Value}{es:List (Int×V)}(r:VRs c U h xs its)(e:fZ xs=rc es):∃ ps:List (Int×Value),its.length=ps.length/\
  (∀ (j:Nat)(p:Int×Value),ps[j]? = rc p->∃ x t,its[j]? = rc (.ref x)/\h.get? x=rc (fY (.int p.1 t) p.2))/\All2 (KV c U h (id:Int->Int)) es ps:=by
 induction r generalizing es with
 | nil=>obtain rfl:=qb e;exact mZ ([]) rfl (λj p q=>(by cases q)) .nil
 | @cons x v xs its a as ih=>
  cases a with
  | @t2 y k u v w hy rk ru=>
   induction rk with
   | int i t=>
    refine el12 (Option.map_eq_some_iff.mp e) λes' e1 ez4=>?_;subst ez4
    refine el13 (ih e1) λps h1 h2 h3=>?_
    refine mZ ((i,w):: ps) (congrArg (· + 1) h1) (λj p q=>?_) (.cons ⟨rfl,ru⟩ h3)
    induction j with
    | zero=>obtain rfl:=qb q;exact n4 y t rfl hy
    | succ j=>exact h2 j p q
   | _=>cases e
  | _=>cases e
theorem z37:∀ {xs:List V}{its:List Value},VRs c U h xs its->∀ {bs:List UInt8},fG xs=rc bs->∃ ns,IntsAre its ns/\(∀ n∈ns,0<=n/\n<256)/\byteArr ns=bs.toArray:=by
 intro xs its r
 induction r with
 | nil=>intro bs e;obtain rfl:=qb e;exact mZ ([]) .nil (λ_ h=>nomatch h) rfl
 | @cons x v xs its a as ih=>
  intro bs e
  induction x with
  | int i=>
   refine el12 (Option.bind_eq_some_iff.mp e) λb e1 e=>?_
   refine el12 (Option.map_eq_some_iff.mp e) λbs' e2 ez3=>?_;subst ez3
   refine VR.intC a λt=>?_
   refine el13 (ih e2) λns h1 h2 h3=>?_
   unfold hV at e1
   by_cases q:0<=i/\i<256
   ·obtain rfl:=qb ((if_pos q).symm.trans e1)
    exact mZ (i:: ns) (.cons i t h1) (λn hn=>(List.mem_cons.mp hn).elim (λz=>z▸q) (h2 n)) (Array.toList_inj.mp (congrArg (_:: ·) (congrArg Array.toList h3)))
   ·cases(if_neg q).symm.trans e1
  | _=>cases e
theorem jD {n:Nat}(h:n<=lim):(n:Int)<2 ^ 63:=Int.lt_of_le_of_lt (Int.ofNat_le.mpr h) (show((1000000:Nat):Int)<2 ^ 63 by decide)
theorem mo {n:Nat}(h:n<=lim):n<=qS:=by rw[qx];exact qt h (by decide)
theorem z2T (C:CfgOk c){n:Nat}(Rm:Room n A fs){b:B1}{x:V}{v:Value}(rx:VR c U s.heap x v):Sat c A fs X U J s (bN b x J) (VR c) (call (mH b) (z6V b v)):=by
 have sl:qS=16777216:=qx;have ll:lim=1000000:=rfl
 induction b with
 | len=>
  induction x with
  | ref a=>
   refine VR.refC rx λp hp=>?_
   refine Sat.read hp λo ob e1 e2 r1 n1=>?_
   induction o with
   | lst xs=>
    refine Sat.guardD λg=>?_
    obtain⟨is,h1,h2⟩:=r1.isList e2;have hl:=h2.length;refine Sat.any λQ E S _ ok _=>call_len_list h1 (by first | exact jD (qt (qu hl.symm) g) | exact mo (qt (qu hl.symm) g) | exact qt (qt (qu hl.symm) g) (by decide)) ?_
    have e:(is.toArray.size:Int)=(xs.length:Int):=by simp only[pM,<-hl]
    rw[e];exact ok _ _ _ _ _ rfl S .refl (.int _ _)
   | ba b=>
    refine Sat.guardD λg=>?_
    have:=r1.ba';subst this;refine Sat.any λQ E S _ ok _=>zaO e2 (by first | exact jD g | exact mo g | exact qt g (by decide)) λt k=>?_
    have hz:∀ b:List UInt8,b.toArray.size=b.length:=λb=>rfl
    rw[hz];exact ok _ _ _ _ _ rfl S .refl (.int _ _)
   | _=>exact ap
  | bytes b=>
   refine VR.bytesC rx λt=>?_
   refine Sat.guardD λg=>?_
   refine Sat.any λQ E S _ ok _=>PySem.W.len_bytes (by first | exact jD g | exact mo g | exact qt g (by decide)) ?_
   have hz:∀ b:List UInt8,b.toArray.size=b.length:=λb=>rfl
   rw[hz];exact ok _ _ _ _ _ rfl S .refl (.int _ _)
  | _=>exact ap
 | list=>
  induction x with
  | ref a=>
   refine VR.refC rx λp hp=>?_
   refine Sat.read hp λo ob e1 e2 r1 n1=>?_
   induction o with
   | lst xs=>
    refine r1.lstG e2 λis m e2 r=>?_
    unfold Mine.Internal.newList;refine Sat.guardD λg=>?_
    refine Sat.new (λ_ _=>rfl) λQ E q=>.of (call_list_seq p (.inl rfl) e2 rfl rfl (λh' c' k ho=>q h' s.toks _ _ k (aZ _) ho (.lst ?_)) (by first | exact jD (qt (qu r.length.symm) g) | exact mo (qt (qu r.length.symm) g) | exact qt (qt (qu r.length.symm) g) (by decide)))
    exact r.imp λ_ _ z=>z.mono (λa x e=>by rw[oO (List.getElem?_eq_some_iff.mp e).1];exact e) λb o e _=>k b o e
   | _=>exact ap
  | _=>exact ap
 | bytes=>
  induction x with
  | int i=>
   refine VR.intC rx λt=>?_
   refine Sat.guard λg=>?_
   refine bX (of_decide_eq_true g) λg1 g2=>?_
   refine Sat.any λQ E S _ ok _=>z77 g1 (Int.toNat_le.mp g2) λt' k=>?_
   have e:∀ n:Nat,Array.replicate n (0:UInt8)=(qi n 0).toArray:=λn=>by simp
   rw[e];exact ok _ _ _ _ _ rfl S .refl (.bytes _ _)
  | ref a=>
   refine VR.refC rx λp hp=>?_
   refine Sat.read hp λo ob e1 e2 r1 n1=>?_
   induction o with
   | ba b=>
    refine Sat.guardD λg=>?_
    have:=r1.ba';subst this;exact Sat.any λQ E S _ ok _=>z76 e2 (by first | exact jD g | exact mo g | exact qt g (by decide)) λt' k=>ok _ _ _ _ _ rfl S .refl (.bytes _ _)
   | lst xs=>
    refine Sat.guardD λg=>?_
    obtain⟨is,h1,h2⟩:=r1.isList e2;have hl:=h2.length;refine Sat.lift λbs e=>?_
    refine el13 (z37 h2 e) λns i1 i2 i3=>?_
    refine Sat.any λQ E S _ ok _=>call_bytes_ints h1 i1 i2 (by first | exact jD (qt (qu hl.symm) g) | exact mo (qt (qu hl.symm) g) | exact qt (qt (qu hl.symm) g) (by decide)) Rm.handled λh' t k kp=>?_
    rw[i3];exact ok _ _ _ _ _ rfl (S.keeps kp) (.keeps kp) (.bytes _ _)
   | _=>exact ap
  | bytes b=>
   refine VR.bytesC rx λt=>?_
   refine Sat.guard λg=>?_
   exact Sat.any λQ E S _ ok _=>z8S (ok _ _ _ _ _ rfl S .refl (.bytes _ _))
  | _=>exact ap
 | bytearray=>
  induction x with
  | bytes b=>
   refine VR.bytesC rx λt=>?_
   refine Sat.guardD λg=>?_
   refine Sat.new (λ_ _=>rfl) λQ E q=>z0Q (by first | exact jD g | exact mo g | exact qt g (by decide)) ?_
   have hN0:(s.heap.push (c9 #[])).get? s.heap.objs.size=rc (c9 #[]):=pA _ rfl;have hN1:=oY (pX λ_=>#[]) hN0 rfl;refine q _ s.toks _ _ (λb o e=>?_) (aZ _) (oY _ hN1 rfl) .ba;have ne:s.heap.objs.size≠b:=Nat.ne_of_gt (qp e);rw[oU _ _ ne,oU _ _ ne];exact oS _ e
  | _=>exact ap
 | abs=>
  induction x with
  | int i=>
   refine VR.intC rx λt=>?_
   refine Sat.any λQ E S _ ok _=>PyProof.Rows.call_abs_int λu tk=>?_
   have e:(if i<0 then -i else i)=(i.natAbs:Int):=by
    split
    ·rename_i h;exact(Int.ofNat_natAbs_of_nonpos (Int.le_of_lt h)).symm
    ·rename_i h;exact(Int.natAbs_of_nonneg (Int.not_lt.mp h)).symm
   rw[e];exact ok _ _ _ _ _ rfl S .refl (.int _ _)
  | _=>exact ap
 | sorted=>
  induction x with
  | ref a=>
   refine VR.refC rx λp hp=>?_
   refine Sat.read hp λo ob e1 e2 r1 n1=>?_
   induction o with
   | dct es=>
    refine Sat.guard λg=>Sat.guard λ_=>?_
    refine el12 r1.dct' λkvs d r=>?_
    refine Sat.new (λ_ _=>rfl) λQ E q=>.of (z4n Rm.handled (C.notMods (n1 rfl)) (d.at e2) (by refine r.length▸?_;exact of_decide_eq_true g) λh' tk D vs' ns' e k0 fr he hi hpm hs=>?_)
    refine q h' tk D _ k0 fr he (.lst ?_);simp only[z5n r,<-z6E hpm hs];exact z7G hi
   | _=>exact ap
  | _=>exact ap
 | dict=>
  induction x with
  | ref a=>
   refine VR.refC rx λp hp=>?_
   refine Sat.read hp λo ob e1 e2 r1 n1=>?_
   induction o with
   | lst xs=>
    refine Sat.guard λg=>Sat.lift λes he=>Sat.guard λnd=>?_
    refine r1.lstG e2 λits n e2 r=>?_
    refine aw λ_ Z9=>?_
    refine el13 (z6h r he) λps hl hps rel=>?_
    refine Z9 ?_;refine Sat.new (λ_ _=>rfl) λQ E q=>.of (z3e Rm.handled e2 hl (by simp only[<-hl,<-r.length];exact of_decide_eq_true g) hps λh' tk D k0 fr hd=>?_)
    simp only[show ps.foldl (λa p=>stored a p.1 p.2) []=ps from merged_nil_of_nodup ps (z5n rel▸of_decide_eq_true nd)] at hd
    obtain⟨ob',e',d'⟩:=cy.of hd;refine q h' tk D ob' k0 fr e' (.dct d' (rel.imp λ_ _ z=>⟨z.1,z.2.mono (λa x e=>by rw[oO (List.getElem?_eq_some_iff.mp e).1];exact e) λb o e _=>k0 b o e⟩))
   | _=>exact ap
  | _=>exact ap
 | int=>
  induction x with
  | bool b=>
   refine VR.boolC rx ?_;exact Sat.any λQ E S _ ok _=>call_int_bool (ok _ _ _ _ _ rfl S .refl (.int _ _))
  | _=>exact ap
 | isint=>
  induction x with
  | int i=>
   refine VR.intC rx λt=>?_
   exact Sat.any λQ E S _ ok _=>IsiPair.int_int (ok _ _ _ _ _ rfl S .refl (.bool _))
  | _=>exact ap
end
end
section
section
variable {Y β:Type}{c:Cfg}{A:qZ}{fs:List Env}{X U:List Addr}{J:MH}{s:Shared}{h h':Heap}{a:Nat}{ob:Obj}
theorem z9D {n:Nat}(Rm:Room n A fs){i j:Int}{t u:Tok}:Sat c A fs X U J s (.ok (.int (if j<i then j else i)) J) (VR c) (call (.builtin "min") [.int i t,.int j u]):=
 Sat.any λQ E S _ ok _=>min_two_ints Rm.handled λh' tk k=>ok _ _ _ _ { s with heap:=h',toks:=tk } rfl (S.keeps k) (.keeps k) (by split <;> exact .int _ _)
theorem z1l {op:BOp}{x y:V}{v u:Value}(hop:op = .add∨op = .sub)(rx:VR c U s.heap x v)(ry:VR c U s.heap y u)(hx:∃ i,x = .int i):Sat c A fs X U J s (fc op x y J) (VR c) (inplaceOp (bop op) v u):=by
 obtain⟨i,rfl⟩:=hx;refine VR.intC rx λt=>?_
 induction ry with
 | int j u=>
  rcases hop with rfl | rfl
  ·exact Sat.any λQ E S _ ok _=>iadd_int (ok (.int (i+j)) _ _ _ _ rfl S .refl (.int _ _))
  ·exact Sat.any λQ E S _ ok _=>isub_int (ok (.int (i-j)) _ _ _ _ rfl S .refl (.int _ _))
 | _=>exact ap
noncomputable abbrev ip (l u:Value):Obj:={ cls:=.type "slice",data:=.fields #[l,u,.none] }
inductive PartR:V->Value->Prop
 | none:PartR .none .none
 | int (i:Int)(t:Tok):PartR (.int i) (.int i t)
theorem z4k {o lo hi:V}{v l u:Value}(ro:VR c U s.heap o v)(rl:VR c U s.heap lo l)(rh:VR c U s.heap hi u){sl:Addr}(hs:s.heap.IsSliceOf sl l u .none):Sat c A fs X U J s (c6 o lo hi J) (VR c) (getItem v (.ref sl)):=by
 have ls:∀ {k:Nat},k<=lim->k<=qS:=br;have fin:∀ {xs:List V}{its zs:List Value}{x:Addr}{lo' hi':Option Int},(hq:s.heap.IsList x its.toArray)->IsPart l lo'->IsPart u hi'->(slicePick its.toArray lo' hi' re).toList=zs->VRs c U s.heap xs zs->its.length<=lim->
   Sat c A fs X U J s (Mine.Internal.newList xs J) (VR c) (getItem (.ref x) (.ref sl)):=λ{xs its zs x lo' hi'} hq p1 p2 ez rz hl=>by
  unfold Mine.Internal.newList;refine Sat.guard λ_=>?_
  refine Sat.new (λ_ _=>rfl) λQ E q=>.of (wpAny_getItem_list_slice hq hs p1 p2 .none (by simp) ?_ (by simpa using ls hl))
  have e:slicePick its.toArray lo' hi' re=zs.toArray:=by rw[<-ez]
  refine e▸?_;refine q _ s.toks _ (bI zs 0) (λb o e=>oS _ e) (aZ _) (pA _ rfl) (.lst ?_);exact rz.imp λ_ _ z=>z.mono (λa x e=>by rw[oO (List.getElem?_eq_some_iff.mp e).1];exact e) λb o e _=>oS _ e
 induction o with
 | ref a=>
  refine VR.refC ro λp hp=>?_
  refine Sat.read hp λo ob e1 e2 r1 n1=>?_
  induction o with
  | lst xs=>
   induction lo with
   | int i=>
    induction hi with
    | int j=>
     refine Sat.guard λg=>?_
     refine kO (of_decide_eq_true g) λg1 g2 g3 g4=>?_
     obtain⟨is,h1,h2⟩:=r1.isList e2;obtain⟨t,rfl⟩:=rl.inv_int;obtain⟨t',rfl⟩:=rh.inv_int;have hl:=h2.length;obtain⟨i,rfl⟩:=oQ g1;obtain⟨j,rfl⟩:=oQ (Int.le_trans g1 g2);exact fin h1 (.int _ _) (.int _ _) (by rw[slicePick_run _ _ _ (by simp;omega) (by omega)]) ((h2.drop i).take (j-i)) (by refine h2.length▸?_;exact g4)
    | _=>exact ap
   | _=>exact ap
  | clst xs=>
   induction lo with
   | none=>
    induction hi with
    | int j=>
     refine Sat.guard λg=>?_
     obtain⟨g1,g2⟩:=of_decide_eq_true g;obtain⟨is,h1,h2⟩:=r1.isClist e2;obtain⟨t,rfl⟩:=rh.inv_int;obtain rfl:=rl.inv_none;obtain⟨j,rfl⟩:=oQ g1;exact fin h1 .none (.int _ _) (by rw[slicePick_upto']) (h2.take j) (by refine h2.length▸?_;exact g2)
    | _=>exact ap
   | _=>exact ap
  | _=>exact ap
 | bytes b=>
  refine VR.bytesC ro λt=>?_
  induction lo with
  | int i=>
   induction hi with
   | int j=>
    refine Sat.guard λg=>?_
    obtain⟨g1,g2,g3,g4,g5⟩:=of_decide_eq_true g;obtain⟨tl,rfl⟩:=rl.inv_int;obtain⟨tu,rfl⟩:=rh.inv_int;obtain⟨i,rfl⟩:=oQ g1;obtain⟨j,rfl⟩:=oQ (Int.le_trans g1 g2);have hb:sliceBounds (rc (i:Int)) (rc (j:Int)) re b.toArray.size=((i:Int),(j:Int),1):=by
     rw[sliceBounds_plain];show(((clipAt b.toArray.size (i:Int):Nat):Int),((clipAt b.toArray.size (j:Int):Nat):Int),(1:Int))=_;rw[clipAt_nat,clipAt_nat,pM,Nat.min_eq_left (by omega),Nat.min_eq_left (by omega)]
    have hw:KBy.whole b.toArray (rc (i:Int)) (rc (j:Int))=false:=by
     unfold KBy.whole;refine hb▸?_;simp only[pM,Bool.and_eq_false_iff,beq_eq_false_iff_ne,ne_eq,beq_self_eq_true]
     rcases g4 with z | z
     ·exact .inl (.inl (.inl (by omega)))
     ·exact .inl (.inr (by omega))
    have hpk:KBy.picked b.toArray (rc (i:Int)) (rc (j:Int))=((b.drop i).take (j-i)).toArray:=by
     unfold KBy.picked Builtin.Bytes.sliced;refine hb▸?_;simp only[sliceRange_one,pick_run]
    refine Sat.any λQ E S _ ok _=>getItem_meets (px _ _ _) (by decide) FB.slot_bytes_getitem FB.entry_bytes_getitem (FB.args_bytes_getitem_2 _ _) (KBy.meets_slice b.toArray t sl (.int _ _) (.int _ _) hw) ⟨hs,?_,?_⟩
    ·simp only[hpk,qx]
     simp only[pM,List.length_take,List.length_drop];exact qt (Nat.min_le_right _ _) (qt (Nat.sub_le _ _) (qx▸br g5))
    ·rw[hpk]
     exact ok _ _ _ _ _ rfl S .refl (.bytes _ _)
   | _=>exact ap
  | _=>exact ap
 | _=>exact ap
theorem z51 {o x:V}{v u:Value}(ro:VR c U s.heap o v)(rx:VR c U s.heap x u){sl:Addr}(hs:s.heap.IsSliceOf sl .none .none .none):Sat c A fs X U J s (z8h o x J) o9 (setItem v (.ref sl) u):=by
 induction o with
 | ref a=>
  induction x with
  | bytes b=>
   refine VR.refC ro λp hp=>?_
   refine VR.bytesC rx λt=>?_
   refine Sat.read hp λo ob e1 e2 r1 n1=>?_
   induction o with
   | ba old=>
    refine Sat.guard λg=>?_
    refine bX (of_decide_eq_true g) λg1 g2=>?_
    have:=r1.ba';subst this;intro Q E S _ ok _;refine z6T e2 hs g1 (by have:=br g2;simpa using this) λh' k ho=>?_
    exact ok () _ _ _ _ rfl (S.butK hp e2 (λb o ne e=>k b o ne e) ho .ba (n1 rfl) r1.unfrozen) (Evo.butK hp e2 (λb o ne e=>k b o ne e) ho r1.unfrozen) trivial
   | _=>exact ap
  | _=>exact ap
 | _=>exact ap
end
end
section
namespace FJ
theorem slot:Slot "bytes" "join" "bytes.join":=
 .of (owner:="bytes") (n:="join") (by rw[qd,oZ];kernel_rfl) (by decide +kernel) (by decide +kernel) (by decide +kernel)
  (by first | exact .inl (by decide +kernel) | exact .inr (by decide +kernel)) (by rw[qj];kernel_rfl)
theorem entry:entryFor table "bytes.join" = rc Builtin.«bytes.join»:=by first | exact entryFor_of_fast (by kernel_rfl) | exact pV (by kernel_rfl)
theorem args (a b:Value):argsOk "bytes.join" ⟨[a,b],[]⟩:=by unfold argsOk;kernel_rfl
end FJ
class inductive BytesAre:List Value->List (List UInt8)->Prop
 | nil:BytesAre [] []
 | cons {b:List UInt8}{t:Tok} {vs bs}:BytesAre vs bs->BytesAre (.bytes b.toArray t:: vs) (b:: bs)
theorem z4H (bs:List (List UInt8)):Builtin.Bytes.joined #[] (bs.map List.toArray)=bs.flatten.toArray:=by
 unfold Builtin.Bytes.joined;have key:∀ (bs:List (List UInt8))(k:Nat)(acc:Array UInt8),((bs.map List.toArray).zipIdx k).foldl (λout (x:Array UInt8×Nat)=>(if x.2 > 0 then out ++ #[] else out)++x.1) acc=acc++bs.flatten.toArray:=by
  intro bs
  induction bs with
  | nil=>intro k acc;simp
  | cons b bs ih=>
   intro k acc;simp only[ql,List.zipIdx_cons,List.foldl_cons];rw[ih]
   split <;> simp
 have:=key bs 0 #[];simpa using this
section
variable {prog:qW}{w:World}{A:qZ}{E:VP}{s:Shared}{t:Tok}
theorem dw {M:Model}{keep:List Value}{Q:Unit->Shared->Prop}(h:Q () s):∀ (vs:List Value),wpAny M A (Builtin.Bytes.joinLetGo (vs.map λv=>(v,re)) keep) Q E s
 | []=>by unfold Builtin.Bytes.joinLetGo;exact qF h
 | v:: vs=>by
  rw[ql];unfold Builtin.Bytes.joinLetGo;dsimp only
  first
  | exact qE (wpAny_letGo (dw h vs))
  | exact qE (qF (qE (wpAny_letGo (dw h vs))))
theorem z97 {vs:List Value}{bs:List (List UInt8)}(hb:BytesAre vs bs):vs.length=bs.length/\∀ i,i<vs.length->∃ b t,vs[i]? = rc (.bytes b t)/\bs[i]? = rc b.toList:=by
 induction hb with
 | nil=>exact⟨rfl,λi hi=>absurd hi (Nat.not_lt_zero _)⟩
 | @cons b t vs bs _ ih=>
  refine⟨congrArg Nat.succ ih.1,λi hi=>?_⟩
  induction i with
  | zero=>exact⟨b.toArray,t,rfl,rfl⟩
  | succ i=>exact ih.2 i (oV hi)
theorem z68:∀ (bs:List (List UInt8))(k:Nat),List.foldl (λx (y:Array UInt8)=>x+y.size) k (bs.map List.toArray)=k+bs.flatten.length:=by
 intro bs
 induction bs with
 | nil=>intro k;rfl
 | cons b bs ih=>intro k;rw[ql,List.foldl_cons,ih,List.flatten_cons,pF,Nat.add_assoc];rfl
noncomputable abbrev JSt:=Array (Array UInt8)×List (Value×Option Value)
noncomputable abbrev jst (vs:List Value)(bs:List (List UInt8)):JSt:=((bs.map List.toArray).toArray,vs.map λv=>(v,re))
theorem z69 {vs:List Value}{bs:List (List UInt8)}{P:PySem.Fin->Shared->Prop}(hz:bs.flatten.length<=qS)(h:∀ t' k,P (.done (.ret (.bytes bs.flatten.toArray t'))) { s with toks:=k }):wpAny (model prog w) A (do
   let sep<-Builtin.Bytes.payload (.bytes #[] t)
   if Builtin.Bytes.tooLong (Array.foldl (λx y=>x+y.size) (sep.size*((jst vs bs).1.size-1)) (jst vs bs).1)=rg then unsupported s!"{s!"{Builtin.Bytes.Kind.bytes.name}.join"}:memory"
   let result<-Builtin.Bytes.Kind.bytes.new (Builtin.Bytes.joined sep (jst vs bs).1.toList)
   holding (result:: (jst vs bs).2.flatMap λ(x:Value×Option Value)=>x.1:: x.2.toList) point
   Builtin.Bytes.joinLetGo (jst vs bs).2 [result]
   ret result) P E s:=by
 refine bQ (λh=>qy (a:=#[]) rfl h) ?_;have hz':Builtin.Bytes.tooLong (Array.foldl (λx y=>x+y.size) ((#[]:Array UInt8).size*((bs.map List.toArray).toArray.size-1)) (bs.map List.toArray).toArray)=false:=by
  rw[show(#[]:Array UInt8).size*((bs.map List.toArray).toArray.size-1)=0 from Nat.zero_mul _,List.foldl_toArray,z68,qr];exact decide_eq_false (Nat.not_lt.mpr hz)
 dsimp only;rw[if_neg (by rw[hz'];exact pE)];refine qE ?_;show wpAny _ _ (mkBytes (Builtin.Bytes.joined #[] (bs.map List.toArray))) _ _ _;rw[z4H];exact wpAny_mkBytes (qE (qm (wpAny_point (qE (dw (qF (h _ _)) vs))))) (by simpa using hz)
theorem z67 {vs:List Value}{bs:List (List UInt8)}(hl:vs.length=bs.length){f:Nat->JSt->Sem (ForInStep JSt)}{Q:JSt->Shared->Prop}
  (turn:∀ i,i<vs.length->wpAny (model prog w) A (f i (jst (vs.take i) (bs.take i))) (λr s'=>r = .yield (jst (vs.take (i+1)) (bs.take (i+1)))/\s'=s) E s)
  (fin:Q (jst vs bs) s):wpAny (model prog w) A (forIn [:vs.toArray.size] ((#[]:Array (Array UInt8)),([]:List (Value×Option Value))) f) Q E s:=by
 rw[Std.Legacy.Range.forIn_eq_forIn_range'];refine wpAny_forIn_list (s:=s) _ (λrest b s'=>∃ i,rest=List.range' i (vs.length-i)/\i<=vs.length/\b=jst (vs.take i) (bs.take i)/\s'=s) _ ?_ ?_ _ _ ⟨0,by simp[Std.Legacy.Range.size],qB _,by simp[jst],rfl⟩
 ·rintro x rest b s' ⟨i,e,hi,rfl,rfl⟩
  cases hk:vs.length-i with
  | zero=>rw[hk] at e;cases e
  | succ k=>
   rw[hk,List.range'_succ] at e
   obtain⟨rfl,rfl⟩:=List.cons.inj e;have hx:x<vs.length:=Nat.lt_of_sub_ne_zero (hk▸Nat.succ_ne_zero k);refine wpAny_mono (turn x hx) (λr s' z=>?_) λ_ _ z=>z
   obtain⟨rfl,rfl⟩:=z;exact oC (x+1) (by rw[(Nat.sub_succ .. : vs.length-(x+1)=_),hk];rfl) hx rfl rfl
 ·rintro b s' ⟨i,e,hi,rfl,rfl⟩
  cases hk:vs.length-i with
  | succ k=>rw[hk,List.range'_succ] at e;cases e
  | zero=>
   obtain rfl:i=vs.length:=Nat.le_antisymm hi (Nat.le_of_sub_eq_zero hk);rw[List.take_length,hl,List.take_length];exact fin
theorem z66 {vs:List Value}{bs:List (List UInt8)}(hb:BytesAre vs bs):∀ i,((vs.take i).map λv=>(v,(re:Option Value))).any (·.1.onHeap)=false:=by
 induction hb with
 | nil=>intro i;rw[List.take_nil];rfl
 | cons _ ih=>intro i;induction i with
  | zero=>rfl
  | succ i=>exact ih i
theorem z8R {a:Addr}{x y:Value}{r:List Value}{bs:List (List UInt8)}{n:Nat}{o:Obj}{Q:VP}(ho:s.heap.get? a=rc o)(hc:o.cls = .type "list")(hd:o.data = .seq (x:: y:: r).toArray n)(hb:BytesAre (x:: y:: r) bs)(hz:bs.flatten.length<=qS)
  (h:∀ t' k,Q (.bytes bs.flatten.toArray t') { s with toks:=k }):wpAny (model prog w) A (call (.builtin "bytes.join") [.bytes #[] t,.ref a]) Q E s:=by
 refine wpAny_call_entry FJ.slot (typeIs_bytes _ _ _) FJ.entry ?_ (FJ.args _ _);unfold Builtin.«bytes.join» Builtin.Bytes.joinM;refine qE (qy (a:=(Value.bytes #[] t,qN a)) rfl ?_);dsimp only;refine qE (bQ (λh=>wpAny_typeOf (T:="list") ⟨o,ho,hc⟩ h) ?_);refine qF ?_;refine bQ (λh=>wpAny_seqItems ho hd h) ?_;dsimp only;refine bX (z97 hb) λhl hn=>?_
 refine qE (m:=forIn _ _ _) (z67 (vs:=x:: y:: r) hl (λi hi=>?_) (z69 hz λt' k=>⟨_,rfl,h t' k⟩));refine el22 (hn i hi) λb t' e1 e2=>?_
 refine bQ (λh=>wpAny_seqItems ho hd h) ?_;dsimp only;rw[if_neg (by simp only[z66 hb i];decide)];have eg:(x:: y:: r).toArray.getD i qI = .bytes b t':=by
  simp only[Array.getD_eq_getD_getElem?,p0,e1];rfl
 refine eg▸?_;refine qE (qm (qy z4p ?_));refine bQ (λh=>wpAny_seqItems ho hd h) ?_;dsimp only;rw[if_neg (by simp)];refine qF ⟨?_,rfl⟩;unfold jst;simp only[List.take_add_one,List.take_add_one,e1,e2];simp
theorem z75 {a:Addr}{b:Array UInt8}{u:Tok}{n:Nat}{o:Obj}{Q:VP}(ho:s.heap.get? a=rc o)(hc:o.cls = .type "list")(hd:o.data = .seq [Value.bytes b u].toArray n)
  (h:∀ t' k,Q (.bytes b t') { s with toks:=k }):wpAny (model prog w) A (call (.builtin "bytes.join") [.bytes #[] t,.ref a]) Q E s:=by
 refine wpAny_call_entry FJ.slot (typeIs_bytes _ _ _) FJ.entry ?_ (FJ.args _ _);unfold Builtin.«bytes.join» Builtin.Bytes.joinM;refine qE (qy (a:=(Value.bytes #[] t,qN a)) rfl ?_);dsimp only;refine qE (bQ (λh=>wpAny_typeOf (T:="list") ⟨o,ho,hc⟩ h) ?_);refine qF ?_;refine bQ (λh=>wpAny_seqItems ho hd h) ?_;refine bQ (λh=>wpAny_typeOf (typeIs_bytes _ _ _) h) ?_;exact qE (wpAny_rule (qF ⟨_,rfl,h _ _⟩))
end
end
end Mine.Internal
end
section
open PySem PySem.W PyProof.Rows PySem.Calls
open PySem.MeetsSeq (plain_remove_loop entry_remove_loop size_erased)
open AutoSeq1 (wpAny_loadPart')
namespace Mine.Internal
noncomputable def EqC (prog:qW)(w:World)(A:qZ)(s:Shared)(y x:Value)(b:Bool):Prop:=∀ (E:VP)(Q:Bool->Shared->Prop),Q b s->wpAny (model prog w) A (eqBool y x) Q E s
section
variable {prog:qW}{w:World}{A:qZ}
theorem z9n (l:Addr)(items:Array Value)(n:Nat)(x:Value)(j:Nat)(hj:j<items.size)(hs1:items.size<=qS){R:r6->Shared->Prop}:∀ (k i:Nat)(s:Shared),j=i+k->
  s.heap.get? l=rc { cls:=.type "list",dict:=re,data:=.seq items n,slots:=#[] }->EqC prog w A.in1 s items[j] x rg->(∀ m (hm:m<items.size),i<=m->m<j->EqC prog w A.in1 s items[m] x rj)->
  R (.ok (.ret .none)) { s with heap:=s.heap.update l (Obj.mapSeq λxs=>xs.eraseIdxIfInBounds j) }->
  codeAny (model prog w) A (.builtin "list.remove.loop" ⟨[.ref l,x,r7 i],[]⟩) R s:=by
 intro k
 induction k with
 | zero=>
  intro i s hk hl hit hno h;refine qc entry_remove_loop ?_;refine(pw plain_remove_loop _)▸?_;obtain rfl:i=j:=hk.symm;refine aw λ_ Z9=>?_
  obtain⟨hp,g,d,tk,os⟩:=s;refine Z9 ?_
  wp_walk using wpAny_loadPart' hl
  have hi:items[((i:Nat):Int).toNat]? = rc items[i]:=by simp[hj]
  rw[hi];refine qE (hit _ _ ?_);have hz':(items.eraseIdxIfInBounds i).size<=qS+1:=qt (size_erased items _) (Nat.le_succ_of_le hs1)
  wp_walk using (wpAny_updateSeq hl rfl (hz:=hs1) (_hz':=hz')),wpAny_loadPart' hl
  simpa using h
 | succ k ih=>
  intro i s hk hl hit hno h;refine qc entry_remove_loop ?_;refine(pw plain_remove_loop _)▸?_;have hij:i<j:=hk▸Nat.lt_add_of_pos_right (Nat.succ_pos k);have hlt:i<items.size:=Nat.lt_trans hij hj;have ihh:=ih (i+1) s (hk.trans (Nat.succ_add i k).symm) hl hit (λm hm h1 h2=>hno m hm (Nat.le_of_succ_le h1) h2) h;have hn:=hno i hlt (qC _) hij;refine aw λ_ Z9=>?_
  obtain⟨hp,g,d,tk,os⟩:=s;refine Z9 ?_
  wp_walk using wpAny_loadPart' hl
  have hi:items[((i:Nat):Int).toNat]? = rc items[i]:=by simp[hlt]
  have hc:((i:Int)+1)=((i+1:Nat):Int):=by push_cast;rfl
  refine hi▸?_;refine qE (hn _ _ ?_)
  wp_walk
  rw[hc];exact⟨plainId_quiet plain_remove_loop _,ihh⟩
theorem z3a {s:Shared}{E Q:VP}(l:Addr)(items:Array Value)(n:Nat)(x:Value)(j:Nat)(hj:j<items.size)(hs1:items.size<=qS)(hl:s.heap.get? l=rc { cls:=.type "list",dict:=re,data:=.seq items n,slots:=#[] })
  (hit:EqC prog w A.in1 s items[j] x rg)(hno:∀ m (hm:m<items.size),m<j->EqC prog w A.in1 s items[m] x rj)(h:Q .none { s with heap:=s.heap.update l (Obj.mapSeq λxs=>xs.eraseIdxIfInBounds j) }):
  wpAny (model prog w) A (call (.builtin "list.remove") [.ref l,x]) Q E s:=by
 refine wpAny_call (codeAny_call_builtin F.slot_list_remove.plain F.entry_list_remove (F.slot_list_remove.check _ _ _ _ _ _ _ _ ⟨_,hl,rfl⟩ (F.args_list_remove_2 _ _) ?_));show wpAny _ _ (pure (qN l,x) >>= λr=>_) _ _ _;exact qE (qF (qF ⟨plainId_quiet plain_remove_loop _,z9n l items n x j hj hs1 j 0 s (qr j).symm hl hit (λm hm _ h2=>hno m hm h2) h⟩))
end
noncomputable def bZ (c:Cfg):Prop:=∀ (A:qZ)(s:Shared)(U:List Addr)(a b k l dk dl:Nat)(x y:Addr)(ox oy:Obj),5<=k->5<=l->c.base.StaysIn s.heap->A.units<cLine->s.heap.get? x=rc ox->s.heap.get? y=rc oy->OR c U s.heap a (.inst k dk) ox->OR c U s.heap b (.inst l dl) oy->x≠y->
 EqC c.prog c.w A s (.ref x) (.ref y) rj
section
variable {Y β:Type}{c:Cfg}{A:qZ}{fs:List Env}{X U:List Addr}{J:MH}{s:Shared}{h h':Heap}{a:Nat}{ob:Obj}
theorem EqC.of {v u:Value}{r:Bool}(h:SeqAt.EqAt A s v u r):EqC c.prog c.w A s v u r:=λE Q hq=>h c.prog c.w E Q hq
theorem z6o {v:V}{a:Nat}(e:v.refOf=rc a):v = .ref a:=by
 induction v with
 | ref b=>cases e;rfl
 | _=>exact bE e
theorem z2a {a:Nat}(e:J.instAt a=rg):∃ k d,J.get a=rc (.inst k d)/\5<=k:=by
 unfold MH.instAt at e
 cases q:J.get a with
 | none=>rw[q] at e;exact pY e
 | some o=>
  rw[q] at e
  induction o with
  | inst k d=>exact⟨k,d,rfl,Nat.le_of_ble_eq_true e⟩
  | _=>exact pY e
theorem z7x (I:bZ c)(S:St c fs U J s.heap)(hu:A.units<cLine){i:Nat}{p:Addr}(hp:U[i]? = rc p){xs:List V}{its:List Value}(r:VRs c U s.heap xs its):∀ {j:Nat},jp J i xs=rc j->
  ∃ hj:j<its.length,EqC c.prog c.w A s its[j] (.ref p) rg/\∀ m (hm:m<its.length),m<j->EqC c.prog c.w A s its[m] (.ref p) false:=by
 induction r with
 | nil=>intro j e;exact bE e
 | @cons v w vs ws rv r ih=>
  intro j e;replace e:(match v.refOf with | none=>re | some b=>match qX b i with | true=>rc 0 | false=>match J.instAt i&&J.instAt b with | true=>(jp J i vs).map Nat.succ | false=>re)=rc j:=e;cases hv:v.refOf with
  | none=>rw[hv] at e;exact bE e
  | some b=>
   rw[hv] at e
   obtain rfl:=z6o hv;refine VR.refC rv λp' hp'=>?_
   dsimp only at e
   cases hb:qX b i with
   | true=>
    simp only[hb] at e
    obtain rfl:=qb e;obtain rfl:=oX hb;obtain rfl:=qb (hp.symm.trans hp');exact⟨Nat.zero_lt_succ _,EqC.of (SeqAt.EqAt.same _),λm _ h=>absurd h (Nat.not_lt_zero m)⟩
   | false=>
    replace e:=hb▸e;dsimp only at e
    cases hi:J.instAt i&&J.instAt b with
    | false=>rw[hi] at e;exact bE e
    | true=>
     rw[hi] at e
     refine aw λ_ Z9=>?_
     refine el12 (Option.map_eq_some_iff.mp e) λk e1 e2=>?_
     obtain⟨h2,h3,h4⟩:=ih e1;refine Z9 ?_;subst e2;refine aw λ_ Z9=>?_
     obtain⟨i1,i2⟩:=Bool.and_eq_true_iff.mp hi;refine el22 (z2a i1) λk1 d1 q1 g1=>?_
     refine el22 (z2a i2) λk2 d2 q2 g2=>?_
     refine S.objP hp q1 λoz z2 z3 _=>?_
     refine S.objP hp' q2 λoz' z2' z3' _=>?_
     refine Z9 ?_;have hne:=I A s U _ _ _ _ _ _ _ _ _ _ g2 g1 S.base hu z2' z2 z3' z3 λz=>oR hb (by obtain rfl:=z.symm;exact S.inj hp' hp)
     refine⟨Nat.succ_lt_succ h2,h3,λm hm hlt=>?_⟩
     match m,hm,hlt with
     | 0,_,_=>exact hne
     | m+1,hm,hlt=>exact h4 m (oV hm) (oV hlt)
theorem z7w {i:Int}{t:Tok}{xs:List V}{its:List Value}(r:VRs c U s.heap xs its):∀ {j:Nat},kq i xs=rc j->
  ∃ hj:j<its.length,EqC c.prog c.w A s its[j] (.int i t) rg/\∀ m (hm:m<its.length),m<j->EqC c.prog c.w A s its[m] (.int i t) false:=by
 induction r with
 | nil=>intro j e;exact bE e
 | @cons v w vs ws rv r ih=>
  intro j e
  induction v with
  | int k=>
   replace e:(if k=i then rc 0 else(kq i vs).map Nat.succ)=rc j:=e;refine VR.intC rv λt'=>?_
   have eq:=EqC.of (c:=c) (SeqAt.EqAt.int_int (A:=A) (s:=s) k t' i t);by_cases q:k=i
   ·rw[if_pos q] at e
    obtain rfl:=qb e;simp only[beq_iff_eq.mpr q] at eq
    exact⟨Nat.zero_lt_succ _,eq,λm _ h=>absurd h (Nat.not_lt_zero m)⟩
   ·rw[if_neg q] at e
    simp only[beq_eq_false_iff_ne.mpr q] at eq
    refine el12 (Option.map_eq_some_iff.mp e) λj e1 ez3=>?_;subst ez3
    obtain⟨h2,h3,h4⟩:=ih e1;refine⟨Nat.succ_lt_succ h2,h3,λm hm hlt=>?_⟩
    match m,hm,hlt with
    | 0,_,_=>exact eq
    | m+1,hm,hlt=>exact h4 m (oV hm) (oV hlt)
  | _=>exact bE e
theorem z7y (I:bZ c)(S:St c fs U J s.heap)(hu:A.units<cLine){x:V}{w:Value}(rx:VR c U s.heap x w){xs:List V}{its:List Value}(r:VRs c U s.heap xs its){j:Nat}(e:kr J x xs=rc j):
  ∃ hj:j<its.length,EqC c.prog c.w A s its[j] w rg/\∀ m (hm:m<its.length),m<j->EqC c.prog c.w A s its[m] w false:=by
 induction x with
 | int i=>refine VR.intC rx λt=>?_;exact z7w r e
 | ref a=>refine VR.refC rx λp hp=>?_;exact z7x I S hu hp r e
 | _=>exact bE e
noncomputable def jb:BM->String
 | .get=>"dict.get" | .append=>"list.append" | .extend=>"bytearray.extend" | .remove=>"list.remove" | .pop=>"dict.pop" | .join=>"bytes.join"
theorem z65 {U:List Addr}{h:Heap}{xs:List V}{its:List Value}(r:VRs c U h xs its):∀ {r:List UInt8},jz xs=rc r->∃ bs,BytesAre its bs/\bs.flatten=r:=by
 induction r with
 | nil=>exact λe=>⟨[],.nil,qb e⟩
 | @cons x v xs its a as ih=>
  intro r e
  induction x with
  | bytes b=>
   refine VR.bytesC a λt=>?_
   refine el12 (Option.map_eq_some_iff.mp e) λr' e1 ez6=>?_;subst ez6
   refine el12 (ih e1) λbs h1 ez7=>?_;subst ez7
   exact bf (b:: bs) (.cons h1) rfl
  | _=>cases e
theorem zbf (C:CfgOk c)(I:bZ c){n:Nat}(Rm:Room n A fs){p:Addr}{ob:Obj}{a:Nat}{es:List (Int×V)}{k:Int}{w:Value}(hp:U[a]? = rc p)(e2:s.heap.get? p=rc ob)(r1:OR c U s.heap a (.dct es) ob)(n1:c.base.get? p=re)(rk:VR c U s.heap (.int k) w):
  Sat c A fs X U J s ((pure ((af k es).getD .none):M V) J) (VR c) (call (.builtin (jb .get)) [.ref p,w]):=by
 have sl:qS=16777216:=qx;have ll:lim=1000000:=rfl;refine aw λ_ Z9=>?_
 obtain⟨t,rfl⟩:=rk.inv_int;obtain⟨kvs,d,r⟩:=r1.dct';refine Z9 ?_;have:=gW (f:=(id:Int->Int)) iD (k:=k) r;refine Sat.any λQ E S _ ok _=>call_meetsIn F.slot_dict_get (d.at e2).typeIs F.entry_dict_get (F.args_dict_get_2 _ _) (meets_dict_get (iK c) p (iC c k t) (C.notMods n1)) ⟨_,(d.at e2).mapOf,?_⟩
 refine ok _ _ _ _ _ rfl S .refl ?_;cases q:af k es with
 | none=>rw[q] at this;dsimp only[id] at this;rw[this];exact .none
 | some v=>rw[q] at this;obtain⟨v',h1,h2⟩:=this;dsimp only[id] at h1;rw[h1];exact h2
theorem zbg (C:CfgOk c)(I:bZ c){n:Nat}(Rm:Room n A fs){p:Addr}{ob:Obj}{a:Nat}{es:List (Int×V)}{k:Int}{dv:V}{w u:Value}(hp:U[a]? = rc p)(e2:s.heap.get? p=rc ob)(r1:OR c U s.heap a (.dct es) ob)(n1:c.base.get? p=re)(rk:VR c U s.heap (.int k) w)(rd:VR c U s.heap dv u):
  Sat c A fs X U J s ((pure ((af k es).getD dv):M V) J) (VR c) (call (.builtin (jb .get)) [.ref p,w,u]):=by
 have sl:qS=16777216:=qx;have ll:lim=1000000:=rfl;refine aw λ_ Z9=>?_
 obtain⟨t,rfl⟩:=rk.inv_int;obtain⟨kvs,d,r⟩:=r1.dct';refine Z9 ?_;have:=gW (f:=(id:Int->Int)) iD (k:=k) r;refine Sat.any λQ E S _ ok _=>call_meetsIn F.slot_dict_get (d.at e2).typeIs F.entry_dict_get (F.args_dict_get_3 _ _ _) (meets_dict_get_default (iK c) p (iC c k t) (C.notMods n1) u) ⟨_,(d.at e2).mapOf,?_⟩
 refine ok _ _ _ _ _ rfl S .refl ?_;cases q:af k es with
 | none=>rw[q] at this;dsimp only[id] at this;rw[this];exact rd
 | some v=>simp only[q] at this;obtain⟨v',h1,h2⟩:=this;dsimp only[id] at h1;refine h1▸?_;exact h2
theorem zcv (C:CfgOk c)(I:bZ c){n:Nat}(Rm:Room n A fs){p:Addr}{ob:Obj}{a:Nat}{es:List (Int×V)}{k:Int}{w:Value}(hp:U[a]? = rc p)(e2:s.heap.get? p=rc ob)(r1:OR c U s.heap a (.dct es) ob)(n1:c.base.get? p=re)(rk:VR c U s.heap (.int k) w):
  Sat c A fs X U J s ((do M.guard (decide (es.length<=lim));let v<-M.lift (af k es);M.write a (.dct (bR k es));pure v:M V) J) (VR c) (call (.builtin (jb .pop)) [.ref p,w]):=by
 have sl:qS=16777216:=qx;have ll:lim=1000000:=rfl;refine VR.intC rk λt=>?_
 refine el12 r1.dct' λkvs d r=>?_
 have:=gW (f:=(id:Int->Int)) iD (k:=k) r;refine Sat.guardD λg=>?_
 refine Sat.lift λr' e=>?_
 simp only[e] at this
 obtain⟨v',h1,h2⟩:=this;refine Sat.writeThen (b:=v') (v:=r') (x:=p) (λ_=>rfl) hp e2 n1 r1.unfrozen (λQ E q=>?_) λh' fz=>h2.mono (λ_ _ z=>z) fz
 refine call_meetsIn F.slot_dict_pop (d.at e2).typeIs F.entry_dict_pop (F.args_dict_pop_2 _ _) (meets_dict_pop_there (iK c) p (iC c k t) [] (.inl rfl) rfl) ⟨kvs,v',d.at e2,by refine r.length▸?_;omega,h1,λh' hd hs=>?_⟩;obtain⟨ob',e',d'⟩:=cy.of hd;exact q h' _ ob' hs e' (.dct d' (z7O (f:=(id:Int->Int)) iD r d.nodup))
theorem z7W (C:CfgOk c)(I:bZ c){n:Nat}(Rm:Room n A fs){p:Addr}{ob:Obj}{a:Nat}{xs:List V}{x:V}{w:Value}(hp:U[a]? = rc p)(e2:s.heap.get? p=rc ob)(r1:OR c U s.heap a (.lst xs) ob)(n1:c.base.get? p=re)(rk:VR c U s.heap x w):
  Sat c A fs X U J s ((do M.guard (decide (xs.length<lim));M.write a (.lst (xs++[x]));pure .none:M V) J) (VR c) (call (.builtin (jb .append)) [.ref p,w]):=by
 have sl:qS=16777216:=qx;have ll:lim=1000000:=rfl;refine Sat.guardD λg=>?_
 refine el22 r1.lst' λis m ez2=>?_;subst ez2;intro r
 have hl:=r.length;refine Sat.writeThen (b:=.none) (v:=.none) (x:=p) (λ_=>rfl) hp e2 n1 r1.unfrozen (λQ E q=>?_) λh' fz=>.none
 refine append_at e2 (λh' hs e=>q h' s.toks _ hs (by simpa using e) (.lst (r.append (.cons rk .nil)))) (by rw[pM,<-hl];exact br (Nat.le_of_lt g))
theorem z7Y (C:CfgOk c)(I:bZ c){n:Nat}(Rm:Room n A fs){p:Addr}{ob:Obj}{a:Nat}{xs:List V}{x:V}{w:Value}(hp:U[a]? = rc p)(e2:s.heap.get? p=rc ob)(r1:OR c U s.heap a (.lst xs) ob)(n1:c.base.get? p=re)(rk:VR c U s.heap x w):
  Sat c A fs X U J s ((do M.guard (decide (xs.length<=lim));let i<-iA x xs;M.write a (.lst (xs.eraseIdx i));pure .none:M V) J) (VR c) (call (.builtin (jb .remove)) [.ref p,w]):=by
 have sl:qS=16777216:=qx;have ll:lim=1000000:=rfl;refine Sat.guardD λg=>?_
 refine el22 r1.lst' λis m ez5=>?_;subst ez5;intro r
 have hl:=r.length;refine Sat.using λS=>?_
 cases q:kr J x xs with
 | none=>exact Sat.bad (by show M.bind (iA x xs) _ J=_;simp only[M.bind,iA,q])
 | some j=>
  refine aw λ_ Z9=>?_
  obtain⟨hj,h1,h2⟩:=z7y I (A:=A.in1) S (pJ (Nat.add_le_add_right (qt (Nat.le_add_right _ _) Rm.units) 1) (show 9000+1<9900 by decide)) rk r q;refine Z9 ?_;refine Sat.left (show iA x xs J = .ok j J by unfold iA;rw[q]) ?_;refine Sat.writeThen (b:=.none) (v:=.none) (x:=p) (λ_=>rfl) hp e2 n1 r1.unfrozen (λQ E q=>?_) λh' fz=>.none
  refine z3a p is.toArray m w j (by simpa using hj) (by rw[pM,<-hl];exact br g) e2 h1 (λm hm hlt=>by simpa using h2 m hm hlt) ?_;have hj':j<is.toArray.size:=by simpa using hj
  refine q _ s.toks (bI (is.eraseIdx j) (m+1)) (pB ..) ?_ (.lst (r.eraseIdx j));rw[oY _ e2 (by rw[mapSeq_erase _ _ _ hj'];rfl),mapSeq_erase _ _ _ hj']
theorem z7X (C:CfgOk c)(I:bZ c){n:Nat}(Rm:Room n A fs){p:Addr}{ob:Obj}{a:Nat}{b x:List UInt8}{w:Value}(hp:U[a]? = rc p)(e2:s.heap.get? p=rc ob)(r1:OR c U s.heap a (.ba b) ob)(n1:c.base.get? p=re)(rk:VR c U s.heap (.bytes x) w):
  Sat c A fs X U J s ((do M.guard (decide (b.length+x.length<=lim));M.write a (.ba (b++x));pure .none:M V) J) (VR c) (call (.builtin (jb .extend)) [.ref p,w]):=by
 have sl:qS=16777216:=qx;have ll:lim=1000000:=rfl;refine VR.bytesC rk λt=>?_
 refine Sat.guardD λg=>?_
 have:=r1.ba';subst this;intro Q E S _ ok _;refine z6S e2 (by simp;exact br g) ?_;have eu:(s.heap.update p (pX (· ++ x.toArray))).get? p=rc (c9 (b++x).toArray):=by
  rw[oY _ e2 rfl];show rc (c9 (b.toArray++x.toArray))=_;simp
 exact ok .none _ _ _ _ rfl (S.but hp e2 (pB ..) eu .ba n1 r1.unfrozen) (Evo.but hp e2 (pB ..) eu r1.unfrozen) .none
theorem zbh {a:Nat}{w:Value}{t:Tok}(rk:VR c U s.heap (.ref a) w):
  Sat c A fs X U J s ((do match<-M.read a with | .lst xs=>(do M.guard (decide (1<=xs.length));let r<-M.lift (jz xs);M.guard (decide (r.length<=lim));pure (.bytes r)) | _=>M.bad:M V) J) (VR c) (call (.builtin (jb .join)) [.bytes #[] t,w]):=by
 have sl:qS=16777216:=qx;have ll:lim=1000000:=rfl;refine VR.refC rk λp hp=>?_
 refine Sat.read hp λo ob e1 e2 r1 n1=>?_
 induction o with
 | lst xs=>
  refine el22 r1.lst' λis m ez4=>?_;subst ez4;intro r
  refine Sat.guard λg1=>Sat.lift λbs e=>Sat.guard λg=>?_
  have g:=of_decide_eq_true g;have g1:=r.length▸of_decide_eq_true g1;refine aw λ_ Z9=>?_
  refine el12 (z65 r e) λbs' h1 ez5=>?_;subst ez5
  refine Z9 ?_;refine Sat.any λQ E S _ ok _=>?_
  cases h1 with
  | nil=>cases g1
  | @cons b t' is bs h2=>
   induction h2 with
   | nil=>exact z75 e2 rfl rfl λt' k=>ok _ _ _ _ _ rfl S .refl (by refine List.flatten_singleton▸?_;exact .bytes _ _)
   | cons h3=>exact z8R e2 rfl rfl (.cons (.cons h3)) (by lia) λt' k=>ok _ _ _ _ _ rfl S .refl (.bytes _ _)
 | _=>exact ap
theorem z6B (C:CfgOk c)(I:bZ c){n:Nat}(Rm:Room n A fs){b:BM}{o:V}{as:List V}{v:Value}{vals:List Value}(ro:VR c U s.heap o v)(ra:VRs c U s.heap as vals):Sat c A fs X U J s (cp b o as J) (VR c) (call (.builtin (jb b)) (v:: vals)):=by
 induction o with
 | ref a=>
  refine VR.refC ro λp hp=>?_
  refine Sat.read hp λo ob e1 e2 r1 n1=>?_
  induction b with
  | get=>
   induction o with
   | dct es=>
    induction ra with
    | nil=>exact ap
    | @cons x w _ _ rk ra=>
     induction x with
     | int k=>
      induction ra with
      | nil=>exact zbf C I Rm hp e2 r1 (n1 rfl) rk
      | cons rd ra=>induction ra with
       | nil=>exact zbg C I Rm hp e2 r1 (n1 rfl) rk rd
       | cons _ _=>exact ap
     | _=>exact ap
   | _=>exact ap
  | pop=>
   induction o with
   | dct es=>
    induction ra with
    | nil=>exact ap
    | @cons x w _ _ rk ra=>
     induction x with
     | int k=>
      induction ra with
      | nil=>exact zcv C I Rm hp e2 r1 (n1 rfl) rk
      | cons rd ra=>exact ap
     | _=>exact ap
   | _=>exact ap
  | append=>
   induction o with
   | lst xs=>
    induction ra with
    | nil=>exact ap
    | cons rk ra=>induction ra with
     | nil=>exact z7W C I Rm hp e2 r1 (n1 rfl) rk
     | cons rd ra=>exact ap
   | _=>exact ap
  | remove=>
   induction o with
   | lst xs=>
    induction ra with
    | nil=>exact ap
    | cons rk ra=>induction ra with
     | nil=>exact z7Y C I Rm hp e2 r1 (n1 rfl) rk
     | cons rd ra=>exact ap
   | _=>exact ap
  | extend=>
   induction o with
   | ba b=>
    induction ra with
    | nil=>exact ap
    | @cons x w _ _ rk ra=>
     induction x with
     | bytes x=>
      induction ra with
      | nil=>exact z7X C I Rm hp e2 r1 (n1 rfl) rk
      | cons rd ra=>exact ap
     | _=>exact ap
   | _=>exact ap
  | join=>exact ap
 | bytes q=>
  induction q with
  | cons _ _=>exact ap
  | nil=>
   induction b with
   | join=>
    refine VR.bytesC ro λt=>?_
    induction ra with
    | nil=>exact ap
    | @cons x w _ _ rk ra=>
     induction x with
     | ref a=>
      induction ra with
      | nil=>exact zbh rk
      | cons _ _=>exact ap
     | _=>exact ap
   | _=>exact ap
 | _=>exact ap
end
end Mine.Internal
end
section
open PySem PySem.W PyProof.Rows PySem.Calls
namespace Mine.Internal
section
structure ClsOk (K:Frag)(C:Addr):Prop where
 ga:r8 K (.ref C) "__getattribute__" = rc (rc (.builtin "object.__getattribute__"))
 gt:r8 K (.ref C) "__getattr__" = rc re
 st:r8 K (.ref C) "__setattr__" = rc (rc (.builtin "object.__setattr__"))
 po:plainOver K C=rg
 hd:hasDictIn K C=rg
 mak:makesIn K C=rg
structure WOk (c:Cfg):Prop where
 K:c.K.In c.base
 hg:c.base.Ns qw c.mg
 hb:c.base.Ns qD c.mb
 fno:∀ f x,c.fnNm f=rc x->∃ o fd,c.base.get? (c.fnA f)=rc o/\o.data = .func fd
 gfn:∀ f x,c.fnNm f=rc x->c.mg x=rc (.ref (c.fnA f))
 gcls:∀ k x,c.clsNm k=rc x->c.mg x=rc (.ref (c.cls k))/\∃ f,c.P.init k=rc f
 gint:∀ x i,c.P.gint x=rc i->∃ t,c.mg (c.nm x)=rc (.int i t)
 blt:∀ x v,(x,v)∈[(("len" : Str),Value.builtin "len"),("list",.type "list"),("bytes",.type "bytes"),("bytearray",.type "bytearray"),("abs",.builtin "abs"),("dict",.type "dict"),("int",.type "int"),
  ("isinstance",.builtin "isinstance"),("min",.builtin "min"),("range",.type "range"),("enumerate",.type "enumerate"),("reversed",.type "reversed"),("sorted",.builtin "sorted")]->c.mg x=re/\c.mb x=rc v
 fld:∀ k f,c.P.fld k f=rg->ClsOk c.K (c.cls k)/\r8 c.K (.ref (c.cls k)) (c.nm f)=rc re
 mth:∀ k m f,c.P.mth k m=rc f->ClsOk c.K (c.cls k)/\r8 c.K (.ref (c.cls k)) (c.nm m)=rc (rc (.ref (c.fnA f)))/\typeIn c.K (.ref (c.fnA f))=rc (.type "function")/\∃ o fd,c.base.get? (c.fnA f)=rc o/\o.data = .func fd
 init:∀ k f,c.P.init k=rc f->ClsOk c.K (c.cls k)/\r8 c.K (.ref (c.cls k)) "__init__" = rc (rc (.ref (c.fnA f)))/\typeIn c.K (.ref (c.fnA f))=rc (.type "function")
section
variable {Y β:Type}{c:Cfg}{A:qZ}{fs:List Env}{X U:List Addr}{J:MH}{s:Shared}{h h':Heap}{a:Nat}{ob:Obj}
theorem WOk.in (Wk:WOk c)(S:St c fs U J h):c.K.In h:=λa o e=>S.base a o (Wk.K a o e)
theorem iJ.look {m:Str->Option Value}{k:Nat}(N:iJ ob m k)(name:Str):lookIn name ob=rc (m name):=by
 refine aw λ_ Z9=>?_
 obtain⟨es,ep,hd,hk,hf,_⟩:=N;refine Z9 ?_;unfold lookIn;rw[hd];dsimp only;have hf:=hf name;unfold nsFind findBy at hf
 have no:es.toList.any (·.refKey)=false:=by
  rw[List.any_eq_false];intro e he;obtain⟨n,t,hk⟩:=hk e (Array.mem_toList_iff.mp he);unfold DictEntry.refKey;rw[hk];exact pE
 rw[<-Array.find?_toList] at hf
 split
 ·rename_i e he
  rw[he] at hf
  rw[<-hf];rfl
 ·rename_i he
  rw[he] at hf
  rw[no,<-hf];rfl
theorem OR.inst' {k d:Nat}(r:OR c U h a (.inst k d) ob):∃ dx,U[d]? = rc dx/\ob={ cls:=.ref (c.cls k),dict:=rc dx,data:=.plain }:=r.inv
theorem OR.ns' {es:List (Nat×V)}(r:OR c U h a (.ns es) ob):∃ m,iJ ob m es.length/\(∀ x v,af x es=rc v->∃ v',m (c.nm x)=rc v'/\VR c U h v v')/\(∀ x,af x es=re->m (c.nm x)=re):=r.inv
theorem VR.handed {v:V}{w:Value}(r:VR c U h v w):handedIn w=true:=by cases r <;> rfl
theorem z1k (Wk:WOk c){o:V}{f:Nat}{v:Value}{ex:Bool}(ro:VR c U s.heap o v):Sat c A fs X U J s (getAttr c.P.fld o f J) (VR c) (PySem.getAttr v (c.nm f) ex):=by
 induction o with
 | ref a=>
  refine VR.refC ro λp hp=>?_
  refine Sat.read hp λo ob e1 e2 r1 n1=>?_
  induction o with
  | inst k d=>
   refine Sat.guard λg=>?_
   refine aw λ_ Z9=>?_
   obtain⟨CO,hf⟩:=Wk.fld _ _ g;refine el12 r1.inst' λdx hd ez17=>?_;subst ez17
   refine Z9 ?_;refine Sat.read hd λo' ob' e3 e4 r2 n2=>?_
   induction o' with
   | ns es=>
    refine aw λ_ Z9=>?_
    refine el13 r2.ns' λm N g1 g2=>?_
    refine Z9 ?_;refine Sat.lift1 λw e=>?_
    refine el12 (g1 _ _ e) λv' h1 h2=>?_
    refine Sat.any λQ E S _ ok _=>?_
    have I:InstAt s.heap p (instObj (c.cls _) dx) (c.cls _) (rc ob'):=⟨e2,rfl,rfl,e4⟩
    refine get_value (Wk.in S) I CO.ga (findObj_own CO.hd hf rfl ?_) h2.handed (ok _ _ _ _ _ rfl S .refl h2);rw[N.look,h1]
   | _=>exact ap
  | _=>exact ap
 | _=>exact ap
theorem z0W {M:Model}{a:Addr}{k:Nat}{m:Str->Option Value}{name:Str}{v:Value}{E:VP}{Q:Unit->Shared->Prop}(ho:s.heap.get? a=rc ob)(N:iJ ob m k)
  (h:∀ h' ob',qo a s.heap h'->h'.get? a=rc ob'->iJ ob' (λx=>if x=name then rc v else m x) (if(m name).isSome then k else k+1)->Q () { s with heap:=h',toks:=s.toks+1 }):wpAny M A (nsSet a name v) Q E s:=λΓ p _=>by
 refine aw λ_ Z9=>?_
 refine zc7 N λes ep hd hk hm hz=>?_
 refine Z9 ?_;simp only[nsSet,strHash,Sem.wp_bind',Sem.wp_cmd_ask,Sem.wp_pure',Sem.wp_cmd_mkText];rw[Sem.wp_loadPart_of M Γ _ p { s with toks:=s.toks+1 } (o:=ob) _ ho];have hany:es.any (·.refKey)=false:=by
  rw[Array.any_eq_false'];intro e he;refine kP (hk e he) λn t h=>?_;simp[DictEntry.refKey,h]
 simp only[hd,aRefKeyMayBeTheName_eq,aRefKeyMayBeTheNameByArray,hany,Bool.and_false,pG,if_false,Sem.wp_cmd_updatePart];refine⟨by rw[ho];rfl,?_⟩;refine aw λ_ Z9=>?_
 obtain⟨c,d,dt,sl⟩:=ob;refine Z9 ?_;simp only at hd
 subst hd;have hfi:=findBy_of_findIdx? (λn v=>v.isStr n) es name;have hmn:findBy (λn v=>v.isStr n) es name=m name:=hm name;cases hi:es.findIdx? (·.key.isStr name) with
 | some i=>
  have hlt:i<es.size:=by
   obtain⟨h1,_⟩:=Array.findIdx?_eq_some_iff_getElem.mp hi;exact h1
  have hs:(m name).isSome=true:=by simp only[<-hmn,hfi,hi];simp[hlt]
  rw[if_pos hs] at h
  refine h _ _ (pB ..) (oY _ ho (by simp only[Obj.putName_eq,Obj.putNameByArray,hi];rfl)) ⟨_,ep,by simp only[Obj.putName_eq,Obj.putNameByArray,hi];rfl,hk.modify _ _,λx=>?_,?_⟩
  ·show _=if x=name then rc v else m x
   rw[<-hm];exact findBy_modify (λn v=>v.isStr n) Value.isStr_inj es name x v i hi
  ·rw[Array.size_modify];exact hz
 | none=>
  have hs:¬ (m name).isSome=true:=by simp only[<-hmn,hfi,hi];simp
  replace h:=(if_neg hs)▸h;refine h _ _ (pB ..) (oY _ ho (by simp only[Obj.putName_eq,Obj.putNameByArray,hi];rfl)) ⟨_,ep+1,by simp only[Obj.putName_eq,Obj.putNameByArray,hi];rfl,hk.push _ _ _ _,λx=>?_,?_⟩
  ·show _=if x=name then rc v else m x
   rw[<-hm];exact findBy_push (λn v=>v.isStr n) es name x _ _ v (λy=>by
    show(name==y)=decide (y=name);by_cases h:y=name
    ·obtain rfl:=h.symm;simp
    ·have:¬ name=y:=λe=>h e.symm
     simp[h,this]) hi
  ·rw[Array.size_push,hz]
theorem z3q {x C dx:Addr}{od:Obj}{name:Str}{v:Value}{m:Str->Option Value}{k:Nat}{K:Frag}{E:VP}{Q:Unit->Shared->Prop}(X₀:K.In s.heap)(CO:ClsOk K C)(hf:r8 K (.ref C) name=rc re)
  (hx:s.heap.get? x=rc (instObj C dx))(hd:s.heap.get? dx=rc od)(N:iJ od m k)(hk:k<=1000)
  (h:∀ h' tk ob',qo dx s.heap h'->h'.get? dx=rc ob'->iJ ob' (λy=>if y=name then rc v else m y) (if(m name).isSome then k else k+1)->Q () { s with heap:=h',toks:=tk }):wpAny (model c.prog c.w) A (PySem.setAttr (.ref x) name v) Q E s:=by
 have I:InstAt s.heap x (instObj C dx) C (rc od):=⟨hx,rfl,rfl,hd⟩
 have ht:takerIn K C name=rc none:=by unfold takerIn;rw[hf];rfl
 refine el12 (any_some CO.hd) λcd hc hdd=>?_
 refine set_plain X₀ I CO.st (osa_open (s:={ s with toks:=s.toks+1 }) X₀ I CO.po ht λb=>?_);refine qE (qF (qE (qE (wpAny_loadPart hx (bQ (λh=>looks_clsIn (M:=model c.prog c.w) (h:=s.heap) X₀ hc _ _ _ _ (λ_ _ e=>e) h) ?_)))));simp only[hdd];refine qF (a:=rc dx) (qE (qF (qE ?_)));refine z0W (s:={ s with toks:=s.toks+1 }) hd N λh' ob' hs e N'=>?_
 refine aw λ_ Z9=>?_
 refine zc7 (id N') λes' ep' hd' _ _ hz=>?_
 refine Z9 ?_;refine qE (wpAny_lookBehind e (by rw[hd'];exact pastItsLine_dict (by rw[hz,qx];split <;> omega)) ?_);exact qF (h h' _ ob' hs e N')
theorem z18 {κ:Type} [DecidableEq κ](k:κ)(v:V):∀ es:List (κ×V),(aJ k v es).length=if(af k es).isSome then es.length else es.length+1
 | []=>rfl
 | (k',w):: r=>by
  rw[hU,z1V];by_cases h:k'=k
  ·rw[if_pos h,if_pos h];rfl
  ·rw[if_neg h,if_neg h,pT,z18 k v r,pT];split <;> rfl
theorem hO {κ:Type} [DecidableEq κ](k:κ)(v:V)(y:κ):∀ es:List (κ×V),af y (aJ k v es)=if y=k then rc v else af y es
 | []=>by
  show(if k=y then rc v else re)=_;by_cases h:y=k
  ·subst h;simp
  ·rw[if_neg h,if_neg (qY h)];rfl
 | (k',w):: r=>by
  simp only[hU];by_cases hk:k'=k
  ·subst hk
   rw[if_pos rfl];show(if k'=y then rc v else af y r)=if y=k' then rc v else if k'=y then rc w else af y r
   by_cases hy:y=k'
   ·subst hy;simp
   ·rw[if_neg hy,if_neg (qY hy),if_neg (qY hy)]
  ·rw[if_neg hk]
   show(if k'=y then rc w else af y (aJ k v r))=if y=k then rc v else if k'=y then rc w else af y r
   rw[hO k v y r];by_cases hy:k'=y
   ·subst hy;rw[if_pos rfl,if_neg hk,if_pos rfl]
   ·rw[if_neg hy,if_neg hy]
theorem z1m (C:CfgOk c)(Wk:WOk c){o x:V}{f:Nat}{v u:Value}(ro:VR c U s.heap o v)(rx:VR c U s.heap x u):Sat c A fs X U J s (setAttr c.P.fld o f x J) o9 (PySem.setAttr v (c.nm f) u):=by
 induction o with
 | ref a=>
  refine VR.refC ro λp hp=>?_
  refine Sat.read hp λo ob e1 e2 r1 n1=>?_
  induction o with
  | inst k d=>
   refine Sat.guard λg=>?_
   refine aw λ_ Z9=>?_
   obtain⟨CO,hf⟩:=Wk.fld _ _ g;refine el12 r1.inst' λdx hd ez1=>?_;subst ez1
   refine Z9 ?_;refine Sat.read hd λo' ob' e3 e4 r2 n2=>?_
   induction o' with
   | ns es=>
    refine aw λ_ Z9=>?_
    refine el13 r2.ns' λm N g1 g2=>?_
    refine Z9 ?_;refine Sat.guard λgl=>?_
    have gl:=of_decide_eq_true gl;refine Sat.using λS=>?_
    refine Sat.write (b:=()) (x:=dx) hd e4 (n2 rfl) r2.unfrozen (λQ E q=>?_) (λ_ _=>trivial);refine z3q (Wk.in S) CO hf e2 e4 N (by lia) λh' tk ob2 hs k1 k2=>?_
    have hz:(if(m (c.nm f)).isSome=rg then es.length else es.length+1)=(aJ f x es).length:=by
     simp only[z18];have:(m (c.nm f)).isSome=(af f es).isSome:=by
      cases q:af f es with
      | none=>rw[g2 _ q];rfl
      | some w=>obtain⟨v',z,_⟩:=g1 _ _ q;rw[z];rfl
     rw[this]
    simp only[hz] at k2
    refine q h' tk ob2 hs k1 (.ns k2 (λy v e=>?_) λy e=>?_)
    ·rw[hO] at e
     by_cases hy:y=f
     ·obtain rfl:=hy.symm
      replace e:=(if_pos rfl)▸e;cases e;exact bf u (by rw[if_pos rfl]) rx
     ·rw[if_neg hy] at e
      refine el12 (g1 _ _ e) λv' e1 e2=>?_
      exact bf v' (by rw[if_neg λz=>hy (C.nm _ _ z)];exact e1) e2
    ·rw[hO] at e
     by_cases hy:y=f
     ·replace e:=(if_pos hy)▸e;cases e
     ·rw[if_neg hy] at e
      show(if c.nm y=c.nm f then _ else _)=_;rw[if_neg λz=>hy (C.nm _ _ z)];exact g2 _ e
   | _=>exact ap
  | _=>exact ap
 | _=>exact ap
end
end
section
section
variable {c:Cfg}{n:Nat}{cx:Cx}{sc:Scope}
theorem Sat.skip {γ β δ:Type}{A:qZ}{fs:List Env}{X U:List Addr}{J:MH}{s:Shared}{rel:List Addr->Heap->γ->δ->Prop}{r:R γ}{t:Sem β}{b:β}{u:β->Sem δ}(h:∀ (Q:β->Shared->Prop)(E:VP),Q b s->wpAny (model c.prog c.w) A t Q E s)(k:Sat c A fs X U J s r rel (u b)):
  Sat c A fs X U J s r rel (t >>= u):=λQ E S nb ok ex=>a9 (.of (h _ E (k Q E S nb @ok @ex)))
theorem VR.bool' {A:qZ}{fs:List Env}{X U:List Addr}{J:MH}{s:Shared}{m:M Bool}{t:Sem Value}(h:Sat c A fs X U J s (m J) iL t):
  Sat c A fs X U J s ((do pure (V.bool (<-m)):M V) J) (VR c) t:=by
 intro Q E S nb ok ex;have eb:(do pure (V.bool (<-m)):M V) J=match m J with | .ok b J'=>.ok (V.bool b) J' | .exc k J'=>.exc k J' | .bad=>.bad:=by show M.bind m _ J=_;unfold M.bind;cases m J <;> rfl
 refine h Q E S (λq=>nb (by rw[eb,q])) (λb J' U' v s' e S' E' r O=>ok (V.bool b) J' U' v s' (by rw[eb,e]) S' E' (by subst r;exact .bool b) O) (λk J' U' e s' q F O=>ex k J' U' e s' (by rw[eb,q]) F O)
theorem two {A:qZ}{fs:List Env}(Rm:Room n A fs){env:Env}{X U:List Addr}{J:MH}{l:Loc}{s:Shared}{a b:E}{pa pb:Expr}(ha:ar c n cx sc a pa)(hb:ar c n cx sc b pb)(hX:env.locals∉X)(F:Fst c sc env cx.cl U l s.heap)
  {γ δ:Type}{f:V->V->M γ}{g:Value->Value->Sem δ}{rel:List Addr->Heap->γ->δ->Prop}
  (k:∀ x y v u U' J' s',VR c U' s'.heap x v->VR c U' s'.heap y u->Fst c sc env cx.cl U' l s'.heap->Sat c A fs X U' J' s' (f x y J') rel (g v u)):
  Sat c A fs X U J s ((evE cx a l >>= λx=>evE cx b l >>= λy=>f x y) J) rel (eval pa env >>= λv=>holding [v] (eval pb env) >>= λu=>g v u):=by
 refine Sat.bind (ha A fs Rm env X U J l s hX F) λx J1 U1 v s1 e1 S1 E1 r1=>?_
 refine Sat.bind (Sat.holding (hb A fs Rm env X U1 J1 l s1 hX (F.evo E1 hX))) λy J2 U2 u s2 e2 S2 E2 r2=>?_
 exact k x y v u U2 J2 s2 (r1.evo E2) r2 ((F.evo E1 hX).evo E2 hX)
theorem z9v {op:BOp}{a b:E}{pa pb:Expr}{pos:Pos}(ha:ar c n cx sc a pa)(hb:ar c n cx sc b pb):ar c n cx sc (.bin op a b) (.BinOp pa (bop op) pb pos):=by
 intro A fs Rm env X U J l s hX F;rw[eval_BinOp];exact two Rm ha hb hX F (f:=fc op) λx y v u U' J' s' rx ry _=>Sat.standAt (Sat.operate (z8m rx ry))
theorem z9x (C:CfgOk c){op:COp}{a b:E}{pa pb:Expr}{pos:Pos}(ha:ar c n cx sc a pa)(hb:ar c n cx sc b pb)(hm:behindInMarks (cop op) pb=rj):ar c n cx sc (.cmp op a b) (.Compare pa [cop op] [pb] pos):=by
 intro A fs Rm env X U J l s hX F;have e:eval (.Compare pa [cop op] [pb] pos) env=(eval pa env >>= λv=>holding [v] (eval pb env) >>= λu=>(do standAt pos;operate [v,u] (qM (cop op) v u))):=by
  show(eval pa env >>= λv=>compareChain pos v [cop op] [markedBehindIn (cop op) pb (eval pb env)])=_;rw[markedBehindIn_of_false hm];rfl
 rw[e];exact two Rm ha hb hX F (f:=λx y=>do pure (V.bool (<-aP op x y))) λx y v u U' J' s' rx ry _=>Sat.standAt (Sat.operate (VR.bool' (hG C Rm rx ry)))
theorem fD {A:qZ}{fs:List Env}{X U:List Addr}{J:MH}{s:Shared}{b:Bool}{v:Value}(h:v = .bool b):Sat c A fs X U J s (.ok b J) (λ_ _ a b=>a=b) (truthy v):=by
 subst h;exact Sat.any λQ E S _ ok _=>pL (ok _ _ _ _ _ rfl S .refl rfl)
theorem z9M {e:E}{pe:Expr}(he:ar c n cx sc e pe)(hk:∀ env whole,isTrue pe env whole=(do let v<-whole;standAt pe.pos;holding [v] (truthy v))):f6 c n cx sc e pe:=by
 intro A fs Rm env X U J l s hX F;rw[hk];refine Sat.bind (he A fs Rm env X U J l s hX F) λx J1 U1 v s1 e1 S1 E1 r1=>Sat.standAt (Sat.holding ?_)
 induction x with
 | bool b=>exact fD r1.inv_bool
 | _=>exact ap
theorem M.boolV_bool (m:M Bool):(do aQ (<-(do pure (V.bool (<-m)):M V)):M Bool)=m:=by
 funext J
 show M.bind (M.bind m _) _ J=m J;unfold M.bind;cases m J <;> rfl
theorem z8p (C:CfgOk c){op:COp}{a b:E}{pa pb:Expr}{pos:Pos}(ha:ar c n cx sc a pa)(hb:ar c n cx sc b pb)(hm:behindInMarks (cop op) pb=rj):f6 c n cx sc (.cmp op a b) (.Compare pa [cop op] [pb] pos):=by
 intro A fs Rm env X U J l s hX F;have e:isTrue (.Compare pa [cop op] [pb] pos) env (eval (.Compare pa [cop op] [pb] pos) env)=(eval pa env >>= λv=>holding [v] (eval pb env) >>= λu=>(do standAt pos;let c<-operate [v,u] (qM (cop op) v u);holding [c] (truthy c))):=by
  show(eval pa env >>= λv=>testChain pos v [cop op] [markedBehindIn (cop op) pb (eval pb env)])=_;refine(markedBehindIn_of_false hm)▸?_;rfl
 have e2:(evE cx (.cmp op a b) l >>= aQ)=(evE cx a l >>= λx=>evE cx b l >>= λy=>aP op x y):=by
  show(evE cx a l >>= λx=>evE cx b l >>= λy=>(do pure (V.bool (<-aP op x y)):M V)) >>= aQ=_;simp only[M.assoc]
  congr 1;funext x;congr 1;funext y
  exact(M.assoc _ _ _).symm.trans (M.boolV_bool _)
 simp only[e,e2];refine two Rm ha hb hX F (f:=aP op) λx y v u U' J' s' rx ry _=>Sat.standAt ?_
 have p:∀ {m:M Bool},m=m >>= λb=>(pure b:M Bool):=by intro m;funext J;show m J=M.bind m _ J;unfold M.bind;cases m J <;> rfl
 refine(p (m:=aP op x y))▸?_;exact Sat.bind (Sat.operate (hG C Rm rx ry)) λb J1 U1 w s1 _ _ _ r=>Sat.holding (fD r)
theorem M.id {Y:Type}(m:M Y):(m >>= λa=>(pure a:M Y))=m:=by funext J;show M.bind m _ J=m J;unfold M.bind;cases m J <;> rfl
theorem z2U (C:CfgOk c){A:qZ}{fs:List Env}(Rm:Room n A fs){env:Env}{X U:List Addr}{J:MH}{l:Loc}{s:Shared}{o p:COp}{a b d:E}{pa pb pd:Expr}{pos:Pos}(ha:ar c n cx sc a pa)(hb:ar c n cx sc b pb)(hd:ar c n cx sc d pd)
  (hX:env.locals∉X)(F:Fst c sc env cx.cl U l s.heap){δ:Type}{rel:List Addr->Heap->Bool->δ->Prop}{g:Value->Sem δ}{z:Value->Sem δ}
  (fin:∀ (b:Bool) U J s,Sat c A fs X U J s (.ok b J) rel (g (.bool b)))(stop:∀ U J s,Sat c A fs X U J s (.ok rj J) rel (z (.bool rj))):
  Sat c A fs X U J s ((do let x<-evE cx a l;let y<-evE cx b l;if<-aP o x y then do let z<-evE cx d l;aP p y z else pure rj:M Bool) J) rel
   (eval pa env >>= λv=>holding [v] (eval pb env) >>= λu=>(do standAt pos;let c<-holding [v,u] (qM (cop o) v u);release [v,u] [c];if<-holding [c,u] (truthy c) then(do let w<-holding [u] (eval pd env);standAt pos;let r<-operate [u,w] (qM (cop p) u w);g r) else z c)):=by
 refine two Rm ha hb hX F (f:=λx y=>(do if<-aP o x y then do let z<-evE cx d l;aP p y z else pure rj:M Bool)) λx y v u U1 J1 s1 rx ry F1=>Sat.standAt ?_
 refine Sat.bind (Sat.holding (hG C Rm rx ry)) λb1 J2 U2 w s2 e2 S2 E2 r2=>?_
 subst r2;refine Sat.skip (b:=()) (λQ E h=>wpAny_release h) (Sat.skip (b:=b1) (λQ E h=>qm (pL h)) ?_)
 induction b1 with
 | false=>exact stop _ _ _
 | true=>
  have F2:=F1.evo E2 hX;refine Sat.bind (Sat.holding (hd A fs Rm env X U2 J2 l s2 hX F2)) λz' J3 U3 w' s3 e3 S3 E3 r3=>Sat.standAt ?_
  refine(M.id (aP p y z'))▸?_;refine Sat.bind (Sat.operate (hG C Rm ((ry.evo E2).evo E3) r3)) λb2 J4 U4 w4 s4 e4 S4 E4 r4=>?_
  subst r4;exact fin _ _ _ _
theorem z8o (C:CfgOk c){o p:COp}{a b d:E}{pa pb pd:Expr}{pos:Pos}(ha:ar c n cx sc a pa)(hb:ar c n cx sc b pb)(hd:ar c n cx sc d pd)(hm:behindInMarks (cop p) pd=rj):
  ar c n cx sc (.cmp2 o p a b d) (.Compare pa [cop o,cop p] [pb,pd] pos):=by
 intro A fs Rm env X U J l s hX F;have e:eval (.Compare pa [cop o,cop p] [pb,pd] pos) env=(eval pa env >>= λv=>holding [v] (eval pb env) >>= λu=>(do standAt pos;let c<-holding [v,u] (qM (cop o) v u);release [v,u] [c];if<-holding [c,u] (truthy c) then(do let w<-holding [u] (eval pd env);standAt pos;operate [u,w] (qM (cop p) u w) >>= λr=>pure r) else pure c)):=by
  show(eval pa env >>= λv=>holding [v] (eval pb env) >>= λu=>(do standAt pos;let c<-holding [v,u] (qM (cop o) v u);release [v,u] [c];if<-holding [c,u] (truthy c) then(do let w<-holding [u] (markedBehindIn (cop p) pd (eval pd env));standAt pos;operate [u,w] (qM (cop p) u w)) else pure c))=_;refine(markedBehindIn_of_false hm)▸?_;simp only[bind_pure]
 have e2:evE cx (.cmp2 o p a b d) l=(do pure (V.bool (<-(do let x<-evE cx a l;let y<-evE cx b l;if<-aP o x y then do let z<-evE cx d l;aP p y z else pure rj:M Bool))):M V):=by
  show(evE cx a l >>= λx=>evE cx b l >>= λy=>aP o x y >>= λt=>if t then(evE cx d l >>= λz=>(do pure (V.bool (<-aP p y z)):M V)) else pure (.bool rj))=_;simp only[M.assoc]
  congr 1;funext x;congr 1;funext y;congr 1;funext t
  induction t with
  | false=>rfl
  | true=>simp only[if_true,M.assoc]
 simp only[e,e2];exact VR.bool' (z2U C Rm ha hb hd hX F (rel:=iL) (g:=pure) (z:=pure) (λb U J s=>Sat.pure rfl) λU J s=>Sat.pure rfl)
theorem z6w (C:CfgOk c){o p:COp}{a b d:E}{pa pb pd:Expr}{pos:Pos}(ha:ar c n cx sc a pa)(hb:ar c n cx sc b pb)(hd:ar c n cx sc d pd)(hm:behindInMarks (cop p) pd=rj):
  f6 c n cx sc (.cmp2 o p a b d) (.Compare pa [cop o,cop p] [pb,pd] pos):=by
 intro A fs Rm env X U J l s hX F;have e:isTrue (.Compare pa [cop o,cop p] [pb,pd] pos) env (eval (.Compare pa [cop o,cop p] [pb,pd] pos) env)=(eval pa env >>= λv=>holding [v] (eval pb env) >>= λu=>(do standAt pos;let c<-holding [v,u] (qM (cop o) v u);release [v,u] [c];if<-holding [c,u] (truthy c) then(do let w<-holding [u] (eval pd env);standAt pos;let r<-operate [u,w] (qM (cop p) u w);holding [r] (truthy r)) else pure rj)):=by
  show(eval pa env >>= λv=>testChain pos v [cop o,cop p] [eval pb env,markedBehindIn (cop p) pd (eval pd env)])=_;rw[markedBehindIn_of_false hm];rfl
 have e2:(evE cx (.cmp2 o p a b d) l >>= aQ)=(do let x<-evE cx a l;let y<-evE cx b l;if<-aP o x y then do let z<-evE cx d l;aP p y z else pure rj:M Bool):=by
  show(evE cx a l >>= λx=>evE cx b l >>= λy=>aP o x y >>= λt=>if t then(evE cx d l >>= λz=>(do pure (V.bool (<-aP p y z)):M V)) else pure (.bool rj)) >>= aQ=_;simp only[M.assoc]
  congr 1;funext x;congr 1;funext y;congr 1;funext t
  induction t with
  | false=>rfl
  | true=>
   simp only[if_true,M.assoc]
   congr 1;funext z
   exact(M.assoc _ _ _).symm.trans (M.boolV_bool _)
 rw[e,e2];exact z2U C Rm ha hb hd hX F (g:=λr=>holding [r] (truthy r)) (z:=λ_=>pure rj) (λb U J s=>Sat.holding (fD rfl)) λU J s=>Sat.pure rfl
end
end
section
section
variable {c:Cfg}{n:Nat}{cx:Cx}{sc:Scope}
class inductive EsR (P:E->Expr->Prop):Es->List Expr->Prop
 | nil:EsR P .nil []
 | cons {e es pe pes}:P e pe->EsR P es pes->EsR P (.cons e es) (pe:: pes)
theorem z9u {es:Es}{pes:List Expr}{pos:Pos}(h:EsR (ar c n cx sc) es pes):∀ A fs,Room n A fs->∀ env X U J l s,env.locals∉X->Fst c sc env cx.cl U l s.heap->Sat c A fs X U J s (evAnd cx es l J) (VR c) (boolOp pos .And (evalEach pes env)):=by
 induction h with
 | nil=>exact λA fs Rm env X U J l s hX F=>ap
 | @cons e es pe pes he hes ih=>
  intro A fs Rm env X U J l s hX F
  induction hes with
  | nil=>exact he A fs Rm env X U J l s hX F
  | @cons e2 es2 pe2 pes2 he2 hes2=>
   refine Sat.bind (he A fs Rm env X U J l s hX F) λx J1 U1 v s1 e1 S1 E1 r1=>Sat.standAt ?_
   induction x with
   | bool b=>
    refine VR.boolC r1 ?_;refine Sat.ret (Sat.skip (b:=b) (λQ E h=>qm (pL h)) ?_)
    induction b with
    | false=>exact Sat.pure (.bool rj)
    | true=>exact ih A fs Rm env X U1 J1 l s1 hX (F.evo E1 hX)
   | _=>exact ap
theorem zbr {es:Es}{pes:List Expr}{pos:Pos}(h:EsR (ar c n cx sc) es pes):∀ A fs,Room n A fs->∀ env X U J l s,env.locals∉X->Fst c sc env cx.cl U l s.heap->Sat c A fs X U J s (evOr cx es l J) (VR c) (boolOp pos .Or (evalEach pes env)):=by
 induction h with
 | nil=>exact λA fs Rm env X U J l s hX F=>ap
 | @cons e es pe pes he hes ih=>
  intro A fs Rm env X U J l s hX F
  induction hes with
  | nil=>exact he A fs Rm env X U J l s hX F
  | @cons e2 es2 pe2 pes2 he2 hes2=>
   show Sat c A fs X U J s ((evE cx e l >>= λx=>aQ x >>= λb=>if b then pure (.bool rg) else evOr cx (.cons e2 es2) l) J) (VR c) (eval pe env >>= λv=>(do standAt pos;let t<-holding [v] (truthy v);match BoolOp.Or,t with | .And,rj | .Or,rg=>pure v | _,_=>boolOp pos .Or (evalEach (pe2:: pes2) env)));refine Sat.bind (he A fs Rm env X U J l s hX F) λx J1 U1 v s1 e1 S1 E1 r1=>Sat.standAt ?_
   induction x with
   | bool b=>
    refine VR.boolC r1 ?_;refine Sat.ret (Sat.skip (b:=b) (λQ E h=>qm (pL h)) ?_)
    induction b with
    | true=>exact Sat.pure (.bool rg)
    | false=>exact ih A fs Rm env X U1 J1 l s1 hX (F.evo E1 hX)
   | _=>exact ap
theorem z8i {es:Es}{pes:List Expr}{pos:Pos}(h:EsR (ar c n cx sc) es pes):ar c n cx sc (.and es) (.BoolOp .And pes pos):=λA fs Rm env X U J l s hX F=>z9u h A fs Rm env X U J l s hX F
theorem z9G {es:Es}{pes:List Expr}{pos:Pos}(h:EsR (ar c n cx sc) es pes):ar c n cx sc (.or es) (.BoolOp .Or pes pos):=λA fs Rm env X U J l s hX F=>zbr h A fs Rm env X U J l s hX F
theorem z8j {es:Es}{pes:List Expr}{pos:Pos}(h:EsR (f6 c n cx sc) es pes):f6 c n cx sc (.and es) (.BoolOp .And pes pos):=by
 have key:∀ A fs,Room n A fs->∀ env X U J l s,env.locals∉X->Fst c sc env cx.cl U l s.heap->Sat c A fs X U J s ((evAnd cx es l >>= aQ) J) (λ_ _ a b=>a=b) (allTrue .And pes env):=by
  induction h with
  | nil=>exact λA fs Rm env X U J l s hX F=>ap
  | @cons e es pe pes he hes ih=>
   intro A fs Rm env X U J l s hX F
   induction hes with
   | nil=>
    show Sat c A fs X U J s ((evE cx e l >>= aQ) J) _ (isTrue pe env (eval pe env) >>= λt=>match BoolOp.And,t with | .And,rj=>pure rj | .Or,rg=>pure rg | _,_=>pure rg);rw[<-M.id (evE cx e l >>= aQ)];refine Sat.bind (he A fs Rm env X U J l s hX F) λb J1 U1 v s1 e1 S1 E1 r1=>?_
    have r1:b=v:=r1;subst r1;cases b <;> exact Sat.pure rfl
   | @cons e2 es2 pe2 pes2 he2 hes2=>
    have e0:(evAnd cx (.cons e (.cons e2 es2)) l >>= aQ)=((evE cx e l >>= aQ) >>= λb=>if b then(evAnd cx (.cons e2 es2) l >>= aQ) else pure rj):=by
     show(evE cx e l >>= λx=>aQ x >>= λb=>if b then evAnd cx (.cons e2 es2) l else pure (.bool rj)) >>= aQ=_;simp only[M.assoc]
     congr 1;funext x;congr 1;funext b
     cases b <;> rfl
    rw[e0];show Sat c A fs X U J s _ _ (isTrue pe env (eval pe env) >>= λt=>match BoolOp.And,t with | .And,rj=>pure rj | .Or,rg=>pure rg | _,_=>allTrue .And (pe2:: pes2) env);refine Sat.bind (he A fs Rm env X U J l s hX F) λb J1 U1 v s1 e1 S1 E1 r1=>?_
    have r1:b=v:=r1;subst r1
    induction b with
    | false=>exact Sat.pure rfl
    | true=>exact ih A fs Rm env X U1 J1 l s1 hX (F.evo E1 hX)
 exact λA fs Rm env X U J l s hX F=>key A fs Rm env X U J l s hX F
theorem z9H {es:Es}{pes:List Expr}{pos:Pos}(h:EsR (f6 c n cx sc) es pes):f6 c n cx sc (.or es) (.BoolOp .Or pes pos):=by
 have key:∀ A fs,Room n A fs->∀ env X U J l s,env.locals∉X->Fst c sc env cx.cl U l s.heap->Sat c A fs X U J s ((evOr cx es l >>= aQ) J) (λ_ _ a b=>a=b) (allTrue .Or pes env):=by
  induction h with
  | nil=>exact λA fs Rm env X U J l s hX F=>ap
  | @cons e es pe pes he hes ih=>
   intro A fs Rm env X U J l s hX F
   induction hes with
   | nil=>
    show Sat c A fs X U J s ((evE cx e l >>= aQ) J) _ (isTrue pe env (eval pe env) >>= λt=>match BoolOp.Or,t with | .And,rj=>pure rj | .Or,rg=>pure rg | _,_=>pure rj);refine(M.id (evE cx e l >>= aQ))▸?_;refine Sat.bind (he A fs Rm env X U J l s hX F) λb J1 U1 v s1 e1 S1 E1 r1=>?_
    subst r1;cases b <;> exact Sat.pure rfl
   | @cons e2 es2 pe2 pes2 he2 hes2=>
    have e0:(evOr cx (.cons e (.cons e2 es2)) l >>= aQ)=((evE cx e l >>= aQ) >>= λb=>if b then pure rg else(evOr cx (.cons e2 es2) l >>= aQ)):=by
     show(evE cx e l >>= λx=>aQ x >>= λb=>if b then pure (.bool rg) else evOr cx (.cons e2 es2) l) >>= aQ=_;simp only[M.assoc]
     congr 1;funext x;congr 1;funext b
     cases b <;> rfl
    rw[e0];show Sat c A fs X U J s _ _ (isTrue pe env (eval pe env) >>= λt=>match BoolOp.Or,t with | .And,rj=>pure rj | .Or,rg=>pure rg | _,_=>allTrue .Or (pe2:: pes2) env);refine Sat.bind (he A fs Rm env X U J l s hX F) λb J1 U1 v s1 e1 S1 E1 r1=>?_
    subst r1
    induction b with
    | true=>exact Sat.pure rfl
    | false=>exact ih A fs Rm env X U1 J1 l s1 hX (F.evo E1 hX)
 exact λA fs Rm env X U J l s hX F=>key A fs Rm env X U J l s hX F
theorem z9F {a:E}{pa:Expr}{pos:Pos}(ha:ar c n cx sc a pa):ar c n cx sc (.not a) (.UnaryOp .Not pa pos):=by
 intro A fs Rm env X U J l s hX F;rw[PyProof.Rows.eval_UnaryOp];show Sat c A fs X U J s ((evE cx a l >>= λx=>aQ x >>= λb=>(pure (V.bool (!b)):M V)) J) _ _;refine Sat.bind (ha A fs Rm env X U J l s hX F) λx J1 U1 v s1 e1 S1 E1 r1=>Sat.standAt (Sat.holding ?_)
 induction x with
 | bool b=>
  refine VR.boolC r1 ?_;exact Sat.ret (Sat.any λQ E S _ ok _=>not_value (pL (ok _ _ _ _ _ rfl S .refl (.bool _))))
 | _=>exact ap
theorem z8v {a:E}{pa:Expr}{pos:Pos}(ha:f6 c n cx sc a pa):f6 c n cx sc (.not a) (.UnaryOp .Not pa pos):=by
 intro A fs Rm env X U J l s hX F;have e0:(evE cx (.not a) l >>= aQ)=((evE cx a l >>= aQ) >>= λb=>pure (!b)):=by
  show(evE cx a l >>= λx=>aQ x >>= λb=>(pure (V.bool (!b)):M V)) >>= aQ=_;simp only[M.assoc]
  congr 1
 rw[e0];show Sat c A fs X U J s _ _ (isTrue pa env (eval pa env) >>= λb=>pure (!b));refine Sat.bind (ha A fs Rm env X U J l s hX F) λb J1 U1 v s1 e1 S1 E1 r1=>?_
 have r1:b=v:=r1;subst r1;exact Sat.pure rfl
theorem z9A {t a b:E}{pt pa pb:Expr}{pos:Pos}(ht:f6 c n cx sc t pt)(ha:ar c n cx sc a pa)(hb:ar c n cx sc b pb):ar c n cx sc (.ite t a b) (.IfExp pt pa pb pos):=by
 intro A fs Rm env X U J l s hX F;rw[PyProof.Rows.eval_IfExp];have e0:evE cx (.ite t a b) l=((evE cx t l >>= aQ) >>= λb'=>if b' then evE cx a l else evE cx b l):=by
  show(evE cx t l >>= λx=>aQ x >>= λb'=>if b' then evE cx a l else evE cx b l)=_;rw[M.assoc]
 rw[e0];refine Sat.bind (ht A fs Rm env X U J l s hX F) λq J1 U1 v s1 e1 S1 E1 r1=>?_
 have r1:q=v:=r1;subst r1
 induction q with
 | true=>exact ha A fs Rm env X U1 J1 l s1 hX (F.evo E1 hX)
 | false=>exact hb A fs Rm env X U1 J1 l s1 hX (F.evo E1 hX)
end
end
section
theorem bb {n i:Nat}{g:n=i->Bool}(h:onI n i g=rg):∃ q,g q=true:=by
 unfold onI at h
 cases e:Nat.decEq n i with
 | isTrue q=>rw[e] at h;exact⟨q,h⟩
 | isFalse q=>rw[e] at h;cases h
theorem kC {pe:Expr}(h:fW pe=rg)(a:Str)(env:Env)(whole:Sem Value):attributeBase pe a env whole=whole:=by
 cases pe with
 | Call f as ks p=>cases as with
  | nil=>exact pY h
  | cons=>cases f <;> rfl
 | _=>rfl
section
variable {c:Cfg}{n:Nat}{cx:Cx}{sc:Scope}
theorem z8k (Wk:WOk c)(hP:cx.P=c.P){o:E}{f:Nat}{po:Expr}{pos:Pos}{nm:Str}(hn:c.nm f=nm)(hs:fW po=rg)(ho:ar c n cx sc o po):ar c n cx sc (.attr o f) (.Attribute po nm pos):=by
 intro A fs Rm env X U J l s hX F;subst hn;show Sat c A fs X U J s ((evE cx o l >>= λx=>getAttr cx.P.fld x f) J) (VR c) (attributeBase po (c.nm f) env (eval po env) >>= λv=>standAt pos.atName >>= λ_=>holding [v] (PySem.getAttr v (c.nm f) rg) >>= λr=>letTemporaryGo po v r >>= λ_=>pure r);rw[kC hs,hP];refine Sat.bind (ho A fs Rm env X U J l s hX F) λx J1 U1 v s1 e1 S1 E1 r1=>Sat.standAt ?_
 rw[<-M.id (getAttr c.P.fld x f)];refine Sat.bind (Sat.holding (z1k Wk r1)) λy J2 U2 u s2 e2 S2 E2 r2=>?_
 exact Sat.skip (b:=()) (λQ E h=>wpAny_letTemporaryGo h) (Sat.pure r2)
theorem z7C {s:Shared}{v:Value}{T id:String}(hT:s.TypeIs v T)(hl:qH (.type T) "__getitem__" = pure (rc (.builtin id))){M:Model}{A:qZ}{Q:Bool->Shared->Prop}{E:VP}(h:Q rj s):wpAny M A (getitemInPython v) Q E s:=by
 rw[getitemInPython_of_ne hT.not_modules];refine qE (qe hT hl ?_);exact qF h
noncomputable def kA (s:Shared)(v:Value):Prop:=∃ T id,s.TypeIs v T/\qH (.type T) "__getitem__" = pure (rc (.builtin id))
theorem eN {s:Shared}{a:Addr}{its:Array Value}(h:s.heap.IsList a its):kA s (.ref a):=⟨_,_,h.typeIs,F.slot_list_getitem.lookup⟩
theorem z3V {fs:List Env}{U:List Addr}{J:MH}{s:Shared}{x y:V}{v:Value}(S:St c fs U J s.heap)(rx:VR c U s.heap x v)(nb:cg x y J≠.bad):kA s v:=by
 induction x with
 | ref a=>
  refine VR.refC rx λp hp=>?_
  cases q:J.get a with
  | none=>exact absurd (by show M.bind (M.read a) _ J=_;simp only[M.bind,M.read,q]) nb
  | some o=>
   refine S.objP hp q λob e2 r _=>?_
   induction o with
   | lst xs=>obtain⟨is,h1,_⟩:=r.isList e2;exact eN h1
   | dct es=>obtain⟨kvs,d,_⟩:=r.dct';exact⟨_,_,(d.at e2).typeIs,F.slot_dict_getitem.lookup⟩
   | sd es=>obtain⟨kvs,d,_⟩:=r.sd';exact⟨_,_,(d.at e2).typeIs,F.slot_dict_getitem.lookup⟩
   | _=>exact absurd (by show M.bind (M.read a) _ J=_;simp only[M.bind,M.read,q];cases y <;> rfl) nb
 | t2 a b=>
  cases rx with
  | t2 e ra rb=>exact n4 _ _ ⟨_,e,rfl⟩ F.slot_tuple_getitem.lookup
 | _=>exact absurd (by cases y <;> rfl) nb
theorem Sat.nb {Y β:Type}{A:qZ}{fs:List Env}{X U:List Addr}{J:MH}{s:Shared}{r:R Y}{t:Sem β}{rel:List Addr->Heap->Y->β->Prop}(h:St c fs U J s.heap->r≠.bad->Sat c A fs X U J s r rel t):Sat c A fs X U J s r rel t:=
 λQ E S nb ok ex=>h S nb Q E S nb @ok @ex
theorem z0V {sl:Expr}(h:fw sl=rg)(o i:Value):subscripted sl rj o i=operate [o,i] (getItem o i):=by
 cases sl <;> first | rfl | exact pY h
theorem z9z (C:CfgOk c){o i:E}{po pi:Expr}{pos:Pos}(hs:fw pi=rg)(ho:ar c n cx sc o po)(hi:ar c n cx sc i pi):ar c n cx sc (.idx o i) (.Subscript po pi pos):=by
 intro A fs Rm env X U J l s hX F;rw[eval_Subscript];refine two Rm ho hi hX F (f:=cg) λx y v u U' J' s' rx ry _=>Sat.standAt (Sat.nb λS nb=>?_)
 obtain⟨T,id,hT,hl⟩:=z3V S rx nb;refine Sat.skip (b:=rj) (λQ E h=>z7C hT hl h) ?_;rw[z0V hs,<-M.id (cg x y)];refine Sat.bind (Sat.operate (z2h C rx ry)) λz J2 U2 w s2 e2 S2 E2 r2=>?_
 exact Sat.skip (b:=()) (λQ E h=>wpAny_letTemporaryGo h) (Sat.pure r2)
theorem z3g {fs:List Env}{U:List Addr}{J:MH}{s:Shared}{x lo hi:V}{v:Value}(S:St c fs U J s.heap)(rx:VR c U s.heap x v)(nb:c6 x lo hi J≠.bad):kA s v:=by
 induction x with
 | ref a=>
  refine VR.refC rx λp hp=>?_
  cases q:J.get a with
  | none=>exact absurd (by show M.bind (M.read a) _ J=_;simp only[M.bind,M.read,q]) nb
  | some o=>
   refine S.objP hp q λob e2 r _=>?_
   induction o with
   | lst xs=>obtain⟨is,h1,_⟩:=r.isList e2;exact eN h1
   | clst xs=>obtain⟨is,h1,_⟩:=r.isClist e2;exact eN h1
   | _=>exact absurd (by show M.bind (M.read a) _ J=_;simp only[M.bind,M.read,q];first | rfl | (cases lo <;> rfl) | (cases lo <;> cases hi <;> rfl)) nb
 | bytes b=>refine VR.bytesC rx λt=>?_;exact n4 _ _ (typeIs_bytes _ _ _) FB.slot_bytes_getitem.lookup
 | _=>exact absurd (by first | rfl | (cases lo <;> cases hi <;> rfl)) nb
theorem z46 {M:Model}{A:qZ}{E:VP}{s:Shared}{l u:Value}{Q:VP}(h:Q (.ref s.heap.objs.size) { s with heap:=s.heap.push (ip l u) }):wpAny M A (newFields "slice" [l,u,.none]) Q E s:=
 pN h (by show(3:Nat)<=_;decide +kernel)
theorem z2S {A:qZ}{fs:List Env}{X U:List Addr}{J:MH}{s:Shared}{x lo hi:V}{v l u:Value}{po:Expr}{pl pu:Option Expr}{pos:Pos}{p2:Pos}(rx:VR c U s.heap x v)(rl:VR c U s.heap lo l)(rh:VR c U s.heap hi u):
  Sat c A fs X U J s (c6 x lo hi J) (VR c) (newFields "slice" [l,u,.none] >>= λi=>standAt pos >>= λ_=>getitemInPython v >>= λb=>subscripted (.Slice pl pu re p2) b v i >>= λr=>letTemporaryGo po v r >>= λ_=>pure r):=by
 refine Sat.nb λS nb=>?_
 intro Q E S0 nb0 ok ex;refine a9 (.of (z46 ?_));have k:∀ b o,s.heap.get? b=rc o->(s.heap.push (ip l u)).get? b=rc o:=λb o e=>oS _ e
 have E0:Evo fs X U s.heap U (s.heap.push (ip l u)):=.push _;have hs:(s.heap.push (ip l u)).IsSliceOf s.heap.objs.size l u .none:=Heap.IsSliceOf.new ..;have S1:St c fs U J (s.heap.push (ip l u)):=S.push _;have main:Sat c A fs X U J { s with heap:=s.heap.push (ip l u) } (c6 x lo hi J) (VR c) (standAt pos >>= λ_=>getitemInPython v >>= λb=>subscripted (.Slice pl pu re p2) b v (.ref s.heap.objs.size) >>= λr=>letTemporaryGo po v r >>= λ_=>pure r):=by
  refine Sat.standAt (Sat.nb λS nb=>?_);refine el22 (z3g S (rx.keeps k) nb) λT id hT hl=>?_
  refine Sat.skip (b:=rj) (λQ E h=>z7C hT hl h) ?_;refine(M.id (c6 x lo hi))▸?_;refine Sat.bind (Sat.operate (z4k (rx.keeps k) (rl.keeps k) (rh.keeps k) hs)) λz J2 U2 w s2 e2 S2 E2 r2=>?_
  exact Sat.skip (b:=()) (λQ E h=>wpAny_letTemporaryGo h) (Sat.pure r2)
 exact main Q E S1 nb0 (λa J' U' b s' e S' E' r O=>ok a J' U' b s' e S' (E0.trans E') r ⟨O.gens,O.os⟩) (λk J' U' e s' q F O=>ex k J' U' e s' q (F.before E0) ⟨O.gens,O.os⟩)
theorem z54 {Y β:Type}{M:Model}{A:qZ}{E:VP}{s:Shared}{vs:List Value}{t:Sem Y}{k:Y->Sem β}{Q:β->Shared->Prop}(h:wpF M A (t >>= k) Q E s):wpF M A (holding vs t >>= k) Q E s:=λΓ p a b=>by
 have:=h Γ p a b;rw[Sem.wp_bind'] at this ⊢
 rw[Sem.wp_holding];exact this
theorem Sat.unhold {Y β γ:Type}{A:qZ}{fs:List Env}{X U:List Addr}{J:MH}{s:Shared}{r:R Y}{vs:List Value}{t:Sem β}{k:β->Sem γ}{rel:List Addr->Heap->Y->γ->Prop}(h:Sat c A fs X U J s r rel (t >>= k)):Sat c A fs X U J s r rel (PySem.holding vs t >>= k):=
 λQ E S nb ok ex=>z54 (h Q E S nb @ok @ex)
theorem z8y {o a:E}{po pa:Expr}{pos p2:Pos}(ho:ar c n cx sc o po)(ha:ar c n cx sc a pa):ar c n cx sc (.upto o a) (.Subscript po (.Slice re (rc pa) re p2) pos):=by
 intro A fs Rm env X U J l s hX F;show Sat c A fs X U J s ((evE cx o l >>= λx=>evE cx a l >>= λy=>c6 x .none y) J) (VR c) (eval po env >>= λv=>holding [v] (pure qI >>= λlv=>holding [lv] (eval pa env) >>= λuv=>holding [lv,uv] (pure .none) >>= λsv=>newFields "slice" [lv,uv,sv]) >>= λi=>standAt pos >>= λ_=>getitemInPython v >>= λb=>subscripted (.Slice re (rc pa) re p2) b v i >>= λr=>letTemporaryGo po v r >>= λ_=>pure r);refine Sat.bind (ho A fs Rm env X U J l s hX F) λx J1 U1 v s1 e1 S1 E1 r1=>Sat.unhold ?_
 rw[qO,qJ];refine Sat.bind (Sat.holding (ha A fs Rm env X U1 J1 l s1 hX (F.evo E1 hX))) λy J2 U2 lv s2 e2 S2 E2 r2=>?_
 simp only[qJ];refine Sat.skip (b:=.none) (λQ E h=>qm (qF h)) ?_;exact z2S (r1.evo E2) .none r2
theorem z8w {o a b:E}{po pa pb:Expr}{pos p2:Pos}(ho:ar c n cx sc o po)(ha:ar c n cx sc a pa)(hb:ar c n cx sc b pb):ar c n cx sc (.part o a b) (.Subscript po (.Slice (rc pa) (rc pb) re p2) pos):=by
 intro A fs Rm env X U J l s hX F;rw[eval_Subscript];show Sat c A fs X U J s ((evE cx o l >>= λx=>evE cx a l >>= λy=>evE cx b l >>= λz=>c6 x y z) J) (VR c) (eval po env >>= λv=>holding [v] (eval pa env >>= λlv=>holding [lv] (eval pb env) >>= λuv=>holding [lv,uv] (pure .none) >>= λsv=>newFields "slice" [lv,uv,sv]) >>= λi=>standAt pos >>= λ_=>getitemInPython v >>= λb=>subscripted (.Slice (rc pa) (rc pb) re p2) b v i >>= λr=>letTemporaryGo po v r >>= λ_=>pure r);refine Sat.bind (ho A fs Rm env X U J l s hX F) λx J1 U1 v s1 e1 S1 E1 r1=>Sat.unhold ?_
 rw[qJ];refine Sat.bind (ha A fs Rm env X U1 J1 l s1 hX (F.evo E1 hX)) λy J2 U2 lv s2 e2 S2 E2 r2=>?_
 rw[qJ];refine Sat.bind (Sat.holding (hb A fs Rm env X U2 J2 l s2 hX ((F.evo E1 hX).evo E2 hX))) λz J3 U3 uv s3 e3 S3 E3 r3=>?_
 simp only[qJ];refine Sat.skip (b:=.none) (λQ E h=>qm (qF h)) ?_;exact z2S ((r1.evo E2).evo E3) (r2.evo E3) r3
theorem bK {e:Expr}{r:List Expr}{env:Env}(h:aR e=rg):qT (e:: r) env=(rj,eval e env):: qT r env:=by
 cases e <;> first | rfl | exact pY h
theorem jX {es:Es}{pes:List Expr}{pos:Pos}(h:EsR (ar c n cx sc) es pes):au pes=rg->∀ A fs,Room n A fs->∀ env X U J l s,env.locals∉X->Fst c sc env cx.cl U l s.heap->
  Sat c A fs X U J s (evEs cx es l J) (VRs c) (spliced (r9 pos (qT pes env))):=by
 induction h with
 | nil=>exact λ_ A fs Rm env X U J l s hX F=>Sat.pure .nil
 | @cons e es pe pes he hes ih=>
  intro hn A fs Rm env X U J l s hX F;obtain⟨h1,h2⟩:=Bool.and_eq_true_iff.mp (show(aR pe&&au pes)=rg from hn);rw[bK h1];show Sat c A fs X U J s ((evE cx e l >>= λv=>evEs cx es l >>= λvs=>(pure (v:: vs):M (List V))) J) (VRs c) (eval pe env >>= λv=>pure [v] >>= λhere=>holding here (spliced (r9 pos (qT pes env))) >>= λr=>pure (here++r));refine Sat.bind (he A fs Rm env X U J l s hX F) λx J1 U1 v s1 e1 S1 E1 r1=>?_
  rw[qO];refine Sat.bind (Sat.holding (ih h2 A fs Rm env X U1 J1 l s1 hX (F.evo E1 hX))) λxs J2 U2 vs s2 e2 S2 E2 r2=>?_
  exact Sat.pure (.cons (r1.evo E2) r2)
theorem z8s {es:Es}{pes:List Expr}{pos:Pos}(h:EsR (ar c n cx sc) es pes)(hn:au pes=rg):ar c n cx sc (.list es) (.List pes pos):=by
 intro A fs Rm env X U J l s hX F;show Sat c A fs X U J s ((evEs cx es l >>= λvs=>Mine.Internal.newList vs) J) (VR c) (standAt pos >>= λ_=>spliced (r9 pos (qT pes env)) >>= λvs=>PySem.newList vs);exact Sat.standAt (Sat.bind (jX h hn A fs Rm env X U J l s hX F) λxs J1 U1 vs s1 e1 S1 E1 r1=>z4l r1)
theorem z8x {a b:E}{pa pb:Expr}{k:_}{pos:Pos}(ha:ar c n cx sc a pa)(hb:ar c n cx sc b pb)(hn:au [pa,pb]=rg):ar c n cx sc (.t2 a b) (.Tuple [pa,pb] k pos):=by
 intro A fs Rm env X U J l s hX F;have e0:evE cx (.t2 a b) l=(evEs cx (.cons a (.cons b .nil)) l >>= oE λx y=>pure (.t2 x y)):=by
  show(evE cx a l >>= λx=>evE cx b l >>= λy=>(pure (V.t2 x y):M V))=(evE cx a l >>= λv=>(evE cx b l >>= λv'=>(pure []:M (List V)) >>= λvs=>pure (v':: vs)) >>= λvs=>pure (v:: vs)) >>= _;simp only[M.assoc];rfl
 rw[e0];show Sat c A fs X U J s _ (VR c) (standAt pos >>= λ_=>spliced (r9 pos (qT [pa,pb] env)) >>= λvs=>newTuple vs);refine Sat.standAt (Sat.bind (jX (.cons ha (.cons hb .nil)) hn A fs Rm env X U J l s hX F) λxs J1 U1 vs s1 e1 S1 E1 r1=>?_)
 induction r1 with
 | nil=>exact ap
 | cons ra r=>induction r with
  | nil=>exact ap
  | cons rb r=>induction r with
   | cons _ _=>exact ap
   | nil=>
    refine Sat.any λQ E S _ ok _=>wpAny_newTuple (ok _ _ _ _ _ rfl (S.push _) (.push _) (.t2 (pA _ rfl) (ra.evo (.push _ (fs:=fs) (X:=X))) (rb.evo (.push _ (fs:=fs) (X:=X))))) (by simp;decide +kernel)
theorem z6y {pos:Pos}:ar c n cx sc .dict0 (.Dict [] [] pos):=by
 intro A fs Rm env X U J l s hX F;rw[eval_Dict_empty];refine Sat.standAt (Sat.new (o:=.dct []) (λ_ _=>rfl) λQ E q=>.of ?_);refine pN (q _ s.toks _ _ (λb o e=>oS _ e) (aZ _) (pA _ rfl) (.dct (cy.empty _) .nil)) ?_;show(0:Nat)<=_;exact qB _
end
end
section
section
variable {c:Cfg}{n:Nat}{cx:Cx}{sc:Scope}
theorem St.hg {fs:List Env}{U:List Addr}{J:MH}{h:Heap}(S:St c fs U J h)(Wk:WOk c):h.Ns qw c.mg:=(by obtain⟨o,es,ep,ho,r⟩:=Wk.hg;exact⟨o,es,ep,S.base _ _ ho,r⟩)
theorem St.hb {fs:List Env}{U:List Addr}{J:MH}{h:Heap}(S:St c fs U J h)(Wk:WOk c):h.Ns qD c.mb:=(by obtain⟨o,es,ep,ho,r⟩:=Wk.hb;exact⟨o,es,ep,S.base _ _ ho,r⟩)
theorem fT {A:qZ}{fs:List Env}{U:List Addr}{J:MH}{s:Shared}{env:Env}{l:Loc}{cl:Nat->Option Nat}{x:Str}{v:Value}{pos:Pos}(Wk:WOk c)(S:St c fs U J s.heap)(F:Fst c sc env cl U l s.heap)(hl:sc.names.lookup x=rc .globalImplicit)(hd:(x==("__debug__" : Str))=rj)
  (hv:c.mg x=rc v){Q:VP}{E:VP}(h:Q v s):wpAny (model c.prog c.w) A (eval (.Name x pos) env) Q E s:=
 oM F.ok.kind (F.ok.gl _ hl) (Calls.loadGlobal_global (F.ok.glob▸S.hg Wk) hv h) hd
theorem cw {A:qZ}{fs:List Env}{U:List Addr}{J:MH}{s:Shared}{env:Env}{l:Loc}{cl:Nat->Option Nat}{x:Str}{v:Value}{pos:Pos}(Wk:WOk c)(S:St c fs U J s.heap)(F:Fst c sc env cl U l s.heap)(hl:sc.names.lookup x=rc .globalImplicit)(hd:(x==("__debug__" : Str))=rj)
  (hv:c.mg x=re/\c.mb x=rc v){Q:VP}{E:VP}(h:Q v s):wpAny (model c.prog c.w) A (eval (.Name x pos) env) Q E s:=
 oM F.ok.kind (F.ok.gl _ hl) (Calls.loadGlobal_builtin (F.ok.glob▸S.hg Wk) hv.1 (F.ok.blt▸S.hb Wk) hv.2 h) hd
theorem z8r (Wk:WOk c)(hP:cx.P=c.P){x:Nat}{nm:Str}{pos:Pos}(hn:c.nm x=nm)(hl:sc.names.lookup nm=rc .globalImplicit)(hd:(nm==("__debug__" : Str))=rj):ar c n cx sc (.gint x) (.Name nm pos):=by
 intro A fs Rm env X U J l s hX F;subst hn;show Sat c A fs X U J s ((M.lift (cx.P.gint x) >>= λi=>(pure (V.int i):M V)) J) _ _;refine Sat.lift λi e=>?_
 rw[hP] at e
 obtain⟨t,ht⟩:=Wk.gint x i e;exact Sat.any λQ E S _ ok _=>fT Wk S F hl hd ht (ok _ _ _ _ _ rfl S .refl (.int _ _))
theorem z3r {M:Model}{A:qZ}{E:VP}{s:Shared}{f:Value}{args:List (Bool×Sem Value)}{Q:Args->Shared->Prop}(hp:args.any (·.1)=rj)(h:wpF M A (spliced args) (λvs s'=>Q ⟨vs,[]⟩ s') E s):wpF M A (evalArgs f rg args []) Q E s:=by
 induction args with
 | nil=>
  refine a9 (ao h (λvs s' h'=>?_) λ_ _ x=>x);refine ay ?_;exact a9 (ac (a9 (ac (ac h'))))
 | cons x rest=>
  obtain⟨b,x⟩:=x;have hb:b=false:=by simp only[List.any_cons,Bool.or_eq_false_iff] at hp;exact hp.1
  subst hb;refine a9 (ao h (λvs s' h'=>?_) λ_ _ x=>x);refine ay ?_;exact a9 (ac (a9 (ac (ac h'))))
theorem cE:∀ {pes:List Expr}{pos:Pos}{env:Env},au pes=rg->(r9 pos (qT pes env)).any (·.1)=rj
 | [],_,_,_=>rfl
 | e:: r,pos,env,h=>by
  obtain⟨h1,h2⟩:=Bool.and_eq_true_iff.mp (show(aR e&&au r)=rg from h);rw[bK h1];show(rj||(r9 pos (qT r env)).any (·.1))=rj;rw[cE h2];rfl
theorem db {M:Model}{A:qZ}{E:VP}{s:Shared}{f:Value}{first:List Value}{args:List (Bool×Sem Value)}{pos:Pos}{Q:VP}(hp:args.any (·.1)=rj)
  (h:wpF M A (spliced args) (λvs s'=>(∃ k,(k = .machine∨k = .frame)/\∀ (Q:Keeper->Shared->Prop) E,Q k s'->wpAny M A (keeperOf f) Q E s')/\wpF M A (call f (first++vs)) Q E s') E s):wpF M A (qU pos f first args []) Q E s:=by
 refine a9 (ay (z3r hp (ao h (λvs s' h'=>?_) λ_ _ x=>x)));refine aw λ_ Z9=>?_
 refine bX h' λhz6 hc=>?_;obtain⟨k,hk,hkeep⟩:=hz6
 refine Z9 ?_;refine a9 (aF ?_);refine hp▸?_;have tail:∀ {t:Sem Value},wpF M A t Q E s'->wpF M A (t >>= λr=>holding [r] point >>= λ_=>pure r) Q E s':=λht=>a9 (ao ht (λr s₂ hr=>a9 (.of (qm (wpAny_point ?_)))) λ_ _ x=>x)
 ·refine a9 (.of (hkeep _ _ ?_))
  rcases hk with rfl | rfl
  ·exact tail hc
  ·show wpF _ _ (if args.length+2*([]:List (Option Str×Sem Value)).length > 30 then _ else _) _ _ _
   split
   ·exact tail hc
   ·exact tail (λΓ p a b=>by unfold callMarked;simp only[Sem.wp_keep];exact hc Γ p a b)
 ·exact ac hr
theorem Sat.callW {Y:Type}{A:qZ}{fs:List Env}(Rm:Room n A fs){X U:List Addr}{J:MH}{s:Shared}{env:Env}{l:Loc}{f:Value}{first:List Value}{es:Es}{pes:List Expr}{pos:Pos}{g:List V->M Y}{rel:List Addr->Heap->Y->Value->Prop}
  (h:EsR (ar c n cx sc) es pes)(hn:au pes=rg)(hX:env.locals∉X)(F:Fst c sc env cx.cl U l s.heap)
  (k:∀ as vs J' U' s',St c fs U' J' s'.heap->Evo fs X U s.heap U' s'.heap->VRs c U' s'.heap as vs->(∃ k,(k = .machine∨k = .frame)/\∀ (Q:Keeper->Shared->Prop) E,Q k s'->wpAny (model c.prog c.w) A (keeperOf f) Q E s')/\Sat c A fs X U' J' s' (g as J') rel (call f (first++vs))):
  Sat c A fs X U J s ((evEs cx es l >>= λas=>g as) J) rel (qU pos f first (r9 pos (qT pes env)) []):=by
 intro Q E S nb ok ex;have eb:(evEs cx es l >>= λas=>g as) J=match evEs cx es l J with | .ok a J'=>g a J' | .exc c J'=>.exc c J' | .bad=>.bad:=by show M.bind (evEs cx es l) (λas=>g as) J=_;unfold M.bind;cases evEs cx es l J <;> rfl
 refine db (cE hn) (jX h hn A fs Rm env X U J l s hX F _ _ S (λq=>?_) (λas J' U' vs s' e S' E' r O=>?_) λj J' U' e s' q F O=>?_)
 ·rw[eb,q] at nb;exact nb rfl
 ·replace eb:=e▸eb
  refine bX (k as vs J' U' s' S' E' r) λhk hs=>?_
  exact⟨hk,hs Q E S' (λq=>nb (eb.trans q)) (λa2 J2 U2 b2 s2 e2 S2 E2 r2 O2=>ok _ _ _ _ _ (eb.trans e2) S2 (E'.trans E2) r2 (O.trans O2))
   (λk J2 U2 e2 s2 q F O2=>ex _ _ _ _ _ (eb.trans q) (F.before E') (O.trans O2))⟩
 ·simp only[q] at eb
  exact ex _ _ _ _ _ eb F O
theorem bl {A:qZ}{s:Shared}{f:Value}(h:∀ a,f≠.ref a):∃ k,(k=Keeper.machine∨k=Keeper.frame)/\∀ (Q:Keeper->Shared->Prop) E,Q k s->wpAny (model c.prog c.w) A (keeperOf f) Q E s:=by
 refine⟨.machine,.inl rfl,λQ E hq=>?_⟩;cases f <;> first | exact absurd rfl (h _) | exact qF hq
theorem zaN (Wk:WOk c):∀ b:B1,c.mg (f8 b)=re/\c.mb (f8 b)=rc (mH b)
 | .len=>Wk.blt _ _ (pv (i:=0) rfl)
 | .list=>Wk.blt _ _ (pv (i:=1) rfl)
 | .bytes=>Wk.blt _ _ (pv (i:=2) rfl)
 | .bytearray=>Wk.blt _ _ (pv (i:=3) rfl)
 | .abs=>Wk.blt _ _ (pv (i:=4) rfl)
 | .dict=>Wk.blt _ _ (pv (i:=5) rfl)
 | .int=>Wk.blt _ _ (pv (i:=6) rfl)
 | .isint=>Wk.blt _ _ (pv (i:=7) rfl)
 | .sorted=>Wk.blt _ _ (pv (i:=12) rfl)
theorem z6W (b:B1)(a:Addr):mH b≠.ref a:=by cases b <;> exact λq=>by cases q
theorem mO (cx:Cx)(a:E)(l:Loc){β:Type}(f:List V->M β):(evEs cx (.cons a .nil) l >>= f)=(evE cx a l >>= λv=>f [v]):=by
 show(evE cx a l >>= λv=>(pure []:M (List V)) >>= λvs=>pure (v:: vs)) >>= f=_;simp only[M.assoc];rfl
theorem zbq (C:CfgOk c)(Wk:WOk c){b:B1}(hb:b≠.isint){a:E}{pa:Expr}{p1 pos:Pos}(ha:ar c n cx sc a pa)(hn:au [pa]=rg)(hl:sc.names.lookup (f8 b)=rc .globalImplicit):ar c n cx sc (.b1 b a) (.Call (.Name (f8 b) p1) [pa] [] pos):=by
 intro A fs Rm env X U J l s hX F;show Sat c A fs X U J s ((evE cx a l >>= λv=>bN b v) J) (VR c) (eval (.Name (f8 b) p1) env >>= λf=>qU pos f [] (r9 pos (qT [pa] env)) []);refine Sat.using λS=>?_
 refine Sat.skip (b:=mH b) (λQ E h=>cw Wk S F hl (by cases b <;> decide +kernel) (zaN Wk b) h) ?_;rw[<-mO cx a l (lK (bN b))];refine Sat.callW Rm (g:=lK (bN b)) (.cons ha .nil) hn hX F λas vs J' U' s' S' E' r=>⟨bl (z6W b),?_⟩
 cases r with
 | nil=>exact ap
 | cons ra r=>cases r with
  | cons _ _=>exact ap
  | nil=>
   rename_i x v;have e:([]:List Value)++[v]=z6V b v:=by cases b <;> first | rfl | exact absurd rfl hb
   rw[e];exact z2T C Rm ra
theorem z6A (C:CfgOk c)(Wk:WOk c){a:E}{pa:Expr}{p1 p2 pos:Pos}(ha:ar c n cx sc a pa)(hn:aR pa=rg)(hl:sc.names.lookup ("isinstance" : Str)=rc .globalImplicit)(hl2:sc.names.lookup ("int" : Str)=rc .globalImplicit):
  ar c n cx sc (.b1 .isint a) (.Call (.Name "isinstance" p1) [pa,.Name "int" p2] [] pos):=by
 intro A fs Rm env X U J l s hX F;show Sat c A fs X U J s ((evE cx a l >>= λv=>bN .isint v) J) (VR c) (eval (.Name "isinstance" p1) env >>= λf=>qU pos f [] (r9 pos (qT [pa,.Name "int" p2] env)) []);refine Sat.using λS=>?_
 refine Sat.skip (b:=.builtin "isinstance") (λQ E h=>cw Wk S F hl (by decide +kernel) (Wk.blt _ _ (pv (i:=7) rfl)) h) ?_;intro Q E S nb ok ex;have hn2:au [pa,.Name "int" p2]=true:=by show(aR pa&&(aR (.Name "int" p2)&&rg))=rg;rw[hn];rfl
 refine db (cE hn2) ?_;rw[bK hn];have eb:(evE cx a l >>= λv=>bN .isint v) J=match evE cx a l J with | .ok a J'=>bN .isint a J' | .exc c J'=>.exc c J' | .bad=>.bad:=by show M.bind _ _ J=_;unfold M.bind;cases evE cx a l J <;> rfl
 show wpF _ _ (eval pa env >>= λv=>pure [v] >>= λhere=>holding here (eval (.Name "int" p2) env >>= λv=>pure [v] >>= λhere=>holding here (pure []) >>= λr=>pure (here++r)) >>= λr=>pure (here++r)) _ _ _;refine a9 (ha A fs Rm env X U J l s hX F _ _ S (λq=>nb (by rw[eb,q])) (λx J' U' v s' e S' E' r O=>?_) λj J' U' e s' q F O=>ex _ _ _ _ _ (by rw[eb,q]) F O);replace eb:=e▸eb;refine a9 (ac (a9 (ay (a9 (.of (cw Wk S' (F.evo E' hX) hl2 (by decide +kernel) (Wk.blt "int" (.type "int") (pv (i:=6) rfl)) ?_))))));refine a9 (ac (a9 (ay (ac (ac (ac ⟨bl (by simp),?_⟩))))));exact z2T (b:=.isint) C Rm r Q E S' (λq=>nb (eb.trans q)) (λa2 J2 U2 b2 s2 e2 S2 E2 r2 O2=>ok _ _ _ _ _ (eb.trans e2) S2 (E'.trans E2) r2 (O.trans O2)) (λk J2 U2 e2 s2 q F O2=>ex _ _ _ _ _ (eb.trans q) (F.before E') (O.trans O2))
theorem zbp (Wk:WOk c){p1 pos:Pos}(hl:sc.names.lookup ("bytearray" : Str)=rc .globalImplicit):ar c n cx sc .b0 (.Call (.Name "bytearray" p1) [] [] pos):=by
 intro A fs Rm env X U J l s hX F;show Sat c A fs X U J s ((M.alloc (.ba []) >>= λa=>(pure (V.ref a):M V)) J) (VR c) (eval (.Name "bytearray" p1) env >>= λf=>qU pos f [] [] []);refine Sat.using λS=>?_
 refine Sat.skip (b:=.type "bytearray") (λQ E h=>cw Wk S F hl (by decide +kernel) (Wk.blt _ _ (pv (i:=3) rfl)) h) ?_;refine Sat.new (λ_ _=>rfl) λQ E q=>db rfl (ac ⟨bl (by simp),z36 ?_⟩)
 have hN0:(s.heap.push (c9 #[])).get? s.heap.objs.size=rc (c9 #[]):=pA _ rfl;refine q _ s.toks _ _ (λb o e=>?_) (aZ _) (oY _ hN0 rfl) (.ba (b:=[]));rw[oU _ _ (Nat.ne_of_gt (qp e))];exact oS _ e
theorem z8u (Wk:WOk c){a b:E}{pa pb:Expr}{p1 pos:Pos}(ha:ar c n cx sc a pa)(hb:ar c n cx sc b pb)(hn:au [pa,pb]=rg)(hl:sc.names.lookup ("min" : Str)=rc .globalImplicit):ar c n cx sc (.min a b) (.Call (.Name "min" p1) [pa,pb] [] pos):=by
 intro A fs Rm env X U J l s hX F;have e0:evE cx (.min a b) l=(evEs cx (.cons a (.cons b .nil)) l >>= oE o5):=by
  show(evE cx a l >>= λx=>evE cx b l >>= λy=>o5 x y)=(evE cx a l >>= λv=>(evE cx b l >>= λv'=>(pure []:M (List V)) >>= λvs=>pure (v':: vs)) >>= λvs=>pure (v:: vs)) >>= oE o5;simp only[M.assoc];rfl
 rw[e0];refine Sat.using λS=>?_
 refine Sat.skip (b:=.builtin "min") (λQ E h=>cw Wk S F hl (by decide +kernel) (Wk.blt _ _ (pv (i:=8) rfl)) h) ?_;refine Sat.callW Rm (.cons ha (.cons hb .nil)) hn hX F λas vs J' U' s' S' E' r=>⟨bl (by simp),?_⟩
 cases r with
 | nil=>exact ap
 | cons ra r=>cases r with
  | nil=>exact ap
  | cons rb r=>cases r with
   | cons _ _=>exact ap
   | nil=>
    rename_i x v y u;refine Sat.lift λi hi=>Sat.lift λj hj=>?_
    obtain rfl:=V.int_e hi;obtain rfl:=V.int_e hj;refine VR.intC ra λt=>?_
    refine VR.intC rb λt'=>?_
    exact z9D Rm
theorem z6u (Wk:WOk c)(K:CxOk c n cx){f:Nat}{x:Str}{as:Es}{pas:List Expr}{p1 pos:Pos}(hf:c.fnNm f=rc x)(h:EsR (ar c n cx sc) as pas)(hn:au pas=rg)(hl:sc.names.lookup x=rc .globalImplicit)(hd:(x==("__debug__" : Str))=rj):
  ar c n cx sc (.call f as) (.Call (.Name x p1) pas [] pos):=by
 intro A fs Rm env X U J l s hX F;refine Sat.using λS=>?_
 refine Sat.skip (b:=.ref (c.fnA f)) (λQ E h=>fT Wk S F hl hd (Wk.gfn _ _ hf) h) ?_;refine aw λ_ Z9=>?_
 refine el12 K.call λm hm CS=>?_
 refine el22 (Wk.fno f x hf) λo fd ho hdat=>?_
 refine Z9 ?_;refine Sat.callW Rm h hn hX F λvs vals J' U' s' S' E' r=>⟨⟨.frame,.inr rfl,λQ E hq=>?_⟩,CS A fs (Rm.le (Nat.le_of_succ_le (Nat.le_of_succ_le hm))) (.fn f) (.ref (c.fnA f)) vs vals X U' J' s' (.fn f) r⟩
 refine bQ (λh=>qG (S'.base _ _ ho) h) ?_;refine hdat▸?_;exact qF hq
end
end
section
theorem z2D:PlainAttrs "bytearray":=⟨⟨"bytearray.__getattribute__",by rw[qd,oZ];kernel_rfl,by decide +kernel⟩,by rw[qd,oZ];kernel_rfl⟩
theorem z2E:PlainAttrs "bytes":=⟨⟨"bytes.__getattribute__",by rw[qd,oZ];kernel_rfl,by decide +kernel⟩,by rw[qd,oZ];kernel_rfl⟩
theorem z2k:typeOf (.builtin "bytearray.extend")=pure (.type "method_descriptor"):=by show builtinType _=_;rw[builtinType_eq_fast];kernel_rfl
theorem z3p:typeOf (.builtin "bytes.join")=pure (.type "method_descriptor"):=by show builtinType _=_;rw[builtinType_eq_fast];kernel_rfl
theorem z3m:Slot "bytes" "join" "bytes.join":=
 .of (owner:="bytes") (n:="join") (by rw[qd,oZ];kernel_rfl) (by decide +kernel) (by decide +kernel) (by decide +kernel)
  (by first | exact .inl (by decide +kernel) | exact .inr (by decide +kernel)) (by rw[qj];kernel_rfl)
theorem cy.nodict {prog:qW}{w:World}{K:Type} [DecidableEq K]{knd:KeyKind prog w K}{ob:Obj}{kvs:List (K×Value)}(D:cy knd ob kvs):ob.dict=none:=by
 obtain⟨⟨_,h,_⟩,_⟩:=D;exact h
section
variable {c:Cfg}{n:Nat}{cx:Cx}{sc:Scope}
theorem z5L {M:Model}{A:qZ}{U:List Addr}{s:Shared}{b:BM}{a:Nat}{p:Addr}{o:O}{ob:Obj}{pl:Sem Bool}(e:s.heap.get? p=rc ob)(r:OR c U s.heap a o ob)(hf:gz b o=rg)
  {Q:Value×List Value->Shared->Prop}{E:VP}(h:Q (.builtin (jb b),[.ref p]) s):wpAny M A (getMethod (.ref p) (jc b) pl) Q E s:=by
 cases b with
 | get=>
  obtain⟨_,rfl⟩:=O.at_d hf;obtain⟨kvs,d,_⟩:=r.dct';exact getMethod_builtin (d.at e).typeIs F.plainAttrs_dict F.slot_dict_get F.type_dict_get (λa z=>by cases z;exact⟨ob,e,d.nodict⟩) h
 | append=>
  obtain⟨_,rfl⟩:=O.at_l hf;obtain⟨its,m,rfl,_⟩:=r.lst';exact getMethod_builtin ⟨_,e,rfl⟩ F.plainAttrs_list F.slot_list_append F.type_list_append (λa z=>by cases z;exact⟨_,e,rfl⟩) h
 | extend=>
  obtain⟨_,rfl⟩:=O.at_b hf;obtain rfl:=r.ba';exact getMethod_builtin ⟨_,e,rfl⟩ z2D F.ba_slot_extend z2k (λa z=>by cases z;exact⟨_,e,rfl⟩) h
 | remove=>
  obtain⟨_,rfl⟩:=O.at_l hf;obtain⟨its,m,rfl,_⟩:=r.lst';exact getMethod_builtin ⟨_,e,rfl⟩ F.plainAttrs_list F.slot_list_remove F.type_list_remove (λa z=>by cases z;exact⟨_,e,rfl⟩) h
 | pop=>
  obtain⟨_,rfl⟩:=O.at_d hf;obtain⟨kvs,d,_⟩:=r.dct';exact getMethod_builtin (d.at e).typeIs F.plainAttrs_dict F.slot_dict_pop F.type_dict_pop (λa z=>by cases z;exact⟨ob,e,d.nodict⟩) h
 | join=>exact pY hf
theorem eH {few:Bool}{o:Expr}{env:Env}{apos pos:Pos}(h:(apos.endLine==pos.line)=rg):methodCallPos few o env apos pos=pure pos:=by
 unfold methodCallPos;rw[h,Bool.or_true];rfl
theorem z3U {pes:List Expr}{pos:Pos}{env:Env}(hn:au pes=rg)(hz:pes.length<30):methodCallForm (pes.length+0) (r9 pos (qT pes env)) (backToKw pos [])=true:=by
 have h1:(r9 pos (qT pes env)).all (!·.1)=true:=by
  have:=cE (pos:=pos) (env:=env) hn;rw[List.all_eq_true];intro x hx;rw[List.any_eq_false] at this
  simpa using this x hx
 unfold methodCallForm;rw[h1];simp[backToKw];omega
theorem z8t (C:CfgOk c)(Wk:WOk c)(I:bZ c)(K:CxOk c n cx){o:E}{m:Nat}{b:Option BM}{as:Es}{po:Expr}{pas:List Expr}{apos pos:Pos}{nm:Str}(hnm:c.nm m=nm)(hbm:∀ x,b=rc x->nm=jc x)(hs:fW po=rg)
  (ho:ar c n cx sc o po)(h:EsR (ar c n cx sc) as pas)(hn:au pas=rg)(hz:pas.length<30)(hl:(apos.endLine==pos.line)=rg):ar c n cx sc (.meth o m b as) (.Call (.Attribute po nm apos) pas [] pos):=by
 intro A fs Rm env X U J l s hX F;subst hnm;show Sat c A fs X U J s ((evE cx o l >>= λov=>(match ov with
  | .ref a=>do
   match<-M.read a with
   | .inst k d=>do
    let f<-M.lift (cx.P.mth k m)
    match<-M.read d with
    | .ns fs=>do
     M.guard (af m fs).isNone
     let vs<-evEs cx as l
     cx.call (.fn f) (ov:: vs)
    | _=>M.bad
   | o=>do
    let b<-M.lift b
    M.guard (gz b o)
    let vs<-evEs cx as l
    cp b ov vs
  | .bytes _=>do
   let b<-M.lift b
   M.guard (decide (b = .join))
   let vs<-evEs cx as l
   cp b ov vs
  | _=>M.bad:M V)) J) (VR c) (attributeBase po (c.nm m) env (eval po env) >>= λov=>standAt apos.atName >>= λ_=>(do
   let (f,first)<-holding [ov] (calleeOf (methodCallForm (pas.length+0) (r9 pos (qT pas env)) (backToKw pos [])) po env ov (c.nm m))
   let callPos<-methodCallPos (methodCallForm (pas.length+0) (r9 pos (qT pas env)) (backToKw pos [])) po env apos pos
   qU callPos f first (r9 pos (qT pas env)) (backToKw pos [])))
 rw[kC hs,z3U hn hz];refine Sat.bind (ho A fs Rm env X U J l s hX F) λov J1 U1 v s1 e1 S1 E1 r1=>Sat.standAt ?_
 have F1:=F.evo E1 hX;have bi:∀ {bm:BM}{v:Value},(∀ {Q:Value×List Value->Shared->Prop}{E:VP},Q (.builtin (jb bm),[v]) s1->wpAny (model c.prog c.w) A (getMethod v (jc bm) (do return (<-importBound po env).getD rg)) Q E s1)->c.nm m=jc bm->VR c U1 s1.heap ov v->
   Sat c A fs X U1 J1 s1 ((evEs cx as l >>= λvs=>cp bm ov vs) J1) (VR c) (do
   let (f,first)<-holding [v] (calleeOf rg po env v (c.nm m))
   let callPos<-methodCallPos rg po env apos pos
   qU callPos f first (r9 pos (qT pas env)) (backToKw pos [])):=λ{bm v} hget hname rv=>by
  refine Sat.skip (b:=(.builtin (jb bm),[v])) (λQ E h=>qm (by refine hname▸?_;exact hget h)) ?_;refine(eH hl)▸?_;refine Sat.skip (b:=pos) (λQ E h=>qF h) ?_;exact Sat.callW Rm h hn hX F1 λvs vals J' U' s' S' E' r=>⟨bl (by simp),z6B C I Rm (rv.evo E') r⟩
 induction ov with
 | ref a=>
  refine el12 r1.inv_ref λp ez1=>?_;subst ez1;intro hp
  refine Sat.read hp λo ob q1 q2 rr nn=>?_
  induction o with
  | inst k d=>
   refine Sat.lift λf hf=>?_
   rw[K.P] at hf
   refine aw λ_ Z9=>?_
   obtain⟨CO,w1,w2,oo,fd,w3,w4⟩:=Wk.mth _ _ _ hf;obtain⟨dx,hd,rfl⟩:=rr.inst';refine Z9 ?_;refine Sat.read hd λo' ob' q3 q4 r2 n2=>?_
   induction o' with
   | ns es=>
    refine Sat.guard λg=>?_
    refine aw λ_ Z9=>?_
    obtain⟨mm,N,g1,g2⟩:=r2.ns';refine Z9 ?_;have hnone:mm (c.nm m)=none:=g2 _ (Option.isNone_iff_eq_none.mp g);have I0:InstAt s1.heap p (instObj (c.cls k) dx) (c.cls k) (rc ob'):=⟨q2,rfl,rfl,q4⟩
    refine Sat.skip (b:=(.ref (c.fnA f),[.ref p])) (λQ E h=>qm (method_fn (Wk.in S1) I0 CO.ga CO.gt w1 w2 (by show(lookIn (c.nm m) ob').map (·.isSome)=rc rj;rw[N.look,hnone];rfl) h)) ?_;refine(eH hl)▸?_;refine Sat.skip (b:=pos) (λQ E h=>qF h) ?_;obtain⟨mx,hm,CS⟩:=K.call;refine Sat.callW Rm h hn hX F1 λvs vals J' U' s' S' E' r=>⟨⟨.frame,.inr rfl,λQ E hq=>?_⟩,CS A fs (Rm.le (Nat.le_of_succ_le (Nat.le_of_succ_le hm))) (.fn f) (.ref (c.fnA f)) (.ref a:: vs) (.ref p:: vals) X U' J' s' (.fn f) (.cons (r1.evo E') r)⟩
    unfold keeperOf;refine qE (qG (S'.base _ _ w3) ?_);refine w4▸?_;exact qF hq
   | _=>exact ap
  | _=>
   refine Sat.lift λbm hb=>Sat.guard λg=>?_
   exact bi (z5L q2 rr g) (hbm _ hb) r1
 | bytes x=>
  obtain⟨t,rfl⟩:=r1.inv_bytes;refine Sat.lift λbm hb=>Sat.guard λg=>?_
  obtain rfl:=of_decide_eq_true g;exact bi (λ{Q E} h=>getMethod_builtin (typeIs_bytes _ _ _) z2E z3m z3p (λa z=>by cases z) h) (hbm _ hb) r1
 | _=>exact ap
end
end
section
section
variable {prog:qW}{w:World}{A:qZ}{E:VP}{s:Shared}{R:r6->Shared->Prop}
theorem z08 {id:String}{args:Args}{b:Builtin}(hq:(Code.builtin id args).quiet=rg)(hl:c7.contains id=rj)(hb:entryFor table id=rc b)
  (hc:wpAny (model prog w) A.in1 (pW id args) (λ_ s₁=>s₁=s) (λ_ _=>False) s)
  (h:wpF (model prog w) (A.under (.builtin id args)) (b args) (mX (model prog w) A R) (λe s'=>R (.error e) s') s):bo (model prog w) A (.call (.builtin id) args) R s:=by
 refine aT ?_;show wpF _ A.in1 (do pW id args;again (.builtin id args)) _ _ s;refine a9 (ao (.of hc) (λ_ s₁ e=>?_) λ_ _ x=>x.elim);subst e;exact ac ⟨hq,i4 hl _,dM hb h⟩
theorem z4M {C:Addr}{h:Heap}{g:Array GenState}{d:Drawn}{t:Nat}{os:OsState}{rest:List Value}{init:Value}(Y9:Makes (model prog w) h C)(hi:Looks (model prog w) h (qH (.ref C) "__init__") (rc init))
  (hb:∀ self,Looks (model prog w) h (bindSpecial init self) (init,[self]))(hne:(rc init != rc (Value.builtin "object.__init__"))=rg)
  (hq:wpF (model prog w) (A.under (.builtin "type.__call__" ⟨.ref C:: rest,[]⟩)) (call init (.ref (h.objs.size+1):: rest)) (λv s'=>v = .none/\R (.ok (.ret (.ref (h.objs.size+1)))) s') (λe s'=>R (.error e) s') ⟨(h.push qP).push (instObj C h.objs.size),g,d,t,os⟩):
  bo (model prog w) A (.call (.ref C) ⟨rest,[]⟩) R ⟨h,g,d,t,os⟩:=by
 have Y':=Y9;refine aw λ_ Z9=>?_
 obtain⟨⟨oc,od,cd,sl,hC,e1,e2,e4⟩,made,base,self,top,call_,typ⟩:=Y9;refine Z9 ?_;refine aT ?_;refine bH (λh=>.of (qG hC h)) ?_;refine bH (λh=>.of (call_.here h)) ?_;dsimp only;refine a9 (ac (bH (λh=>ac h) ?_));refine ac (a:=Fin.again (.call (.builtin "type.__call__") ⟨.ref C:: rest,[]⟩)) (And.intro rfl (And.intro rfl ?_));refine z08 (Code.quiet_builtin _ (by decide +kernel)) (by decide +kernel) entry_typeCall (check_slot tc_kind tc_split typ (tc_args _ _ _) rfl) ?_;unfold Builtin.«type.__call__»;have hm:Looks (model prog w) h (mroOf (.ref C)) cd.mro:=((Looks.ld (part:=re) hC).andThen .now).andThen .now;dsimp only;rw[if_neg (by simp)];refine bH (λh=>.of (hm.here h)) ?_;rw[if_neg (by rw[e4];exact pE)];refine a9 (.of (made.here ?_));refine a9 (ac (a9 (ay ?_)));refine .of (wpAny_call (new_K Y' hi (.inl hne) ?_));dsimp only;have k:∀ b o,h.get? b=rc o->((h.push qP).push (instObj C h.objs.size)).get? b=rc o:=λb o e=>oS _ (oS _ e)
 have hx:((h.push qP).push (instObj C h.objs.size)).get? (h.objs.size+1)=rc (instObj C h.objs.size):=by heap_get
 have t1:Looks (model prog w) ((h.push qP).push (instObj C h.objs.size)) (typeOf (.ref (h.objs.size+1))) (.ref C):=(Looks.ld hx).andThen .now;have s1:=self.keeps k;have i1:=hi.keeps k;have b1:=(hb (.ref (h.objs.size+1))).keeps k;have ii:Looks (model prog w) ((h.push qP).push (instObj C h.objs.size)) (isInstance (.ref (h.objs.size+1)) (.ref C)) true:=t1.andThen s1;refine a9 (.of (ii.here ?_));rw[if_neg (by exact pE)];refine a9 (ay ?_);have sp:Looks (model prog w) ((h.push qP).push (instObj C h.objs.size)) (specialOf (.ref (h.objs.size+1)) "__init__") (rc init):=t1.andThen i1;unfold callSpecial?;refine a9 (.of (sp.here ?_));refine ay (a9 (.of (b1.here ?_)));refine a9 (ao hq (λv s' z=>?_) λ_ _ z=>z);obtain⟨rfl,z⟩:=z;refine ac ?_;show wpF _ _ (if(qI != qI)=rg then _ else ret _) _ _ _;rw[if_neg (by decide)];exact ac z
theorem Room.makes {n m:Nat}{fs:List Env}{C:Addr}{rest:List Value}(R:Room n A fs)(h:m+2<=n):Room m (A.under (.builtin "type.__call__" ⟨.ref C:: rest,[]⟩)) fs:=by
 have w1:(Code.builtin "type.__call__" ⟨.ref C:: rest,[]⟩).weight=1:=by kernel_rfl
 have w2:(Code.builtin "type.__call__" ⟨.ref C:: rest,[]⟩).cUnits=1:=by kernel_rfl
 refine⟨?_,R.handled,?_,?_⟩
 ·show pushEnvs (Code.builtin "type.__call__" ⟨.ref C:: rest,[]⟩).envs A.frames=rc fs
  rw[R.frames];rfl
 ·show A.depth+(Code.builtin "type.__call__" ⟨.ref C:: rest,[]⟩).weight+m<=900
  rw[w1];exact z8d R.depth (Nat.le_of_succ_le h)
 ·show A.units+(Code.builtin "type.__call__" ⟨.ref C:: rest,[]⟩).cUnits+8*m<=9000
  rw[w2];exact z8e R.units (Nat.le_of_succ_le h) (by decide)
end
section
variable {c:Cfg}{n:Nat}{cx:Cx}{sc:Scope}
theorem z4I {A:qZ}{s:Shared}{C:Addr}(Y9:Makes (model c.prog c.w) s.heap C):∃ k,(k=Keeper.machine∨k=Keeper.frame)/\∀ (Q:Keeper->Shared->Prop) E,Q k s->wpAny (model c.prog c.w) A (keeperOf (.ref C)) Q E s:=by
 refine aw λ_ Z9=>?_
 obtain⟨oc,od,cd,sl,hC,_⟩:=Y9.obj;refine Z9 ?_;refine⟨.machine,.inl rfl,λQ E hq=>?_⟩;unfold keeperOf;refine bQ (λh=>qG hC h) ?_;dsimp only;refine qE (Y9.call.here ?_);exact qF hq
theorem OR.empty {h:Heap}{U:List Addr}{a:Nat}:OR c U h a (.ns []) qP:=by
 refine .ns (m:=λ_=>re) ⟨#[],0,rfl,λe he=>?_,λn=>rfl,rfl⟩ (λx v e=>by cases e) λ_ _=>rfl
 simp at he
theorem z9E (Wk:WOk c)(K:CxOk c n cx){k:Nat}{x:Str}{as:Es}{pas:List Expr}{p1 pos:Pos}(hk:c.clsNm k=rc x)(h:EsR (ar c n cx sc) as pas)(hn:au pas=rg)(hl:sc.names.lookup x=rc .globalImplicit)(hd:(x==("__debug__" : Str))=rj):
  ar c n cx sc (.new k as) (.Call (.Name x p1) pas [] pos):=by
 intro A fs Rm env X U J l s hX F;refine aw λ_ Z9=>?_
 obtain⟨hg,f,hf⟩:=Wk.gcls _ _ hk;refine gh (Wk.init _ _ hf) λCO w1 w2=>?_
 refine Z9 ?_;refine Sat.using λS=>?_
 refine Sat.skip (b:=.ref (c.cls k)) (λQ E h=>fT Wk S F hl hd hg h) ?_;refine el12 K.call λm hm CS=>?_
 refine Sat.callW Rm h hn hX F λvs vals J' U' s' S' E' r=>⟨z4I (makes_of (Wk.in S') CO.mak),?_⟩
 have Y9:=makes_of (M:=model c.prog c.w) (Wk.in S') CO.mak;rw[K.P,hf];intro Q E S₁ nb ok ex;refine aw λ_ Z9=>?_
 obtain⟨hh,g,d,t,os⟩:=s';refine Z9 ?_;refine fE (z4M Y9 (looks_findIn (Wk.in S') w1) (λself=>bind_fn (Wk.in S') self w2) rfl ?_);have S2:St c fs (U'++[hh.objs.size]) (J'.push (.ns [])) (hh.push qP):=S'.alloc rfl .empty;have E2:Evo fs X U' hh (U'++[hh.objs.size]) (hh.push qP):=.alloc _;have hd2:(U'++[hh.objs.size])[J'.n]? = rc hh.objs.size:=by rw[S'.len];simp
 have S3:St c fs ((U'++[hh.objs.size])++[(hh.push qP).objs.size]) ((J'.push (.ns [])).push (.inst k J'.n)) ((hh.push qP).push (instObj (c.cls k) hh.objs.size)):=
  S2.alloc rfl (.inst (by rw[oO (by rw[S'.len];simp)];exact hd2))
 have E3:Evo fs X (U'++[hh.objs.size]) (hh.push qP) ((U'++[hh.objs.size])++[(hh.push qP).objs.size]) ((hh.push qP).push (instObj (c.cls k) hh.objs.size)):=.alloc _;have E4:=E2.trans E3;have ra:VR c ((U'++[hh.objs.size])++[(hh.push qP).objs.size]) ((hh.push qP).push (instObj (c.cls k) hh.objs.size)) (.ref (J'.n+1)) (.ref (hh.objs.size+1)):=by
  have:=z8c S2 (hh.push qP).objs.size ((hh.push qP).push (instObj (c.cls k) hh.objs.size));rw[Heap.size_push] at this
  rw[Heap.size_push];exact this
 refine CS _ fs (Rm.makes hm) (.fn f) (.ref (c.fnA f)) (.ref (J'.n+1):: vs) (.ref (hh.objs.size+1):: vals) X _ _ _ (.fn f) (.cons ra (r.evo E4)) _ _ S3 (λq=>nb ?_) (λa J2 U2 b s2 e S4 E5 rr O=>?_) (λj J2 U2 e s2 q F2 O=>?_)
 ·show M.bind (cx.call (.fn f) (.ref (J'.n+1):: vs)) _ ((J'.push (.ns [])).push (.inst k J'.n))=_
  simp only[M.bind,q]
 ·have eb:∀ g:V->M V,M.bind (cx.call (.fn f) (.ref (J'.n+1):: vs)) g ((J'.push (.ns [])).push (.inst k J'.n))=g a J2:=λg=>by simp only[M.bind,e]
  induction a with
  | none=>
   cases rr
   exact⟨rfl,ok _ _ _ _ _ (eb _) S4 (E4.trans E5) (ra.evo E5) ⟨O.gens,O.os⟩⟩
  | _=>exact absurd (eb _) nb
 ·exact ex _ _ _ _ _ (by show M.bind (cx.call (.fn f) (.ref (J'.n+1):: vs)) _ ((J'.push (.ns [])).push (.inst k J'.n))=_;simp only[M.bind,q]) (F2.before E4) ⟨O.gens,O.os⟩
end
end
section
theorem Evo.later {fs:List Env}{X Y9 U₀ U U':List Addr}{h₀ h h':Heap}(E₁:Evo fs X U₀ h₀ U h)(E₂:Evo fs Y9 U h U' h')(hY:∀ y∈Y9,y∈X∨h₀.get? y=re):Evo fs X U₀ h₀ U' h':=by
 have nin:∀ {b o},h₀.get? b=rc o->b∉U₀->b∉U:=λ{b o} e n m=>by
  rcases E₁.fresh b m with z | z
  ·exact n z
  ·rw[z] at e;cases e
 have ny:∀ {b o},h₀.get? b=rc o->b∉X->b∉Y9:=λ{b o} e n m=>by
  rcases hY b m with z | z
  ·exact n z
  ·rw[z] at e;cases e
 refine⟨?_,λx m=>?_,λb o e=>?_,λy o e n1 n2 n3=>E₂.keep _ _ (E₁.keep _ _ e n1 n2 n3) (nin e n1) (ny e n2) n3,λy o e n1 n2=>?_,λy o e f=>E₂.frz _ _ (E₁.frz _ _ e f) f⟩
 ·obtain⟨m1,q1⟩:=E₁.pre
  obtain⟨m2,q2⟩:=E₂.pre;exact⟨m1++m2,by rw[q2,q1,pK]⟩
 ·rcases E₂.fresh x m with z | z
  ·exact E₁.fresh x z
  ·right
   cases q:h₀.get? x with
   | none=>rfl
   | some o=>
    obtain⟨o',e'⟩:=E₁.dom _ _ q;rw[e'] at z;cases z
 ·obtain⟨o',e'⟩:=E₁.dom _ _ e
  exact E₂.dom _ _ e'
 ·obtain⟨s1,q1⟩:=E₁.slot _ _ e n1 n2
  obtain⟨s2,q2⟩:=E₂.slot _ _ q1 (nin e n1) (ny e n2);exact⟨s2,q2⟩
theorem Fly.later {c:Cfg}{fs:List Env}{X Y9 U₀ U U':List Addr}{h₀ h h':Heap}{k:Nat}{J':MH}{e:Value}(E₁:Evo fs X U₀ h₀ U h)(F:Fly c fs Y9 U h k J' U' e h')(hY:∀ y∈Y9,y∈X∨h₀.get? y=re):Fly c fs X U₀ h₀ k J' U' e h':=by
 refine lE F λa B a0 e1 e2 F=>?_
 have nin:∀ {b o},h₀.get? b=rc o->b∉U₀->b∉U:=λ{b o} e n m=>by
  refine Or.elim (E₁.fresh b m) (λz=>?_) (λz=>?_)
  ·exact n z
  ·rw[z] at e;cases e
 have ny:∀ {b o},h₀.get? b=rc o->b∉X->b∉Y9:=λ{b o} e n m=>by
  refine Or.elim (hY b m) (λz=>?_) (λz=>?_)
  ·exact n z
  ·rw[z] at e;cases e
 refine⟨a,B,a0,e1,e2,F.stays,F.eB,F.frames,F.st,F.nfr,?_,λx m=>?_,λy o e n1 n2 n3=>?_,λy o e n1 n2=>?_,λy o e nf=>?_,λy o e f=>F.frz _ _ (E₁.frz _ _ e f) f⟩
 ·obtain⟨m1,q1⟩:=E₁.pre
  obtain⟨m2,q2⟩:=F.pre;exact⟨m1++m2,by rw[q2,q1,pK]⟩
 ·rcases F.fresh x m with z | z
  ·exact E₁.fresh x z
  ·right
   cases q:h₀.get? x with
   | none=>rfl
   | some o=>
    obtain⟨o',e'⟩:=E₁.dom _ _ q;replace z:=e'▸z;cases z
 ·exact F.keep _ _ (E₁.keep _ _ e n1 n2 n3) (nin e n1) (ny e n2) n3
 ·obtain⟨s1,q1⟩:=E₁.slot _ _ e n1 n2
  refine fk (F.slot _ _ q1 (nin e n1) (ny e n2)) λs2 q2=>?_
  exact⟨s2,q2⟩
 ·obtain⟨o',e'⟩:=E₁.dom _ _ e
  exact F.domB _ _ e' nf
section
variable {Y β:Type}{c:Cfg}{A:qZ}{fs:List Env}{X Y9 U:List Addr}{J:MH}{s:Shared}{rel:List Addr->Heap->Y->β->Prop}
end
end
section
namespace FR
theorem z6t:Slot "reversed" "__init__" "object.__init__":=
 .of (owner:="object") (n:="__init__") (by rw[qd,oZ];kernel_rfl) (by decide +kernel) (by decide +kernel) (by decide +kernel)
  (by first | exact .inl (by decide +kernel) | exact .inr (by decide +kernel)) (by rw[qj];kernel_rfl)
theorem slot_next:Slot "reversed" "__next__" "reversed.__next__":=
 .of (owner:="reversed") (n:="__next__") (by rw[qd,oZ];kernel_rfl) (by decide +kernel) (by decide +kernel) (by decide +kernel)
  (by first | exact .inl (by decide +kernel) | exact .inr (by decide +kernel)) (by rw[qj];kernel_rfl)
theorem slot_iter:Slot "reversed" "__iter__" "reversed.__iter__":=
 .of (owner:="reversed") (n:="__iter__") (by rw[qd,oZ];kernel_rfl) (by decide +kernel) (by decide +kernel) (by decide +kernel)
  (by first | exact .inl (by decide +kernel) | exact .inr (by decide +kernel)) (by rw[qj];kernel_rfl)
theorem entry_next:entryFor table "reversed.__next__" = rc Builtin.«reversed.__next__»:=by first | exact entryFor_of_fast (by kernel_rfl) | exact pV (by kernel_rfl)
theorem args_next (a:Value):argsOk "reversed.__next__" ⟨[a],[]⟩:=by unfold argsOk;kernel_rfl
theorem entry_iter:entryFor table "reversed.__iter__" = rc Builtin.«dict_keyiterator.__iter__»:=
 entryFor_alias (id':="dict_keyiterator.__iter__") (by kernel_rfl) (by first | rfl | decide +kernel | (unfold String.splitOn;simp +decide [String.splitOnAux])) (by decide +kernel) (by kernel_rfl)
theorem args_iter (a:Value):argsOk "reversed.__iter__" ⟨[a],[]⟩:=by unfold argsOk;kernel_rfl
theorem called:TypeCalled "reversed" "reversed.__new__" "object.__init__":=
 ⟨by decide +kernel,by decide +kernel,⟨_,_,PySem.F.mro_reversed⟩,PySem.F.made_reversed,by decide +kernel,PySem.F.sub_reversed_self,z6t⟩
theorem look_rev:qH (.type "bytes") "__reversed__" = pure none:=by rw[qd,oZ];kernel_rfl
theorem by_not_dict:isSubtype (.type "bytes") (.type "dict")=pure false:=by rw[qj];kernel_rfl
end FR
noncomputable def kg (b:List UInt8)(t:Tok)(i:Int):Obj:={ cls:=.type "reversed",data:=.fields #[.bytes b.toArray t,r7 i] }
section
variable {prog:qW}{w:World}{A:qZ}{E:VP}{s:Shared}{t:Tok}{b:List UInt8}
theorem z7b {Q:VP}(hz:b.length<=1000000)(h:∀ k,Q (.ref s.heap.objs.size) { s with heap:=s.heap.push (kg b t ((b.length:Int)-1)),toks:=k }):
  wpAny (model prog w) A (call (.type "reversed") [.bytes b.toArray t]) Q E s:=by
 refine callType_codes (Q₁:=λobj s₁=>s₁.TypeIs obj "reversed"/\Q obj s₁) FR.called (PySem.F.typeCall_reversed_1 _) F.entry_object_init ?_ λobj s₁ h₁=>?_
 ·refine codeAny_of_tree ?_
  refine qE (qy (PySem.F.newCall_reversed_1 _) (qF ⟨plainId_quiet PySem.F.plain_reversed_new _,qc PySem.F.entry_reversed_new ?_⟩));unfold Builtin.«reversed.__new__»;refine qE (qy (newClass_reversed _) ?_);dsimp only;refine bQ (λh=>qy (a:=()) (by first | rfl | kernel_rfl) h) ?_;refine qE (qy (a:=()) (by first | rfl | kernel_rfl) ?_);refine qE (qe (typeIs_bytes _ _ t) FR.look_rev ?_);dsimp only;refine qE (qy (a:=rg) ?_ ?_)
  ·show(isInstance (.bytes b.toArray t) (.type "dict") >>= _)=_
   rw[show isInstance (.bytes b.toArray t) (.type "dict")=pure rj from FR.by_not_dict,qO,if_neg (by exact pE)];rw[KBy.special_eq FB.slot_bytes_getitem.lookup,qO];rfl
  rw[if_neg (by decide)];refine qE (PySem.W.len_bytes (by simp;exact qt hz (by decide)) ?_);refine qE (qy (a:=rc ((b.toArray.size:Nat):Int)) rfl ?_);dsimp only;show wpAny _ _ (newObj (.type "reversed") (.fields #[.bytes b.toArray t,r7 ((b.toArray.size:Int)-1)]) >>= _) _ _ _;refine qE (pN (qF ?_) (by size_fits));refine⟨⟨_,pA _ rfl,rfl⟩,?_⟩;have:=h (s.toks+1+1);simpa [kg] using this
 ·exact⟨h₁.1,F.args_object_init_2 obj _,object_init_meets FR.called.init.lookup FR.called.made (by decide) prog w A.in1 _ s₁ ⟨h₁.1,rfl,h₁.2⟩⟩
theorem z7L {I:Addr}{i:Int}{Q:VP}(hit:s.heap.get? I=rc (kg b t i))(h:Q (.ref I) s):wpAny (model prog w) A (pyIter (.ref I)) Q E s:=by
 have hT:s.TypeIs (.ref I) "reversed":=⟨_,hit,rfl⟩
 refine wpAny_pyIter_slot hT FR.slot_iter (wpAny_call_entry FR.slot_iter hT FR.entry_iter ?_ (FR.args_iter _));show wpAny _ _ (ret (.ref I)) _ _ s;exact qF ⟨_,rfl,"reversed",_,hT,FR.slot_next.lookup,h⟩
theorem z81 {I:Addr}{i:Nat}{x:UInt8}{Q:Option Value->Shared->Prop}(hit:s.heap.get? I=rc (kg b t (i:Int)))(hz:b.length<=1000000)(hx:b[i]? = rc x)
  (hQ:∀ h' tk k,h'.get? I=rc (kg b t ((i:Int)-1))->qo I s.heap h'->Q (rc (.int x.toNat tk)) { s with heap:=h',toks:=k }):wpAny (model prog w) A (pyNext (.ref I)) Q E s:=by
 have hT:s.TypeIs (.ref I) "reversed":=⟨_,hit,rfl⟩
 have hi:i<b.length:=(List.getElem?_eq_some_iff.mp hx).1;unfold pyNext;refine qE (wpAny_attempt (wpAny_callSpecial?_slot (name:=Str.ofString "__next__") hT FR.slot_next
  (wpAny_call_entry FR.slot_next hT FR.entry_next ?_ (FR.args_next _))))
 unfold Builtin.«reversed.__next__»;refine qE (qy (a:=(qN I,[])) rfl ?_);dsimp only;refine qE (qz (x:=.bytes b.toArray t) hit rfl rfl ?_);refine qE (qz (x:=r7 (i:Int)) hit rfl rfl ?_);show wpAny _ _ (if(i:Int)<0 then _ else _) _ _ s;rw[if_neg (by omega)];refine qE (qe (typeIs_bytes _ _ t) FB.slot_bytes_getitem.lookup ?_);rw[if_neg (by exact pE)];refine qE (wpAny_mkInt (qE (wpAny_attempt (getItem_bytes (by omega) (by omega) (by omega) ?_))));dsimp only;refine qE (qz (x:=r7 (i:Int)) hit rfl rfl ?_);show wpAny _ _ (setField (qN I) 1 (r7 ((i:Int)-1)) >>= _) _ _ _;refine qE (wpAny_setField hit rfl (by simp) ?_);have e:b.getD ((i:Int)).toNat 0=x:=by simp[List.getD,hx]
 rw[e];refine qF ⟨_,rfl,qF (hQ _ _ _ ?_ (pB ..))⟩;rw[oY _ hit rfl];rfl
theorem z3k {I:Addr}{Q:Option Value->Shared->Prop}(hh:A.handled=re)(hit:s.heap.get? I=rc (kg b t (-1)))
  (hQ:∀ h',Heap.ExtBut I s.heap h'->Q re { s with heap:=h' }):wpAny (model prog w) A (pyNext (.ref I)) Q E s:=by
 have hT:s.TypeIs (.ref I) "reversed":=⟨_,hit,rfl⟩
 refine qE (wpAny_attempt (wpAny_callSpecial?_slot (name:=Str.ofString "__next__") hT FR.slot_next
  (wpAny_call_entry FR.slot_next hT FR.entry_next ?_ (FR.args_next _))))
 refine qE (qy (a:=(qN I,[])) rfl ?_);refine qE (qz (x:=.bytes b.toArray t) hit rfl rfl ?_);refine qE (qz (x:=r7 (-1)) hit rfl rfl ?_);show wpAny _ _ (if(-1:Int)<0 then _ else _) _ _ s;refine qE (wpAny_rule ?_);refine qE ?_;refine qE (wpAny_setField hit rfl (by simp) ?_);have h1:(s.heap.update I (Obj.mapFields (·.setIfInBounds 1 (r7 (-1))))).get? I=rc (kg b t (-1)):=by
  rw[oY _ hit rfl];rfl
 refine wpAny_setField h1 rfl (by simp) ?_;have kk:Heap.ExtBut I s.heap ((s.heap.update I (Obj.mapFields (·.setIfInBounds 1 (r7 (-1))))).update I (Obj.mapFields (·.setIfInBounds 0 qI))):=λb' o ne e=>by
  rw[oU _ _ (qY ne),oU _ _ (qY ne)];exact e
 refine qE ?_;refine qE ?_;refine qE (pN ?_ (by size_fits));refine qE (m:=firstArgMember _ _) (qy (a:=qI) rfl ?_);refine pN ?_ (by size_fits);refine qE (wpAny_handled ?_);rw[(hh:A.in1.handled=re)];refine qE (qF (wpAny_throw ?_));refine qE (wpAny_isInstance (T:="StopIteration") (b:=rg) ⟨_,pA _ rfl,rfl⟩ isSubtype_stop ?_);exact qF (hQ _ ((kk.push _).push _))
end
end
section
theorem V.int_inj {a b:Int}(h:V.int a=V.int b):a=b:=congrArg (λv=>match v with | V.int i=>i | _=>0) h
theorem z4L {n:Nat}{o:O}{ys:List V}(e:mq n o=rc ys):o = .lst ys/\ys.length=n:=by
 induction o with
 | lst zs=>
  unfold mq at e
  dsimp only at e
  cases q:qX zs.length n with
  | true=>rw[q] at e;cases e;exact⟨rfl,oX q⟩
  | false=>rw[q] at e;cases e
 | _=>cases e
theorem MH.lstAt_inv {J:MH}{a n:Nat}{ys:List V}(e:J.lstAt a n=rc ys):J.get a=rc (.lst ys)/\ys.length=n:=by
 unfold MH.lstAt at e
 cases q:J.get a with
 | none=>rw[q] at e;cases e
 | some o=>
  rw[q] at e
  obtain⟨rfl,e2⟩:=z4L e;exact⟨rfl,e2⟩
theorem It.stop_inv {i:It}{J:MH}(h:i.stop J≠.bad):i.stop J = .ok () J/\∀ a n en,i.watch=rc (a,n,en)->∃ ys,J.get a=rc (.lst ys)/\ys.length=n:=by
 obtain⟨its,w⟩:=i
 induction w with
 | none=>exact⟨rfl,λ_ _ _ q=>by cases q⟩
 | some w=>
  obtain⟨a,n,en⟩:=w;unfold It.stop at h ⊢
  dsimp only at h ⊢
  cases q:J.lstAt a n with
  | none=>replace h:=q▸h;exact absurd rfl h
  | some ys=>exact⟨rfl,λ_ _ _ e=>by cases e;exact⟨ys,MH.lstAt_inv q⟩⟩
theorem It.item_inv {i:It}{x:V}{J:MH}(h:i.item x J≠.bad):∃ y,i.item x J = .ok y J/\(i.watch=re->y=x)/\∀ a n en,i.watch=rc (a,n,en)->∃ k ys z,x = .int k/\J.get a=rc (.lst ys)/\ys.length=n/\ys[k.toNat]? = rc z/\y=match en with | true=>.t2 (.int k) z | false=>z:=by
 obtain⟨its,w⟩:=i
 induction w with
 | none=>exact mZ x rfl (λ_=>rfl) (λ_ _ _ q=>by cases q)
 | some w=>
  obtain⟨a,n,en⟩:=w;unfold It.item at h ⊢
  dsimp only at h ⊢
  induction x with
  | int k=>
   cases q:J.lstAt a n with
   | none=>rw[q] at h;exact absurd rfl h
   | some ys=>
    rw[q] at h
    dsimp only at h ⊢
    cases q2:ys[k.toNat]? with
    | none=>rw[q2] at h;exact absurd rfl h
    | some z=>exact mZ _ rfl (λe=>by cases e) (λ_ _ _ e=>by cases e;obtain⟨e1,e2⟩:=MH.lstAt_inv q;exact⟨k,ys,z,rfl,e1,e2,q2,rfl⟩)
  | _=>exact absurd rfl h
noncomputable def n7 (x step:Int):Nat->List V
 | 0=>[]
 | k+1=>.int x:: n7 (x+step) step k
inductive ItK (c:Cfg)(U:List Addr)(h:Heap):Bool->List Addr->It->List V->Value->Prop
 | lst {a x its n k m it}:U[a]? = rc x->h.IsListIter it x k->n=k+m->ItK c U h rj [it] ⟨its,rc (a,n,rj)⟩ (dX k m) (.ref it)
 | rng {it x left step its}:IsRangeIter h it x (qK left) step->ItK c U h rj [it] ⟨its,re⟩ (n7 x step left) (.ref it)
 | enm {a x its n k m e it old}:U[a]? = rc x->h.IsListIter it x k->IsEnum h e it (k:Int) old->e≠it->n=k+m->ItK c U h rg [e,it] ⟨its,rc (a,n,rg)⟩ (dX k m) (.ref e)
 | rev {it its}{k:Nat}{b:List UInt8}{t:Tok}:h.get? it=rc (kg b t ((k:Int)-1))->b.length<=lim->k<=b.length->ItK c U h rj [it] ⟨its,re⟩ ((b.take k).reverse.map λx=>V.int x.toNat) (.ref it)
 | key {it d kvs ep its}{k:Nat}:h.IsKeyIter it d k kvs.length ep->c.base.DictAt (iK c) d kvs ep->ItK c U h rj [it] ⟨its,re⟩ ((kvs.drop k).map λp=>V.int p.1) (.ref it)
noncomputable def lC (o:Obj):Prop:=(∃ vs,o.data = .fields vs)/\o.cls≠.type "code"
theorem cU {o:Obj}{vs:Array Value}{n:String}(hd:o.data = .fields vs)(hc:o.cls = .type n)(hn:(n == "code")=rj):lC o:=⟨⟨vs,hd⟩,λq=>by rw[hc] at q;cases q;cases hn⟩
theorem lC.free {o:Obj}(w:lC o):¬ aG o:=(by obtain⟨⟨_,e⟩,c⟩:=w;exact lN (i:=9) (e▸rfl) rfl (.inl rfl) (.inr c))
structure ItAt (c:Cfg)(U:List Addr)(h:Heap)(tup:Bool)(own:List Addr)(i:It)(rest:List V)(v:Value):Prop where
 mine:∀ b∈own,(∃ o,h.get? b=rc o/\lC o)/\b∉U/\c.base.get? b=re
 at':ItK c U h tup own i rest v
section
variable {c:Cfg}{A:qZ}{fs:List Env}{X U U':List Addr}{J:MH}{s:Shared}{h h':Heap}
theorem ItK.keeps {tup:Bool}{own:List Addr}{i:It}{rest:List V}{v:Value}(I:ItK c U h tup own i rest v)(hp:∀ (a:Nat)(x:Addr),U[a]? = rc x->U'[a]? = rc x)(k:∀ b o,b∈own->h.get? b=rc o->h'.get? b=rc o):ItK c U' h' tup own i rest v:=by
 induction I with
 | lst e q z=>obtain⟨o,ho,r⟩:=q;exact .lst (hp _ _ e) ⟨o,k _ _ (.head _) ho,r⟩ z
 | rng q=>exact .rng (k _ _ (.head _) q)
 | enm e q r n z=>obtain⟨o,ho,r'⟩:=q;exact .enm (hp _ _ e) ⟨o,k _ _ (.tail _ (.head _)) ho,r'⟩ (k _ _ (.head _) r) n z
 | rev q z1 z2=>exact .rev (k _ _ (.head _) q) z1 z2
 | key q z=>obtain⟨o,ho,r⟩:=q;exact .key ⟨o,k _ _ (.head _) ho,r⟩ z
theorem FramesOk.nofields {base:Heap}(F:FramesOk base h U fs){b:Addr}(e:∃ o,h.get? b=rc o/\lC o):b∉frs fs:=λm=>by
 refine aw λ_ Z9=>?_
 obtain⟨_,_,o,es,n,e1,e2⟩:=F.mem m;obtain⟨o',e3,⟨vs,e4⟩,_⟩:=e;refine Z9 ?_;rw[e1] at e3;cases e3
 rw[e2] at e4;cases e4
theorem ItAt.free {tup:Bool}{own:List Addr}{i:It}{rest:List V}{v:Value}(I:ItAt c U h tup own i rest v){b:Addr}{o:Obj}(m:b∈own)(e:h.get? b=rc o):¬ aG o:=
 (by obtain⟨⟨_,e1,e2⟩,_⟩:=I.mine b m;exact qb (e1.symm.trans e)▸e2.free)
theorem ItAt.evo {tup:Bool}{own:List Addr}{i:It}{rest:List V}{v:Value}(I:ItAt c U h tup own i rest v)(S:St c fs U J h)(E:Evo fs X U h U' h')(hX:∀ b∈own,b∉X):ItAt c U' h' tup own i rest v:=by
 have k:∀ b o,b∈own->h.get? b=rc o->h'.get? b=rc o:=λb o m e=>E.keep b o e (I.mine b m).2.1 (hX b m) (S.fr.nofields (I.mine b m).1)
 refine⟨λb m=>?_,I.at'.keeps (λ_ _=>E.get) k⟩;refine aw λ_ Z9=>?_
 obtain⟨⟨o,e1,e2⟩,e3,e4⟩:=I.mine b m;refine Z9 ?_;refine⟨⟨o,k _ _ m e1,e2⟩,λq=>?_,e4⟩
 rcases E.fresh b q with z | z
 ·exact e3 z
 ·rw[z] at e1;cases e1
theorem ItAt.turn {tup:Bool}{own:List Addr}{i:It}{rest:List V}{v:Value}(I:ItAt c U h tup own i rest v)(S:St c fs U J h)(k:∀ b o,b∉own->h.get? b=rc o->h'.get? b=rc o)(d:∀ b∈own,∃ o',h'.get? b=rc o'):
  St c fs U J h'/\Evo fs own U h U h':=by
 have nf:∀ b o,b∈own->h.get? b=rc o->¬ aG o:=λb o m e=>I.free m e
 refine⟨S.other (λb o e z=>k b o (λm=>?_) e) ⟨λenv m=>?_⟩,⟨[],by simp⟩,λ_ m=>.inl m,λb o e=>?_,λb o e _ n _=>k b o n e,λb o e _ n=>⟨o.slots,k b o n e⟩,λb o e f=>k b o (λm=>nf b o m e f) e⟩
 ·refine gh (I.mine b m) λe1 e2 e3=>?_
  rcases z with z | z | z
  ·exact e2 z
  ·exact nf b o m e z
  ·replace z:=e3▸z;cases z
 ·refine aw λ_ Z9=>?_
  obtain⟨a,L,o,es,n,e1,e2,e3,e4,e6⟩:=S.fr.each env m;refine Z9 ?_;exact⟨a,L,o,es,n,e1,e2,e3,k _ _ (λq=>S.fr.nofields (I.mine L q).1 (List.mem_filterMap.mpr ⟨env,m,e1⟩)) e4,e6⟩
 ·by_cases m:b∈own
  ·exact d b m
  ·exact⟨o,k b o m e⟩
theorem ItAt.again {tup:Bool}{own:List Addr}{i:It}{rest rest':List V}{v:Value}(I:ItAt c U h tup own i rest v)(d:∀ b∈own,∃ o',h'.get? b=rc o'/\lC o')(k:ItK c U h' tup own i rest' v):ItAt c U h' tup own i rest' v:=
 ⟨λb m=>⟨d b m,(I.mine b m).2⟩,k⟩
theorem fP {target:Expr}{r:Addr}{v:Value}{o:Obj}{n:String}{vs:Array Value}{M:Model}{Q:Unit->Shared->Prop}{E:VP}(ho:s.heap.get? r=rc o)(hc:o.cls = .type n)(hd:o.data = .fields vs)
  (hn:(["enumerate","zip","dict_itemiterator","dict_reverseitemiterator","odict_iterator","itertools.zip_longest","itertools.pairwise"].contains n)=rj)(h:Q () s):wpAny M A (qf target (.ref r) v) Q E s:=by
 have key:∀ es k p,wpAny M A (qf (.Tuple es k p) (.ref r) v) Q E s:=λ_ _ _=>by
  induction v with
  | ref a=>
   refine qE (qG ho ?_);rw[hc,hd];dsimp only;rw[hn,Bool.false_and,if_neg pE];exact qF h
  | _=>exact qF h
 cases target with
 | Tuple es k p=>exact key es k p
 | List es p=>exact key es 0 p
 | _=>exact qF h
theorem z5Z {pe:Expr}(h:bv pe=rg):∃ es k p,pe = .Tuple es k p:=by
 cases pe <;> first | exact in31 _ _ _ rfl | exact pY h
noncomputable def ki (M:Model)(A:qZ)(it:Value)(target:Expr)(Q:VP)(E:VP)(s:Shared):Prop:=
 wpAny M A (pyNext it) (λr s₁=>match r with | some val=>wpAny M A (qf target it val) (λ_ s₂=>Q val s₂) E s₁ | none=>False) E s
noncomputable def hM (c:Cfg)(fs:List Env)(U:List Addr)(J:MH)(s:Shared)(tup:Bool)(own:List Addr)(i:It)(rest:List V)(it:Value)(y:V)(Q:VP):Prop:=
 ∀ val h' tk,St c fs U J h'->Evo fs own U s.heap U h'->VR c U h' y val->ItAt c U h' tup own i rest it->Q val { s with heap:=h',toks:=tk }
theorem gZ {it:Addr}{tup:Bool}{i:It}{rest rest':List V}{o':Obj}(I:ItAt c U h tup [it] i rest (.ref it))(S:St c fs U J h)(hs:Heap.ExtBut it h h')(ho:h'.get? it=rc o')(hd:lC o')(k:ItK c U h' tup [it] i rest' (.ref it)):
  St c fs U J h'/\Evo fs [it] U h U h'/\ItAt c U h' tup [it] i rest' (.ref it):=by
 obtain⟨S',E'⟩:=I.turn (h':=h') S (λb o n e=>hs b o (λq=>n (q▸List.mem_singleton_self it)) e) (λb m=>List.mem_singleton.mp m▸⟨_,ho⟩);exact⟨S',E',I.again (λb m=>List.mem_singleton.mp m▸⟨_,ho,hd⟩) k⟩
noncomputable def zb9 (en:Bool)(k:Int)(z:V):V:=match en with | true=>.t2 (.int k) z | false=>z
theorem z7V {a n:Nat}{x:Addr}{en:Bool}{its0:List V}{v y:V}(S:St c fs U J h)(hk:(It.mk its0 (rc (a,n,en))).item v J = .ok y J)(e:U[a]? = rc x):∃ (k:Int)(z:V)(its:List Value)(m:Nat),v = .int k/\h.get? x=rc (bI its m)/\its.length=n/\y=zb9 en k z/\∃ val,its[k.toNat]? = rc val/\VR c U h z val:=by
 refine el13 (It.item_inv (i:=⟨its0,rc (a,n,en)⟩) (x:=v) (J:=J) (by rw[hk];intro q;cases q)) λy' h1 _ h3=>?_
 replace h1:=hk▸h1;cases h1;refine aw λ_ Z9=>?_
 refine oq (h3 _ _ _ rfl) λk xs z ez9=>?_;subst ez9;intro hg hn hv hy
 refine S.lstP e hg λits m e2 rv=>?_
 refine Z9 ?_;exact zci k z its m rfl e2 (rv.length.symm.trans hn) hy (All2.get rv hv)
theorem z9i {a n k m:Nat}{x it:Addr}{its0:List V}{v y:V}{rest:List V}{target:Expr}{Q:VP}{E:VP}(I:ItAt c U s.heap rj [it] ⟨its0,rc (a,n,rj)⟩ (v:: rest) (.ref it))(S:St c fs U J s.heap)(hk:(It.mk its0 (rc (a,n,rj))).item v J = .ok y J)
  (ok:hM c fs U J s rj [it] ⟨its0,rc (a,n,rj)⟩ rest (.ref it) y Q)(e:U[a]? = rc x)(q:s.heap.IsListIter it x k)(z:n=k+m)(hr:v:: rest=dX k m):ki (model c.prog c.w) A (.ref it) target Q E s:=by
 refine aw λ_ Z9=>?_
 obtain⟨kz,z',its,mm,rfl,e2,hn,hy,val,h1,h2⟩:=z7V S hk e;refine Z9 ?_;replace hy:y=z':=hy;subst hy;cases m with
 | zero=>cases hr
 | succ m=>
  refine aw λ_ Z9=>?_
  obtain⟨e0,rfl⟩:=List.cons.inj hr;obtain rfl:=V.int_inj e0;refine Z9 ?_;refine wpAny_pyNext_list_item q ⟨_,e2,rfl,_,rfl⟩ (x:=val) ((p0 ..).trans h1) λh' q' hs=>?_
  refine aw λ_ Z9=>?_
  refine el13 (id q') λo' ho' hc' hd'=>?_
  obtain⟨S',E',I'⟩:=gZ I S hs.extBut ho' (cU hd' hc' (by decide)) (.lst (m:=m) e q' (by lia));refine Z9 ?_;exact fP (s:={ s with heap:=h' }) ho' hc' hd' (by decide +kernel) (ok val h' s.toks S' E' (h2.evo E') I')
theorem z9k {it:Addr}{x step:Int}{left:Nat}{its0:List V}{v y:V}{rest:List V}{target:Expr}{Q:VP}{E:VP}(I:ItAt c U s.heap rj [it] ⟨its0,re⟩ (v:: rest) (.ref it))(S:St c fs U J s.heap)(hk:(It.mk its0 re).item v J = .ok y J)
  (ok:hM c fs U J s rj [it] ⟨its0,re⟩ rest (.ref it) y Q)(q:IsRangeIter s.heap it x (qK left) step)(hr:v:: rest=n7 x step left):ki (model c.prog c.w) A (.ref it) target Q E s:=by
 cases hk
 cases left with
 | zero=>cases hr
 | succ left=>
  refine aw λ_ Z9=>?_
  refine bX (List.cons.inj hr) λez2 ez3=>?_;subst ez2;subst ez3
  refine Z9 ?_;refine wpAny_pyNext_range_item q (Int.ofNat_lt.mpr (Nat.succ_pos _)) λh' q' hs=>?_
  replace q':=(show(qK (left+1)-1)=qK left by simp)▸q';refine gh (gZ I S hs.extBut q' (cU rfl rfl (by decide)) (.rng q')) λS' E' I'=>?_
  exact fP (s:={ s with heap:=h',toks:=s.toks+1 }) q' rfl rfl (by decide +kernel) (ok _ h' (s.toks+1) S' E' (.int x s.toks) I')
theorem z9j {it:Addr}{k:Nat}{b:List UInt8}{t:Tok}{its0:List V}{v y:V}{rest:List V}{target:Expr}{Q:VP}{E:VP}(I:ItAt c U s.heap rj [it] ⟨its0,re⟩ (v:: rest) (.ref it))(S:St c fs U J s.heap)(hk:(It.mk its0 re).item v J = .ok y J)
  (ok:hM c fs U J s rj [it] ⟨its0,re⟩ rest (.ref it) y Q)(q:s.heap.get? it=rc (kg b t ((k:Int)-1)))(z1:b.length<=lim)(z2:k<=b.length)(hr:v:: rest=(b.take k).reverse.map λx=>V.int x.toNat):ki (model c.prog c.w) A (.ref it) target Q E s:=by
 cases hk
 cases k with
 | zero=>cases hr
 | succ k=>
  have e1:b[k]? = rc (b[k]'z2):=oP z2;simp only[List.take_add_one,e1,Option.toList_some,List.reverse_append] at hr
  refine bX (List.cons.inj hr) λez7 ez8=>?_;subst ez7;subst ez8
  rw[show((k+1:Nat):Int)-1=(k:Int) by omega] at q
  refine z81 q (by have ll:lim=1000000:=rfl;omega) e1 λh' tk kt q' hs=>?_
  refine gh (gZ I S hs.extBut q' (cU rfl rfl (by decide)) (.rev q' z1 (Nat.le_of_succ_le z2))) λS' E' I'=>?_
  exact fP (s:={ s with heap:=h',toks:=kt }) q' rfl rfl (by decide +kernel) (ok _ h' kt S' E' (.int _ tk) I')
theorem z9h {it d:Addr}{k ep:Nat}{kvs:List (Int×Value)}{its0:List V}{v y:V}{rest:List V}{target:Expr}{Q:VP}{E:VP}(I:ItAt c U s.heap rj [it] ⟨its0,re⟩ (v:: rest) (.ref it))(S:St c fs U J s.heap)(hk:(It.mk its0 re).item v J = .ok y J)
  (ok:hM c fs U J s rj [it] ⟨its0,re⟩ rest (.ref it) y Q)(q:s.heap.IsKeyIter it d k kvs.length ep)(z:c.base.DictAt (iK c) d kvs ep)(hr:v:: rest=(kvs.drop k).map λp=>V.int p.1):ki (model c.prog c.w) A (.ref it) target Q E s:=by
 cases hk
 cases e:kvs.drop k with
 | nil=>replace hr:=e▸hr;cases hr
 | cons p r=>
  replace hr:=e▸hr;refine bX (List.cons.inj hr) λez1 ez2=>?_;subst ez1;subst ez2
  have e1:kvs[k]? = rc p:=by rw[<-List.head?_drop,e];rfl
  have e2:r=kvs.drop (k+1):=by rw[<-List.tail_drop,e];rfl
  refine wpAny_pyNext_dict_item q (z.keep S.base) e1 λkey h' hx q' hs=>?_
  refine aw λ_ Z9=>?_
  obtain⟨t,rfl⟩:=Value.isInt_shape hx;refine el13 (id q') λo' ho' hc' hd'=>?_
  refine gh (gZ (rest':=r.map λp=>V.int p.1) I S hs.extBut ho' (cU hd' hc' (by decide)) (e2▸.key q' z)) λS' E' I'=>?_
  refine Z9 ?_;exact fP (s:={ s with heap:=h' }) ho' hc' hd' (by decide +kernel) (ok _ h' s.toks S' E' (.int _ t) I')
theorem z9g {a n k m:Nat}{x e it:Addr}{old:Value}{its0:List V}{v y:V}{rest:List V}{target:Expr}{Q:VP}{E:VP}(I:ItAt c U s.heap rg [e,it] ⟨its0,rc (a,n,rg)⟩ (v:: rest) (.ref e))(S:St c fs U J s.heap)(hk:(It.mk its0 (rc (a,n,rg))).item v J = .ok y J)(ht:bv target=rg)
  (ok:hM c fs U J s rg [e,it] ⟨its0,rc (a,n,rg)⟩ rest (.ref e) y Q)(ea:U[a]? = rc x)(q:s.heap.IsListIter it x k)(r:IsEnum s.heap e it (k:Int) old)(ne:e≠it)(z:n=k+m)(hr:v:: rest=dX k m):ki (model c.prog c.w) A (.ref e) target Q E s:=by
 refine aw λ_ Z9=>?_
 obtain⟨kz,z',its,mm,rfl,e2,hn,hy,val,h1,h2⟩:=z7V S hk ea;refine Z9 ?_;replace hy:y = .t2 (.int kz) z':=hy;subst hy;cases m with
 | zero=>cases hr
 | succ m=>
  obtain⟨e0,rfl⟩:=List.cons.inj hr;obtain rfl:=V.int_inj e0;refine zc9 (z5Z ht) λ_ _ _ ez4=>?_;subst ez4
  refine wpAny_pyNext_enum_item r q ⟨_,e2,rfl,_,rfl⟩ (x:=val) ((p0 ..).trans h1) ne λh' o' q' pr _ kk=>?_
  refine wpAny_letOwnedTupleGo_enum (s:={ s with heap:=h',toks:=s.toks+1 }) o' λh'' r' hs=>?_
  refine aw λ_ Z9=>?_
  refine el13 (id q') λoi hoi hci hdi=>?_
  have hoi':h''.get? it=rc oi:=hs.extBut it oi (qY ne) hoi;have both:∀ b∈[e,it],∃ o',h''.get? b=rc o'/\lC o':=λb m=>by
   rcases List.mem_cons.mp m with rfl | m
   ·exact bf _ r' (cU rfl rfl (by decide))
   ·exact List.mem_singleton.mp m▸⟨_,hoi',cU hdi hci (by decide)⟩
  refine aw λ_ Z1=>?_
  obtain⟨S',E'⟩:=I.turn (h':=h'') S (λb o nb eo=>hs.extBut b o (λq=>nb (q▸pH ..)) (kk b o (λq=>nb (q▸pH ..)) (λq=>nb (q▸List.mem_cons_of_mem _ (List.mem_singleton_self _))) eo)) (λb m=>(by obtain⟨o,h1,_⟩:=both b m;exact⟨o,h1⟩));refine Z1 ?_;refine Z9 ?_;have pr':h''.get? s.heap.objs.size=rc (fY (.int k s.toks) val):=hs.extBut _ _ (Nat.ne_of_gt (qp r)) pr;exact ok _ h'' (s.toks+1) S' E' (.t2 pr' (.int _ _) (h2.evo E')) (I.again both (.enm ea ⟨oi,hoi',hci,hdi⟩ r' ne (by lia)))
theorem z2O {tup:Bool}{own:List Addr}{i:It}{v:V}{rest:List V}{it:Value}{target:Expr}{Q:VP}{E:VP}(I:ItAt c U s.heap tup own i (v:: rest) it)(S:St c fs U J s.heap){y:V}(hk:i.item v J = .ok y J)(ht:tup=rg->bv target=rg)
  (ok:hM c fs U J s tup own i rest it y Q):ki (model c.prog c.w) A it target Q E s:=by
 have k:=I.at'
 generalize hr:v:: rest=all at k
 induction k with
 | lst e q z=>exact z9i I S hk ok e q z hr
 | rng q=>exact z9k I S hk ok q hr
 | enm e q r n z=>exact z9g I S hk (ht rfl) ok e q r n z hr
 | rev q z1 z2=>exact z9j I S hk ok q z1 z2 hr
 | key q z=>exact z9h I S hk ok q z hr
theorem ItAt.lost {tup:Bool}{own:List Addr}{i:It}{rest:List V}{v:Value}(I:ItAt c U h tup own i rest v)(S:St c fs U J h)(k:∀ b o,b∉own->h.get? b=rc o->h'.get? b=rc o):St c fs U J h':=by
 have nf:∀ b o,b∈own->h.get? b=rc o->¬ aG o:=λb o m e=>I.free m e
 refine S.other (λb o e z=>k b o (λm=>?_) e) ⟨λenv m=>?_⟩
 ·refine gh (I.mine b m) λe1 e2 e3=>?_
  rcases z with z | z | z
  ·exact e2 z
  ·exact nf b o m e z
  ·replace z:=e3▸z;cases z
 ·refine aw λ_ Z9=>?_
  obtain⟨a,L,o,es,n,e1,e2,e3,e4,e6⟩:=S.fr.each env m;refine Z9 ?_;exact⟨a,L,o,es,n,e1,e2,e3,k _ _ (λq=>S.fr.nofields (I.mine L q).1 (List.mem_filterMap.mpr ⟨env,m,e1⟩)) e4,e6⟩
theorem Evo.ended {own:List Addr}{U₀:List Addr}{h₀:Heap}(E:Evo fs X U₀ h₀ U h)(hw:∀ b∈own,h₀.get? b=re)(k:∀ b o,b∉own->h.get? b=rc o->h'.get? b=rc o):Evo fs X U₀ h₀ U h':=by
 have n:∀ b o,h₀.get? b=rc o->b∉own:=λb o e m=>by rw[hw b m] at e;cases e
 refine⟨E.pre,E.fresh,λb o e=>?_,λb o e n1 n2 n3=>k b o (n b o e) (E.keep b o e n1 n2 n3),λb o e n1 n2=>?_,λb o e f=>k b o (n b o e) (E.frz b o e f)⟩
 ·obtain⟨o',e'⟩:=E.dom b o e
  exact⟨o',k b o' (n b o e) e'⟩
 ·obtain⟨sl,e'⟩:=E.slot b o e n1 n2
  exact⟨sl,k b _ (n b o e) e'⟩
theorem z47 {tup:Bool}{own:List Addr}{i:It}{it:Value}{Q:Option Value->Shared->Prop}{E:VP}(hh:A.handled=re)(I:ItAt c U s.heap tup own i [] it)(S:St c fs U J s.heap)(hk:i.stop J≠.bad)
  (ok:∀ h',St c fs U J h'->(∀ b o,b∉own->s.heap.get? b=rc o->h'.get? b=rc o)->Q re { s with heap:=h' }):wpAny (model c.prog c.w) A (pyNext it) Q E s:=by
 obtain⟨mine,k⟩:=id I;generalize hr:([]:List V)=all at k
 have fin:∀ {b:Addr}{h':Heap},b∈own->Heap.ExtBut b s.heap h'->Q re { s with heap:=h' }:=λ{b h'} m k=>by
  have kk:∀ b' o,b'∉own->s.heap.get? b'=rc o->h'.get? b'=rc o:=λb' o n e=>k b' o (λq=>n (q▸m)) e
  exact ok h' (I.lost S kk) kk
 induction k with
 | @lst a x its0 n0 k m0 it e q z=>
  refine aw λ_ Z9=>?_
  obtain⟨xs,hg,hn⟩:=(It.stop_inv hk).2 _ _ _ rfl;refine Z9 ?_
  induction m0 with
  | succ m0=>cases hr
  | zero=>
  refine S.lstP e hg λits m e2 rv=>?_
  have hx:its.toArray[k]? = none:=by
   have:xs.length<=k:=qu (hn.trans z);rw[p0,List.getElem?_eq_none (by rw[<-All2.length rv];exact this)]
  exact wpAny_pyNext_list_end hh q ⟨_,e2,rfl,_,rfl⟩ hx λh' k=>fin (.head _) k
 | @rng it x left step its q=>
  induction left with
  | succ left=>cases hr
  | zero=>exact wpAny_pyNext_range_end hh q (by show(qK 0)<=0;exact Int.le_refl 0) λh' k=>fin (.head _) k
 | @enm a x its0 n0 k m0 e it old ea q r n z=>
  refine el12 ((It.stop_inv hk).2 _ _ _ rfl) λxs hg hn=>?_
  induction m0 with
  | succ m0=>cases hr
  | zero=>
  refine S.lstP ea hg λits m e2 rv=>?_
  have hx:its.toArray[k]? = none:=by
   have:xs.length<=k:=qu (hn.trans z);rw[p0,List.getElem?_eq_none (by rw[<-All2.length rv];exact this)]
  exact wpAny_pyNext_enum_end hh r q ⟨_,e2,rfl,_,rfl⟩ hx λh' k=>fin (.tail _ (.head _)) k
 | @rev it its k b t q z1 z2=>
  induction k with
  | succ k=>
   exfalso;have:=congrArg List.length hr;simp only[List.length_nil,qg,List.length_reverse,List.length_take] at this
   lia
  | zero=>exact z3k hh q λh' k=>fin (.head _) k
 | @key it d kvs ep its k q z=>
  refine wpAny_pyNext_dict_end hh q (z.keep S.base) ?_ λh' k=>fin (.head _) k
  rw[<-List.head?_drop,List.map_eq_nil_iff.mp hr.symm];rfl
end
end
section
theorem Evo.wider {fs:List Env}{X Y9 U U':List Addr}{h h':Heap}(E:Evo fs X U h U' h')(k:∀ x∈X,x∈Y9):Evo fs Y9 U h U' h':=
 ⟨E.pre,E.fresh,E.dom,λb o e n1 n2 n3=>E.keep b o e n1 (λm=>n2 (k b m)) n3,λb o e n1 n2=>E.slot b o e n1 λm=>n2 (k b m),E.frz⟩
theorem Fly.wider {c:Cfg}{fs:List Env}{X Y9 U U':List Addr}{h h':Heap}{j:Nat}{J':MH}{e:Value}(F:Fly c fs X U h j J' U' e h')(k:∀ x∈X,x∈Y9):Fly c fs Y9 U h j J' U' e h':=by
 refine aw λ_ Z9=>?_
 obtain⟨a,B,a0,e1,e2,F⟩:=F;refine Z9 ?_;exact⟨a,B,a0,e1,e2,F.stays,F.eB,F.frames,F.st,F.nfr,F.pre,F.fresh,λb o e n1 n2 n3=>F.keep b o e n1 (λm=>n2 (k b m)) n3,λb o e n1 n2=>F.slot b o e n1 λm=>n2 (k b m),F.domB,F.frz⟩
section
variable {Y β:Type}{c:Cfg}{A:qZ}{fs:List Env}{X Y9 U:List Addr}{J:MH}{s:Shared}{rel:List Addr->Heap->Y->β->Prop}
theorem Sat.wider {r:R Y}{t:Sem β}(h:Sat c A fs X U J s r rel t)(k:∀ x∈X,x∈Y9):Sat c A fs Y9 U J s r rel t:=
 λQ E S nb ok ex=>h Q E S nb (λa J' U' b s' e S' E' r O=>ok a J' U' b s' e S' (E'.wider k) r O) λj J' U' e s' q F O=>ex j J' U' e s' q (F.wider k) O
theorem Sat.and {r:R Y}{t:Sem β}{P:List Addr->Heap->Prop}(h:Sat c A fs X U J s r rel t)(k:∀ U' h',Evo fs X U s.heap U' h'->P U' h'):Sat c A fs X U J s r (λU h a b=>rel U h a b/\P U h) t:=
 λQ E S nb ok ex=>h Q E S nb (λa J' U' b s' e S' E' r O=>ok a J' U' b s' e S' E' ⟨r,k _ _ E'⟩ O) @ex
end
section
variable {c:Cfg}{n:Nat}{cx:Cx}{sc:Scope}
theorem ar.st {e:E}{pe:Expr}(h:ar c n cx sc e pe){A:qZ}{fs:List Env}(Rm:Room n A fs){env:Env}{X U:List Addr}{J:MH}{l:Loc}{s:Shared}(F:Fst c sc env cx.cl U l s.heap):
  Sat c A fs X U J s (evE cx e l J) (λU h v w=>VR c U h v w/\Fst c sc env cx.cl U l h) (eval pe env):=
 ((h A fs Rm env [] U J l s (by simp) F).and λ_ _ E=>F.evo E (by simp)).wider (by simp)
theorem f6.st {e:E}{pe:Expr}(h:f6 c n cx sc e pe){A:qZ}{fs:List Env}(Rm:Room n A fs){env:Env}{X U:List Addr}{J:MH}{l:Loc}{s:Shared}(F:Fst c sc env cx.cl U l s.heap):
  Sat c A fs X U J s ((evE cx e l >>= aQ) J) (λU h a b=>a=b/\Fst c sc env cx.cl U l h) (isTrue pe env (eval pe env)):=
 ((h A fs Rm env [] U J l s (by simp) F).and λ_ _ E=>F.evo E (by simp)).wider (by simp)
noncomputable def cj (c:Cfg)(n:Nat)(cx:Cx)(sc:Scope)(t:Tg)(pt:Expr):Prop:=
 ∀ A fs,Room n A fs->∀ env X U J l s v w,env.locals∈X->Fst c sc env cx.cl U l s.heap->VR c U s.heap v w->Sat c A fs X U J s (bindT cx t v l J) (λU h l' _=>Fst c sc env cx.cl U l' h) (assign pt env w)
theorem St.named {fs:List Env}{X U:List Addr}{J:MH}{h h':Heap}{L:Addr}(S:St c fs U J h)(hL:L∉U)(hb:c.base.get? L=re)(hX:L∈X)(hn:∃ o es k,h.get? L=rc o/\o.data = .dict es k)(hn':∃ o es k,h'.get? L=rc o/\o.data = .dict es k)
  (k:∀ b o,b≠L->h.get? b=rc o->h'.get? b=rc o):St c fs U J h'/\Evo fs X U h U h':=by
 refine aw λ_ Z9=>?_
 obtain⟨o₀,es₀,k₀,g₀,d₀⟩:=hn;obtain⟨o₁,es₁,k₁,g₁,d₁⟩:=hn';refine Z9 ?_;have nf:∀ o,h.get? L=rc o->¬ aG o:=λo e=>qb (g₀.symm.trans e)▸cB d₀
 refine⟨S.other (λb o e z=>k b o (λm=>?_) e) ⟨λenv m=>?_⟩,⟨[],by simp⟩,λ_ m=>.inl m,λb o e=>?_,λb o e _ n _=>k b o (λq=>n (q▸hX)) e,λb o e _ n=>⟨o.slots,k b o (λq=>n (q▸hX)) e⟩,λb o e f=>k b o (λq=>nf o (q▸e) f) e⟩
 ·obtain rfl:=m.symm
  rcases z with z | z | z
  ·exact hL z
  ·exact nf o e z
  ·replace z:=hb▸z;cases z
 ·refine aw λ_ Z9=>?_
  obtain⟨a,L',o,es,n,e1,e2,e3,e4,e6⟩:=S.fr.each env m;refine Z9 ?_;by_cases q:L'=L
  ·subst q;exact⟨a,L',o₁,es₁,k₁,e1,e2,e3,g₁,d₁⟩
  ·exact⟨a,L',o,es,n,e1,e2,e3,k _ _ q e4,e6⟩
 ·by_cases q:b=L
  ·obtain rfl:=q.symm;exact⟨_,g₁⟩
  ·exact⟨o,k b o q e⟩
theorem Heap.Ns.dict {h:Heap}{L:Addr}{m:Str->Option Value}(x:h.Ns L m):∃ o es k,h.get? L=rc o/\o.data = .dict es k:=(by obtain⟨o,es,k,e,d,_⟩:=x;exact⟨o,es,k,e,d⟩)
theorem zbv (C:CfgOk c){x:Nat}{nm:Str}{p:Pos}(h:c.nm x=nm)(hl:sc.names.lookup nm=rc .local):cj c n cx sc (.loc x) (.Name nm p):=by
 intro A fs Rm env X U J l s v w hX F r;subst h;refine Sat.any λQ E S _ ok _=>?_
 refine el12 F.ns λm hm hv=>?_
 refine wpAny_assign_Name (pf (F.ok.loc _ hl) hm (λh' hn hs=>?_) (by refine F.ok.kind▸?_;rfl));obtain⟨S',E'⟩:=S.named (X:=X) F.own F.base hX (Heap.Ns.dict hm) (Heap.Ns.dict hn) λb o n e=>hs.extBut b o n e
 refine ok _ _ _ _ _ rfl S' E' ⟨F.ok,⟨_,hn,λy u q=>?_⟩,F.own,F.base,F.cells⟩;show ∃ v',(if c.nm y=c.nm x then rc w else m (c.nm y))=rc v'/\_;rw[Loc.put_eq] at q
 by_cases e:y=x
 ·obtain rfl:=e.symm
  rw[if_pos rfl] at q ⊢
  cases q
  exact bf w rfl (r.evo E')
 ·rw[if_neg e] at q
  rw[if_neg (λz=>e (C.nm _ _ z))];refine el12 (hv y u q) λv' e1 e2=>?_
  exact bf v' e1 (e2.evo E')
theorem OR.cell' {h:Heap}{U:List Addr}{a:Nat}{v:Option V}{ob:Obj}(r:OR c U h a (.cell v) ob):∃ w,ob=kn w:=el12 r.inv λw e _=>⟨w,e⟩
theorem z1Z {env:Env}{name:Str}{a:Addr}{v₀:Option Value}{v:Value}{M:Model}{A:qZ}{s:Shared}{Q:Unit->Shared->Prop}{E:VP}(hk:env.scope.kind = .function)(hl:env.kindOf name=rc .cell∨env.kindOf name=rc .free)
  (hc:env.cells.lookup name=rc a)(hv:s.heap.get? a=rc (kn v₀))(h:Q () { s with heap:=s.heap.update a λo=>{ o with data:=.cell (rc v) } }):wpAny M A (storeName env name v) Q E s:=by
 have fin:wpAny M A (cellOf env name >>= λx=>cellSet x (rc v)) Q E s:=by
  refine qE (wpAny_cellOf hc ?_);exact qE (qG hv (wpAny_update hv h))
 unfold storeName
 rcases hl with hl | hl <;> · rw[hl,hk];exact fin
theorem zbu {x:Nat}{nm:Str}{p:Pos}(h:c.nm x=nm)(hl:sc.names.lookup nm=rc .cell∨sc.names.lookup nm=rc .free):cj c n cx sc (.cel x) (.Name nm p):=by
 intro A fs Rm env X U J l s v w hX F r;subst h;show Sat c A fs X U J s ((bU cx.cl x v >>= λ_=>(pure l:M Loc)) J) _ _;unfold bU;rw[M.assoc];refine Sat.lift λa ea=>?_
 refine el12 (F.cells x a ea hl) λy ey ya=>?_
 rw[M.assoc];refine Sat.read ya λo ob q1 q2 rr nn=>?_
 induction o with
 | cell v₀=>
  refine aw λ_ Z9=>?_
  refine fk rr.cell' λw₀ ez2=>?_;subst ez2
  refine Z9 ?_;refine Sat.any λQ E S _ ok _=>?_
  refine wpAny_assign_Name (z1Z F.ok.kind (F.ok.cel _ hl) ey q2 ?_);have E':Evo fs X U s.heap U (s.heap.update y λo=>{ o with data:=.cell (rc w) }):=.set ya q2 rfl rfl rr.unfrozen;refine ok _ _ _ _ _ rfl (S.set ya q2 rfl rfl (.cell r) (nn rfl) rr.unfrozen) E' ?_;exact F.evo (.set (X:=[]) ya q2 rfl rfl rr.unfrozen:Evo fs [] U s.heap U (s.heap.update y λo=>{ o with data:=.cell (rc w) })) (by simp)
 | _=>exact ap
theorem bt {e:Expr}{r:List Expr}{env:Env}(h:aR e=rg):assignEach (e:: r) env=(rj,assign e env):: assignEach r env:=by
 cases e <;> first | rfl | exact pY h
theorem Sat.makes {Y β γ:Type}{A:qZ}{fs:List Env}{X U:List Addr}{J:MH}{s:Shared}{r:R Y}{t:Sem β}{g:β->Sem γ}{rel:List Addr->Heap->Y->γ->Prop}(P:β->Heap->Prop)
  (h:∀ (Q:β->Shared->Prop)(E:VP),(∀ b h' tk,(∀ b o,s.heap.get? b=rc o->h'.get? b=rc o)->P b h'->Q b { s with heap:=h',toks:=tk })->wpAny (model c.prog c.w) A t Q E s)
  (k:∀ b h' tk,(∀ b o,s.heap.get? b=rc o->h'.get? b=rc o)->P b h'->Sat c A fs X U J { s with heap:=h',toks:=tk } r rel (g b)):Sat c A fs X U J s r rel (t >>= g):=by
 intro Q E S nb ok ex;refine a9 (.of (h _ _ λb h' tk kk z=>?_));exact k b h' tk kk z Q E (S.keeps kk) nb (λa J' U' b s' e S' E' r O=>ok a J' U' b s' e S' ((Evo.keeps kk).trans E') r ⟨O.gens,O.os⟩) λj J' U' e s' q F O=>ex j J' U' e s' q (F.before (Evo.keeps kk)) ⟨O.gens,O.os⟩
theorem Fst.keeps {env:Env}{cl:Nat->Option Nat}{U:List Addr}{l:Loc}{h h':Heap}(F:Fst c sc env cl U l h)(k:∀ b o,h.get? b=rc o->h'.get? b=rc o):Fst c sc env cl U l h':=
 F.evo (Evo.keeps (fs:=[]) (X:=[]) k) (by simp)
theorem z9N {a b:Tg}{pa pb:Expr}{k:_}{pos:Pos}(ha:cj c n cx sc a pa)(hb:cj c n cx sc b pb)(hn:au [pa,pb]=rg):cj c n cx sc (.pair a b) (.Tuple [pa,pb] k pos):=by
 intro A fs Rm env X U J l s v w hX F r;obtain⟨n1,n2⟩:=Bool.and_eq_true_iff.mp (hn:(aR pa&&au [pb])=rg);refine bX (Bool.and_eq_true_iff.mp (show(aR pb&&au [])=rg from n2)) λn2 _=>?_
 induction r with
 | @t2 x va vb wa wb hx ra rb=>
  simp only[arm_assign_Tuple,bt n1,bt n2];refine Sat.standAt ?_;show Sat c A fs X U J s ((bindT cx a va l >>= λl=>bindT cx b vb l) J) _ (holding [.ref x] (unpackItems (.ref x) 2 re) >>= λxs=>assignInOrder [assign pa env,assign pb env] xs);refine Sat.makes (λb _=>b=[wa,wb]) (λQ E q=>qm (wpAny_unpackItems_tuple (items:=#[wa,wb]) Rm.handled ⟨_,hx,rfl,_,rfl⟩ λh' kk=>q _ h' s.toks (λb o e=>kk b o (qq (qp e)) e) rfl)) λxs h' tk kk e=>?_
  subst e;refine Sat.unhold (Sat.bind (ha A fs Rm env X U J l _ va wa hX (F.keeps kk) (ra.keeps kk)) λl' J' U' _ s' e S' E' F'=>?_);refine Sat.unhold ?_;refine(show(bindT cx b vb l' J')=(bindT cx b vb l' >>= λl=>(pure l:M Loc)) J' from by show _=M.bind _ _ J';unfold M.bind;cases bindT cx b vb l' J' <;> rfl)▸?_;exact Sat.bind (hb A fs Rm env X U' J' l' s' vb wb hX F' ((rb.keeps kk).evo E')) λl2 J2 U2 _ s2 e S2 E2 F2=>Sat.pure F2
 | _=>exact ap
end
end
section
section
variable {c:Cfg}{n:Nat}{cx:Cx}{sc:Scope}
theorem Sat.st {Y β:Type}{A:qZ}{fs:List Env}{X U:List Addr}{J:MH}{s:Shared}{env:Env}{l:Loc}{r:R Y}{t:Sem β}{rel:List Addr->Heap->Y->β->Prop}(h:Sat c A fs [] U J s r rel t)(F:Fst c sc env cx.cl U l s.heap):
  Sat c A fs X U J s r (λU h a b=>rel U h a b/\Fst c sc env cx.cl U l h) t:=(h.and λ_ _ E=>F.evo E (by simp)).wider (by simp)
theorem zbw (C:CfgOk c){o i:E}{po pi:Expr}{pos:Pos}(ho:ar c n cx sc o po)(hi:ar c n cx sc i pi):cj c n cx sc (.sub o i) (.Subscript po pi pos):=by
 intro A fs Rm env X U J l s v w hX F r;show Sat c A fs X U J s ((evE cx o l >>= λx=>evE cx i l >>= λy=>cG x y v >>= λ_=>(pure l:M Loc)) J) _ _;refine Sat.unhold (Sat.bind2 (ho.st Rm F) λx J1 U1 ov s1 e1 S1 E1 rx F1=>?_);refine Sat.unhold (Sat.bind2 (hi.st Rm F1) λy J2 U2 iv s2 e2 S2 E2 ry F2=>?_);refine Sat.standAt (Sat.unhold (Sat.bind2 (Sat.st (z2i C (rx.evo E2) ry ((r.evo E1).evo E2)) F2) λu J3 U3 _ s3 e3 S3 E3 _ F3=>?_));refine Sat.any λQ E S _ ok _=>?_
 exact wpAny_release (ok _ _ _ _ _ rfl S .refl F3)
inductive FlR (c:Cfg)(U:List Addr)(h:Heap):Fl->Flow->Prop
 | next:FlR c U h .next .next
 | ret {v:V}{w:Value}:VR c U h v w->FlR c U h (.ret v) (.ret w)
noncomputable abbrev oj (c:Cfg)(cx:Cx)(sc:Scope)(env:Env):List Addr->Heap->Fl×Loc->Flow->Prop:=λU h r f=>FlR c U h r.1 f/\Fst c sc env cx.cl U r.2 h
structure Act (fs:List Env)(env:Env):Prop where
 intr:interactive env=rj
 own:env.frame=rc env.locals
 top:∃ outer,fs=env:: outer
noncomputable def aK (c:Cfg)(n:Nat)(cx:Cx)(sc:Scope)(t:S)(pt:Stmt):Prop:=
 ∀ A fs,Room n A fs->∀ env X U J l s,Act fs env->env.locals∈X->Fst c sc env cx.cl U l s.heap->Sat c A fs X U J s (exS cx t l J) (oj c cx sc env) (exec pt env)
noncomputable def iw (c:Cfg)(n:Nat)(cx:Cx)(sc:Scope)(t:Ss)(pt:List Stmt):Prop:=
 ∀ A fs,Room n A fs->∀ env X U J l s,Act fs env->env.locals∈X->Fst c sc env cx.cl U l s.heap->Sat c A fs X U J s (exSs cx t l J) (oj c cx sc env) (execs pt env)
theorem cJ {pe:Expr}(h:c8 pe=rg){t:Option Expr}{k:Nat}{env:Env}:swapsWith pe t k env=pure false:=by
 cases pe <;> first | rfl | exact pY h
theorem bY {pe:Expr}(h:c8 pe=rg){t:Expr}{k:Nat}{env:Env}:swapsWithSole [t] pe k env=pure false:=cJ h
theorem z3o {pt pe:Expr}(h:jJ pt pe=rg){k:Nat}{env:Env}:swapsWithSole [pt] pe k env=pure false:=by
 unfold jJ at h
 cases hc:c8 pe with
 | true=>exact cJ hc
 | false=>
  replace h:=hc▸h;cases pt with
  | Subscript a b p=>cases pe <;> rfl
  | _=>exact pY h
theorem av {e:E}{pe:Expr}{pos:Pos}(h:ar c n cx sc e pe)(hc:c8 pe=rg):aK c n cx sc (.expr e) (.Expr pe pos):=by
 intro A fs Rm env X U J l s hA hX F;rw[exec_Expr env pe pos hA.intr (cJ hc)];show Sat c A fs X U J s ((evE cx e l >>= λ_=>(pure (.next,l):M (Fl×Loc))) J) _ _;refine Sat.standAt (Sat.bind2 (h.st Rm F) λx J1 U1 ov s1 e1 S1 E1 rx F1=>?_);exact Sat.any λQ E S _ ok _=>wpAny_dropValue (ok _ _ _ _ _ rfl S .refl ⟨.next,F1⟩)
theorem zbo {ps:Stmt}:aK c n cx sc .stop ps:=λA fs Rm env X U J l s hA hX F=>ap
theorem aX {e:E}{pe:Expr}{pos:Pos}(h:ar c n cx sc e pe):aK c n cx sc (.ret e) (.Return (rc pe) pos):=by
 intro A fs Rm env X U J l s hA hX F;rw[arm_exec_Return];show Sat c A fs X U J s ((evE cx e l >>= λv=>(pure (.ret v,l):M (Fl×Loc))) J) _ (standAt pos >>= λ_=>(eval pe env >>= λv=>pure (Flow.ret v)));exact Sat.standAt (Sat.bind2 (h.st Rm F) λx J1 U1 ov s1 e1 S1 E1 rx F1=>Sat.pure ⟨.ret rx,F1⟩)
theorem jU {pos:Pos}:aK c n cx sc .ret0 (.Return re pos):=by
 intro A fs Rm env X U J l s hA hX F;rw[arm_exec_Return];exact Sat.standAt (Sat.pure (a:=(Fl.ret .none,l)) ⟨.ret .none,F⟩)
theorem s_if {t:E}{a b:Ss}{pt:Expr}{pa pb:List Stmt}{pos:Pos}(h:f6 c n cx sc t pt)(ha:iw c n cx sc a pa)(hb:iw c n cx sc b pb):aK c n cx sc (.cond t a b) (.If pt pa pb pos):=by
 intro A fs Rm env X U J l s hA hX F;rw[arm_exec_If];show Sat c A fs X U J s ((evE cx t l >>= λv=>aQ v >>= λq=>(if q then exSs cx a l else exSs cx b l)) J) _ _;rw[<-M.assoc];refine Sat.standAt (Sat.bind2 (h.st Rm F) λx J1 U1 ov s1 e1 S1 E1 rx F1=>?_);subst rx;cases x
 ·exact hb A fs Rm env X U1 J1 l s1 hA hX F1
 ·exact ha A fs Rm env X U1 J1 l s1 hA hX F1
theorem dC (C:CfgOk c)(Wk:WOk c)(hP:cx.P=c.P){o:E}{f:Nat}{nm:Str}{e:E}{po pe:Expr}{pos p2:Pos}(hn:c.nm f=nm)(ho:ar c n cx sc o po)(h:ar c n cx sc e pe)(hc:c8 pe=rg):aK c n cx sc (.attr o f e) (.Assign [.Attribute po nm p2] pe pos):=by
 intro A fs Rm env X U J l s hA hX F;subst hn;refine Sat.standAt ?_;rw[bY hc];show Sat c A fs X U J s _ _ (eval pe env >>= λv=>swappedStores [.Attribute po (c.nm f) p2] pe env >>= λsw=>assignStores env v sw ((assignEach [.Attribute po (c.nm f) p2] env).map (·.2)));refine Sat.bind2 (h.st Rm F) λv J1 U1 w s1 e1 S1 E1 rv F1=>?_
 show Sat c A fs X U1 J1 s1 _ _ (assign (.Attribute po (c.nm f) p2) env w >>= λ_=>pure Flow.next);simp only[arm_assign_Attribute];simp only[qJ];refine Sat.unhold (Sat.bind2 (ho.st Rm F1) λx J2 U2 ov s2 e2 S2 E2 ro F2=>?_);refine hP▸?_;refine Sat.standAt (Sat.unhold (Sat.bind2 (Sat.st (z1m C Wk ro (rv.evo E2)) F2) λu J3 U3 _ s3 e3 S3 E3 _ F3=>?_));exact Sat.any λQ E S _ ok _=>qE (wpAny_release (qF (ok _ _ _ _ _ rfl S .refl ⟨.next,F3⟩)))
theorem z1n {pt pe:Expr}{env:Env}(h:gM pe=rg):swappedStores [pt] pe env=pure none:=by
 cases pt with
 | Tuple ts k p=>cases pe <;> first | rfl | exact pY h
 | List ts p=>cases pe <;> first | rfl | exact pY h
 | _=>rfl
theorem aq {t:Tg}{e:E}{pt pe:Expr}{pos:Pos}(ht:cj c n cx sc t pt)(hp:aR pt=rg)(h:ar c n cx sc e pe)(hc:jJ pt pe=rg)(hs:gM pe=rg):aK c n cx sc (.assign t e) (.Assign [pt] pe pos):=by
 intro A fs Rm env X U J l s hA hX F;rw[arm_exec_Assign];show Sat c A fs X U J s ((evE cx e l >>= λv=>bindT cx t v l >>= λl=>(pure (.next,l):M (Fl×Loc))) J) _ _;refine Sat.standAt ?_;rw[z3o hc,z1n hs,bt hp];show Sat c A fs X U J s _ _ (eval pe env >>= λv=>assign pt env v >>= λ_=>pure Flow.next);refine Sat.bind2 (h.st Rm F) λv J1 U1 w s1 e1 S1 E1 rv F1=>?_
 exact Sat.bind (ht A fs Rm env X U1 J1 l s1 v w hX F1 rv) λl' J2 U2 _ s2 e2 S2 E2 F2=>Sat.pure ⟨.next,F2⟩
theorem zbs:iw c n cx sc .nil []:=λA fs Rm env X U J l s hA hX F=>Sat.pure (a:=(Fl.next,l)) ⟨.next,F⟩
theorem z9K {t:S}{ts:Ss}{pt:Stmt}{pts:List Stmt}(h:aK c n cx sc t pt)(hr:iw c n cx sc ts pts):iw c n cx sc (.cons t ts) (pt:: pts):=by
 intro A fs Rm env X U J l s hA hX F;refine Sat.bind (h A fs Rm env X U J l s hA hX F) λr J1 U1 f s1 e1 S1 E1 rr=>?_
 have rf:=rr.1;have F1:=rr.2;obtain⟨fl,l1⟩:=r;cases rf with
 | next=>exact hr A fs Rm env X U1 J1 l1 s1 hA hX F1
 | ret rv=>exact Sat.pure ⟨.ret rv,F1⟩
end
end
section
section
variable {c:Cfg}{n:Nat}{cx:Cx}{sc:Scope}
theorem z4i {A:qZ}{fs:List Env}{X U:List Addr}{J:MH}{s:Shared}{op:BOp}{x y:V}{v u:Value}(rx:VR c U s.heap x v)(ry:VR c U s.heap y u):Sat c A fs X U J s (kB op x y J) (VR c) (inplaceOp (bop op) v u):=by
 induction op with
 | add=>
  induction x with
  | int i=>exact z1l (.inl rfl) rx ry ⟨i,rfl⟩
  | _=>exact ap
 | sub=>
  induction x with
  | int i=>exact z1l (.inr rfl) rx ry ⟨i,rfl⟩
  | _=>exact ap
 | _=>exact ap
theorem z6r (C:CfgOk c)(Wk:WOk c)(hP:cx.P=c.P){o:E}{f:Nat}{nm:Str}{op:BOp}{e:E}{po pe:Expr}{pos p2:Pos}(hn:c.nm f=nm)(ho:ar c n cx sc o po)(h:ar c n cx sc e pe):
  aK c n cx sc (.augAttr o f op e) (.AugAssign (.Attribute po nm p2) (bop op) pe pos):=by
 intro A fs Rm env X U J l s hA hX F;subst hn;rw[arm_exec_AugAssign_2];show Sat c A fs X U J s ((evE cx o l >>= λx=>getAttr cx.P.fld x f >>= λold=>evE cx e l >>= λv=>kB op old v >>= λnew=>setAttr cx.P.fld x f new >>= λ_=>(pure (.next,l):M (Fl×Loc))) J) _ _;rw[hP];refine Sat.standAt (Sat.bind2 (ho.st Rm F) λx J1 U1 ov s1 e1 S1 E1 ro F1=>?_);refine Sat.unhold ?_;simp only[qJ];refine Sat.standAt (Sat.bind2 (Sat.st (z1k Wk ro) F1) λold J2 U2 oldv s2 e2 S2 E2 rold F2=>?_);refine Sat.unhold (Sat.bind2 (h.st Rm F2) λv J3 U3 w s3 e3 S3 E3 rv F3=>?_);refine Sat.standAt (Sat.bind2 (Sat.st (Sat.operate (z4i (rold.evo E3) rv)) F3) λnew J4 U4 nw s4 e4 S4 E4 rn F4=>?_);refine Sat.standAt (Sat.unhold (Sat.bind2 (Sat.st (z1m C Wk (((ro.evo E2).evo E3).evo E4) rn) F4) λu J5 U5 _ s5 e5 S5 E5 _ F5=>?_));exact Sat.any λQ E S _ ok _=>qE (wpAny_release (qF (ok _ _ _ _ _ rfl S .refl ⟨.next,F5⟩)))
theorem z8g (C:CfgOk c){o i:E}{op:BOp}{e:E}{po pi pe:Expr}{pos p2:Pos}(hs:fw pi=rg)(ho:ar c n cx sc o po)(hi:ar c n cx sc i pi)(h:ar c n cx sc e pe):
  aK c n cx sc (.augIdx o i op e) (.AugAssign (.Subscript po pi p2) (bop op) pe pos):=by
 intro A fs Rm env X U J l s hA hX F;show Sat c A fs X U J s ((evE cx o l >>= λx=>evE cx i l >>= λy=>cg x y >>= λold=>evE cx e l >>= λv=>kB op old v >>= λnew=>cG x y new >>= λ_=>(pure (.next,l):M (Fl×Loc))) J) _ _;refine Sat.standAt (Sat.bind2 (ho.st Rm F) λx J1 U1 ov s1 e1 S1 E1 ro F1=>?_);refine Sat.unhold (Sat.bind2 (hi.st Rm F1) λy J2 U2 iv s2 e2 S2 E2 ri F2=>?_);refine Sat.unhold ?_;simp only[qJ];refine Sat.standAt (Sat.bind2 (Sat.st (z2h C (ro.evo E2) ri) F2) λold J3 U3 oldv s3 e3 S3 E3 rold F3=>?_);refine Sat.unhold (Sat.bind2 (h.st Rm F3) λv J4 U4 w s4 e4 S4 E4 rv F4=>?_);refine Sat.standAt (Sat.bind2 (Sat.st (Sat.operate (z4i (rold.evo E4) rv)) F4) λnew J5 U5 nw s5 e5 S5 E5 rn F5=>?_);refine Sat.standAt ?_;have e:∀ ov iv nw:Value,augStore pi ov iv nw=(holding [nw,ov,iv] (setItem ov iv nw) >>= λ_=>release [nw,ov,iv] [] >>= λ_=>pure Flow.next):=λov iv nw=>by
  cases pi <;> first | rfl | exact pY hs
 simp only[e];refine Sat.unhold (Sat.bind2 (Sat.st (z2i C ((((ro.evo E2).evo E3).evo E4).evo E5) (((ri.evo E3).evo E4).evo E5) rn) F5) λu J6 U6 _ s6 e6 S6 E6 _ F6=>?_);exact Sat.any λQ E S _ ok _=>qE (wpAny_release (qF (ok _ _ _ _ _ rfl S .refl ⟨.next,F6⟩)))
theorem lM {o i:E}{po pi:Expr}{pos p2:Pos}(ho:ar c n cx sc o po)(hi:ar c n cx sc i pi):aK c n cx sc (.del o i) (.Delete [.Subscript po pi p2] pos):=by
 intro A fs Rm env X U J l s hA hX F;simp only[arm_exec_Delete,arm_deleteEach_cons,arm_deleteEach_nil,arm_delete_Subscript];simp only[qJ];refine Sat.standAt (Sat.bind2 (ho.st Rm F) λx J1 U1 ov s1 e1 S1 E1 ro F1=>?_);refine Sat.unhold (Sat.bind2 (hi.st Rm F1) λy J2 U2 iv s2 e2 S2 E2 ri F2=>?_);refine Sat.standAt (Sat.unhold (Sat.bind2 (Sat.st (z50 (ro.evo E2) ri) F2) λu J3 U3 _ s3 e3 S3 E3 _ F3=>?_));exact Sat.any λQ E S _ ok _=>qE (wpAny_release (qE (qF (qF (ok _ _ _ _ _ rfl S .refl ⟨.next,F3⟩)))))
end
end
section
section
variable {prog:qW}{w:World}{A:qZ}{E:VP}{s:Shared}{R:r6->Shared->Prop}
theorem z1y {elt target iter:Expr} {ifs rest scope pos it acc env}
  (h0:bo (model prog w) A (.compLoop (.ListComp elt (⟨target,iter,ifs,0⟩:: rest) scope pos) 0 it acc env) R s)
  (h:∀ E,wpAny (model prog w) A (pyIter it) (λit' s'=>bo (model prog w) A (.compLoop (.ListComp elt (⟨target,iter,ifs,0⟩:: rest) scope pos) 0 it' acc env) R s') E s):
  bo (model prog w) A (.compStart (.ListComp elt (⟨target,iter,ifs,0⟩:: rest) scope pos) 0 it acc env) R s:=by
 refine aT ?_;refine cr ?_;refine bH (λh=>.of (wpAny_askSetting h)) ?_;refine z9S ?_
 split
 ·first
   | exact a9 (ac (ac ⟨rfl,rfl,h0⟩))
   | exact ac ⟨rfl,rfl,h0⟩
 ·refine a9 (eD ?_)
  exact a9 (aF (a9 (ao (.of (h _)) (λit' s' h'=>ac ⟨rfl,rfl,h'⟩) λ_ _ x=>x)))
theorem z1w {elt target iter:Expr}{scope:Scope}{pos:Pos}{it acc:Value}{env:Env}(I:Nat->Shared->Prop)
  (turn:∀ n s,I n s->wpF (model prog w) A (pyNext it) (λr s₁=>match r with
   | none=>R (.ok .next) s₁
   | some v=>wpF (model prog w) A (qf target it v) (λ_ s₁'=>wpF (model prog w) A (assign target env v) (λ_ s₂=>wpF (model prog w) A (eval elt env) (λx s₃=>
     wpF (model prog w) A (call (.builtin "list.append") [acc,x]) (λ_ s₄=>∃ m,m<n/\I m s₄) (λ_ _=>False) s₃) (λ_ _=>False) s₂) (λ_ _=>False) s₁') (λ_ _=>False) s₁) (λ_ _=>False) s)
  (n:Nat)(h:I n s):bo (model prog w) A (.compLoop (.ListComp elt [⟨target,iter,[],0⟩] scope pos) 0 it acc env) R s:=by
 refine gD rfl rfl I (λn s hI=>?_) n h;show wpF _ A ((compTurn (.ListComp elt [⟨target,iter,[],0⟩] scope pos) 0 it acc env).onRaise (λx=>do noteFrame x env;theTreesLotGoes x)) _ _ s;refine cr (ao (Q:=_) (E:=λ_ _=>False) ?_ (λ_ _ x=>x) λ_ _ x=>x.elim);simp only[compTurn_list1];refine bH (λhh=>aF hh) (a9 (ao (turn n s hI) (λr s₁ h₁=>?_) λ_ _ h'=>h'))
 induction r with
 | none=>exact ac h₁
 | some v=>
  refine a9 (ao h₁ (λ_ s₁' h₁'=>?_) λ_ _ h'=>h');exact a9 (ao h₁' (λ_ s₂ h₂=>a9 (a9 (ao h₂ (λx s₃ h₃=>a9 (ao h₃
   (λ_ s₄ h₄=>ac (ac (.inl ⟨rfl,h₄⟩))) λ_ _ h'=>h')) λ_ _ h'=>h'))) λ_ _ h'=>h')
end
end
section
section
variable {prog:qW}{w:World}{A:qZ}{E:VP}{s:Shared}{R:r6->Shared->Prop}
noncomputable def gN (M:Model)(A:qZ)(env:Env)(E:VP):VP:=λx s'=>wpF M A (noteFrame x env) (λ_ s''=>E x s'') E s'
theorem z6J {Y:Type}{M:Model}{env:Env}{m:Sem Y}{Q:Y->Shared->Prop}(h:wpF M A m Q (gN M A env E) s):wpF M A (m.onRaise λx=>do noteFrame x env;theTreesLotGoes x) Q E s:=
 cr (ao h (λ_ _ q=>q) λ_ _ hx=>a9 (ao hx (λ_ _ e=>.of (wpAny_theTreesLotGoes e)) λ_ _ e=>e))
theorem z2B {target it body env}(I:Nat->Shared->Prop)
  (turn:∀ n s,I n s->wpF (model prog w) A (pyNext it) (λr s₁=>match r with
   | none=>R (.ok .next) s₁
   | some v=>wpF (model prog w) A (qf target it v) (λ_ s₁'=>wpF (model prog w) A (assign target env v) (λ_ s₂=>wpF (model prog w) A (execs body env) (λf s₃=>match f with
      | .next | .cont=>∃ m,m<n/\I m s₃
      | .brk=>R (.ok .next) s₃
      | .ret v=>R (.ok (.ret v)) s₃) (gN (model prog w) A env λe s'=>R (.error e) s') s₂) (gN (model prog w) A env λe s'=>R (.error e) s') s₁') (gN (model prog w) A env λe s'=>R (.error e) s') s₁) (gN (model prog w) A env λe s'=>R (.error e) s') s)
  (n:Nat)(h:I n s):bo (model prog w) A (.forLoop target it body [] env) R s:=by
 refine gD rfl rfl I (λn s hI=>?_) n h;show wpF _ A ((forTurn target it body [] env).onRaise (λx=>do noteFrame x env;theTreesLotGoes x)) _ _ s;refine z6J ?_;refine bH (λhh=>aF hh) (a9 (cr (ao (turn n s hI) (λr s₁ h₁=>?_) λ_ _ h'=>aF h')))
 induction r with
 | none=>
  exact ac (.inr ⟨rfl,rfl,.of (codeAny_block (qF h₁))⟩)
 | some v=>
  refine a9 (ao h₁ (λ_ s₁' h₁'=>?_) λ_ _ h'=>h');refine a9 (ao h₁' (λ_ s₂ h₂=>a9 (ao h₂ (λf s₃ h₃=>?_) λ_ _ h'=>h')) λ_ _ h'=>h')
  induction f with
  | next=>exact ac (.inl ⟨rfl,h₃⟩)
  | cont=>exact ac (.inl ⟨rfl,h₃⟩)
  | brk=>exact ac h₃
  | ret v=>exact ac h₃
noncomputable def mJ (M:Model)(A:qZ)(env:Env)(E:VP):VP:=λx s'=>wpF M A (do
  if(<-field x 1)==.none then unsupported "frame.own-activation:exception-without-traceback"
  setFlight x env.frame) (λ_ s''=>E x s'') E s'
theorem z53 {M:Model}{env:Env}{c:Code}{Q:Flow->Shared->Prop}(ho:cb c=rg)
  (hc:bo M (A.mark re) c (λr s'=>match r with | .ok f=>Q f s' | .error e=>mJ M A env E e s') s):wpF M A (runOwn c env re) Q E s:=by
 unfold runOwn;exact cr (z5C hc ho)
theorem z1x {elt target iter t:Expr}{scope:Scope}{pos:Pos}{it acc:Value}{env:Env}(I:Nat->Shared->Prop)
  (turn:∀ n s,I n s->wpF (model prog w) A (pyNext it) (λr s₁=>match r with
   | none=>R (.ok .next) s₁
   | some v=>wpF (model prog w) A (qf target it v) (λ_ s₁'=>wpF (model prog w) A (assign target env v) (λ_ s₂=>wpF (model prog w) A (isTrue t env (eval t env)) (λok s₂'=>
     if ok=rg then wpF (model prog w) A (eval elt env) (λx s₃=>wpF (model prog w) A (call (.builtin "list.append") [acc,x]) (λ_ s₄=>∃ m,m<n/\I m s₄) (λ_ _=>False) s₃) (λ_ _=>False) s₂'
     else ∃ m,m<n/\I m s₂') (λ_ _=>False) s₂) (λ_ _=>False) s₁') (λ_ _=>False) s₁) (λ_ _=>False) s)
  (n:Nat)(h:I n s):bo (model prog w) A (.compLoop (.ListComp elt [⟨target,iter,[t],0⟩] scope pos) 0 it acc env) R s:=by
 refine gD rfl rfl I (λn s hI=>?_) n h;show wpF _ A ((compTurn (.ListComp elt [⟨target,iter,[t],0⟩] scope pos) 0 it acc env).onRaise (λx=>do noteFrame x env;theTreesLotGoes x)) _ _ s;refine cr (ao (Q:=_) (E:=λ_ _=>False) ?_ (λ_ _ x=>x) λ_ _ x=>x.elim);rw[compTurn_list];refine bH (λhh=>aF hh) (a9 (ao (turn n s hI) (λr s₁ h₁=>?_) λ_ _ h'=>h'))
 induction r with
 | none=>exact ac h₁
 | some v=>
  refine a9 (ao h₁ (λ_ s₁' h₁'=>?_) λ_ _ h'=>h');refine a9 (ao h₁' (λ_ s₂ h₂=>?_) λ_ _ h'=>h');simp only[List.forIn_cons,List.forIn_nil,if_true,qJ,qO];refine a9 (ao h₂ (λok s₂' h₃=>?_) λ_ _ h'=>h')
  induction ok with
  | false=>exact ac (.inl ⟨rfl,h₃⟩)
  | true=>
   exact a9 (ao h₃ (λx s₃ h₄=>a9 (ao h₄ (λ_ s₄ h₅=>ac (.inl ⟨rfl,h₅⟩)) λ_ _ h'=>h')) λ_ _ h'=>h')
theorem z9R {M:Model}{target iter:Expr}{body:List Stmt}{pos:Pos}{env:Env}{Q:Flow->Shared->Prop}
  (h:wpF M A (eval iter env) (λx s₁=>wpF M A (pyIter x) (λit s₂=>bo M (A.mark re) (.forLoop target it body [] env) (λr s'=>match r with | .ok f=>Q f s' | .error e=>mJ M A env E e s') s₂) E s₁) E s)
  (hs:∀ x,pO iter env x=pure x):wpF M A (exec (.For target iter body [] pos) env) Q E s:=by
 rw[exec_For];refine a9 (aF (a9 (ao h (λx s₁ h₁=>?_) λ_ _ h'=>h')));rw[hs];exact a9 (ac (a9 (aF (a9 (ay (ao h₁ (λit s₂ h₂=>z53 rfl h₂) λ_ _ h'=>h'))))))
end
end
section
section
variable {c:Cfg}{A:qZ}{fs:List Env}{X U U':List Addr}{J:MH}{s:Shared}{h h':Heap}
theorem i9 {tup:Bool}{own:List Addr}{i:It}{rest:List V}{it:Value}{Q:VP}{E:VP}(I:ItAt c U s.heap tup own i rest it)(hq:Q it s):wpAny (model c.prog c.w) A (pyIter it) Q E s:=by
 obtain⟨_,k⟩:=I
 induction k with
 | lst e q _=>exact wpAny_pyIter_listiter q hq
 | rng q=>exact wpAny_pyIter_rangeiter q hq
 | enm e q r n _=>exact wpAny_pyIter_enum r hq
 | rev q z1 z2=>exact z7L q hq
 | key q _=>exact wpAny_pyIter_keyiter q hq
theorem z64 {a:Nat}{xs:List V}{val:Value}{Q:VP}{E:VP}(rx:VR c U s.heap (.ref a) val)(S:St c fs U J s.heap)(hg:J.get a=rc (.lst xs))
  (ok:∀ h' own it,(∀ b o,s.heap.get? b=rc o->h'.get? b=rc o)->ItAt c U h' rj own ⟨dX 0 xs.length,rc (a,xs.length,rj)⟩ (dX 0 xs.length) it->(∀ b∈own,s.heap.get? b=re)->Q it { s with heap:=h' }):wpAny (model c.prog c.w) A (pyIter val) Q E s:=by
 refine VR.refC rx λp hp=>?_
 refine S.lstP hp hg λits m e2 rv=>?_
 refine wpAny_pyIter_list ⟨_,e2,rfl,_,rfl⟩ (ok _ [s.heap.objs.size] _ (λb o e=>oS _ e) ⟨λb m=>?_,?_⟩ λb m=>?_)
 ·simp at m;subst m
  exact⟨⟨_,pA _ rfl,cU rfl rfl (by decide)⟩,S.no_size.1,S.no_size.2.1⟩
 ·exact .lst (k:=0) hp ⟨_,pA _ rfl,rfl,rfl⟩ (qr _).symm
 ·simp at m;subst m;exact aZ _
theorem z7N {h:Heap}{es:List (Int×V)}{kvs:List (Int×Value)}(r:All2 (KV c U h (id:Int->Int)) es kvs):(es.map λe=>V.int e.1)=(kvs.drop 0).map λp=>V.int p.1:=by
 induction r with
 | nil=>rfl
 | cons x _ ih=>exact congr (congrArg (λa b=>V.int a:: b) x.1) ih
theorem z62 {a:Nat}{es:List (Int×V)}{val:Value}{Q:VP}{E:VP}(rx:VR c U s.heap (.ref a) val)(S:St c fs U J s.heap)(hg:J.get a=rc (.cdct es))
  (ok:∀ h' own it,(∀ b o,s.heap.get? b=rc o->h'.get? b=rc o)->ItAt c U h' rj own ⟨es.map λe=>V.int e.1,re⟩ (es.map λe=>V.int e.1) it->(∀ b∈own,s.heap.get? b=re)->Q it { s with heap:=h' }):wpAny (model c.prog c.w) A (pyIter val) Q E s:=by
 refine VR.refC rx λp hp=>?_
 refine S.objP hp hg λob e2 r _=>?_
 refine zc8 r.cdct' λx kvs hx hb hm d k=>?_
 obtain rfl:=qb (hp.symm.trans hx);obtain⟨ep,z⟩:=(d.at hb).dictAt;refine wpAny_pyIter_dict hm (z.keep S.base) (ok _ [s.heap.objs.size] _ (λb o e=>oS _ e) ⟨λb m=>?_,?_⟩ λb m=>?_)
 ·obtain rfl:=List.mem_singleton.mp m
  exact⟨⟨_,pA _ rfl,cU rfl rfl (by decide)⟩,S.no_size.1,S.no_size.2.1⟩
 ·rw[z7N k]
  exact .key (k:=0) ⟨_,pA _ rfl,rfl,rfl⟩ z
 ·obtain rfl:=List.mem_singleton.mp m;exact aZ _
theorem z63 {a:Nat}{xs:List V}{val:Value}{Q:VP}{E:VP}(rx:VR c U s.heap (.ref a) val)(S:St c fs U J s.heap)(hg:J.get a=rc (.lst xs))
  (ok:∀ h' own it,(∀ b o,s.heap.get? b=rc o->h'.get? b=rc o)->ItAt c U h' rg own ⟨dX 0 xs.length,rc (a,xs.length,rg)⟩ (dX 0 xs.length) it->(∀ b∈own,s.heap.get? b=re)->Q it { s with heap:=h' }):wpAny (model c.prog c.w) A (call (.type "enumerate") [val]) Q E s:=by
 refine VR.refC rx λp hp=>?_
 refine S.lstP hp hg λits m e2 rv=>?_
 refine call_enumerate_1 (items:=its.toArray) (n:=m) e2 λh' he hi _ kk=>?_
 refine el13 (id hi) λoi hoi hci hdi=>?_
 have fr:∀ b,s.heap.objs.size<=b->s.heap.get? b=none:=λb l=>by
  cases q:s.heap.get? b with
  | none=>rfl
  | some o=>exact absurd (qp q) (Nat.not_lt.mpr l)
 have nr:∀ b,s.heap.objs.size<=b->b∉U/\c.base.get? b=none:=λb l=>by
  refine⟨λm=>?_,?_⟩
  ·refine np (S.mem_lt m) λ_ _ _ _ _ e _=>?_
   replace e:=(fr b l)▸e;cases e
  ·cases q:c.base.get? b with
   | none=>rfl
   | some o=>have:=S.base _ _ q;replace this:=(fr b l)▸this;cases this
 refine ok h' [s.heap.objs.size+1,s.heap.objs.size] _ kk ⟨λb m=>?_,?_⟩ λb m=>?_
 ·simp only[List.mem_cons,pZ,or_false] at m
  rcases m with rfl | rfl
  ·exact⟨⟨_,he,cU rfl rfl (by decide)⟩,nr _ (Nat.le_succ _)⟩
  ·exact⟨⟨_,hoi,cU hdi hci (by decide)⟩,nr _ (qC _)⟩
 ·exact .enm (k:=0) hp hi he (Nat.succ_ne_self _) (qr _).symm
 ·simp only[List.mem_cons,pZ,or_false] at m
  rcases m with rfl | rfl
  ·exact fr _ (Nat.le_succ _)
  ·exact fr _ (qC _)
end
end
end Mine.Internal
end
namespace Mine.Internal
theorem z4e (k:Int):∀ (n:Nat)(a:Int),(List.range n).map (λ(j:Nat)=>V.int (a+k*(j:Int)))=n7 a k n
 | 0=>λa=>rfl
 | n+1=>by
  intro a;simp only[List.range_succ_eq_map,ql,List.map_map];show V.int (a+k*((0:Nat):Int)):: _=V.int a:: n7 (a+k) k n;simp only[<-z4e k n (a+k)]
  congr 1
  ·simp
  ·refine List.map_congr_left λj _=>?_
   show V.int (a+k*((j+1:Nat):Int))=V.int (a+k+k*(j:Int))
   congr 1
   push_cast
   simp only[Int.mul_add,Int.mul_one,Int.add_assoc,Int.add_comm k]
theorem z4d (a b k:Int):ln a b k=n7 a k ((b-a+k-1) / k).toNat:=z4e k _ a
end Mine.Internal
section
open PySem PySem.W PyProof.Rows PySem.Calls
namespace Mine.Internal
section
theorem lq:∀ p∈n8,Builtin.Range.small p.1 p.2.1 p.2.2=rg/\Builtin.Range.rangeSize p.1 p.2.1 p.2.2=qK ((p.2.1-p.1+p.2.2-1) / p.2.2).toNat/\p.2.2≠0/\p.2.2.natAbs<1073741824:=by decide +kernel
noncomputable abbrev mF (c:Cfg)(h0:Heap)(tup:Bool):List Addr->Heap->It->Value->Prop:=λU h i v=>∃ own,ItAt c U h tup own i i.items v/\∀ b∈own,h0.get? b=re
noncomputable def j8 {Y β γ:Type}(c:Cfg)(A:qZ)(fs:List Env)(X U:List Addr)(J:MH)(s:Shared)(r:R Y)(rel:List Addr->Heap->Y->γ->Prop)(t:Sem β)(u:β->Sem γ):Prop:=
 ∀ (Q:γ->Shared->Prop)(E:VP),St c fs U J s.heap->r≠.bad->
  (∀ a J' U' b s',r = .ok a J'->St c fs U' J' s'.heap->Evo fs X U s.heap U' s'.heap->rel U' s'.heap a b->(_:Oth s s':=by exact⟨rfl,rfl⟩)->Q b s')->
  (∀ k J' U' e s',r = .exc k J'->Fly c fs X U s.heap k J' U' e s'.heap->(_:Oth s s':=by exact⟨rfl,rfl⟩)->E e s')->wpF (model c.prog c.w) A t (λb s₁=>wpF (model c.prog c.w) A (u b) Q E s₁) E s
theorem j8.bind {Y β γ δ:Type}{c:Cfg}{A:qZ}{fs:List Env}{X U:List Addr}{J:MH}{s:Shared}{rel:List Addr->Heap->Y->β->Prop}{rel':List Addr->Heap->γ->δ->Prop}{m:M Y}{f:Y->M γ}{t:Sem β}{g:β->Sem δ}(h1:Sat c A fs X U J s (m J) rel t)
  (h2:∀ a J' U' b s',m J = .ok a J'->St c fs U' J' s'.heap->Evo fs X U s.heap U' s'.heap->rel U' s'.heap a b->Sat c A fs X U' J' s' (f a J') rel' (g b)):
  j8 c A fs X U J s ((m >>= f) J) rel' t g:=by
 intro Q E S nb ok ex;have eb:(m >>= f) J=match m J with | .ok a J'=>f a J' | .exc c J'=>.exc c J' | .bad=>.bad:=rfl
 refine(h1 _ _ S (λq=>?_) (λa J' U' b s' e S' E' r O=>?_) (λk J' U' e s' q F O=>?_))
 ·rw[eb,q] at nb;exact nb rfl
 ·replace eb:=e▸eb
  refine h2 a J' U' b s' e S' E' r Q E S' (λq=>nb (eb.trans q)) (λa2 J2 U2 b2 s2 e2 S2 E2 r2 O2=>ok _ _ _ _ _ (eb.trans e2) S2 (E'.trans E2) r2 (O.trans O2))
   (λk J2 U2 e2 s2 q F O2=>ex _ _ _ _ _ (eb.trans q) (F.before E') (O.trans O2))
 ·simp only[q] at eb
  exact ex _ _ _ _ _ eb F O
noncomputable def dH (c:Cfg)(n:Nat)(cx:Cx)(sc:Scope)(it:Ite)(tup:Bool)(pe:Expr):Prop:=
 ∀ A fs,Room n A fs->∀ env X U J l s,env.locals∉X->Fst c sc env cx.cl U l s.heap->j8 c A fs X U J s (evIt cx it l J) (mF c s.heap tup) (eval pe env) pyIter
section
variable {c:Cfg}{n:Nat}{cx:Cx}{sc:Scope}
theorem Evo.before {fs:List Env}{X U U':List Addr}{h h':Heap}(E:Evo fs X U h U' h'){own:List Addr}(k:∀ b∈own,h'.get? b=re):∀ b∈own,h.get? b=none:=λb m=>by
 cases q:h.get? b with
 | none=>rfl
 | some o=>obtain⟨o',e⟩:=E.dom _ _ q;rw[k b m] at e;cases e
theorem cV {e:E}{pe:Expr}(h:ar c n cx sc e pe):dH c n cx sc (.of e) rj pe:=by
 intro A fs Rm env X U J l s hX F;refine j8.bind (h A fs Rm env X U J l s hX F) λv J1 U1 w s1 e1 S1 E1 r1=>?_
 induction v with
 | ref a=>
  refine el12 r1.inv_ref λp ez18=>?_;subst ez18;intro hp
  refine Sat.read hp λo ob q1 q2 rr nn=>?_
  induction o with
  | lst xs=>exact Sat.any λQ E S _ ok _=>z64 r1 S q1 λh' own it kk I fr=>ok _ _ _ _ _ rfl (S.keeps kk) (.keeps kk) ⟨own,I,E1.before fr⟩
  | cdct es=>exact Sat.any λQ E S _ ok _=>z62 r1 S q1 λh' own it kk I fr=>ok _ _ _ _ _ rfl (S.keeps kk) (.keeps kk) ⟨own,I,E1.before fr⟩
  | _=>exact ap
 | _=>exact ap
theorem z96 (Wk:WOk c){a:E}{pa:Expr}{p1 pos:Pos}(ha:ar c n cx sc a pa)(hn:au [pa]=rg)(hl:sc.names.lookup ("enumerate" : Str)=rc .globalImplicit):dH c n cx sc (.by .enum a) rg (.Call (.Name "enumerate" p1) [pa] [] pos):=by
 intro A fs Rm env X U J l s hX F;show j8 c A fs X U J s ((evE cx a l >>= λv=>eX .enum v) J) _ (eval (.Name "enumerate" p1) env >>= λf=>qU pos f [] (r9 pos (qT [pa] env)) []) pyIter;rw[<-mO cx a l (lK (eX .enum)),<-M.id (evEs cx (.cons a .nil) l >>= _)];refine j8.bind (Sat.using λS=>Sat.skip (b:=.type "enumerate") (λQ E h=>cw Wk S F hl (by decide +kernel) (Wk.blt _ _ (pv (i:=10) rfl)) h) (Sat.callW (rel:=mF c s.heap rg) Rm (g:=lK (eX .enum)) (.cons ha .nil) hn hX F λas vs J' U' s' S' E' r=>⟨bl (by simp),?_⟩)) λi J2 U2 w s2 e2 S2 E2 ⟨own,I,fr⟩=>Sat.any λQ E S _ ok _=>i9 I (ok _ _ _ _ _ rfl S .refl ⟨own,I,fr⟩)
 cases r with
 | nil=>exact ap
 | cons ra r=>cases r with
  | cons _ _=>exact ap
  | nil=>
   rename_i x v
   induction x with
   | ref a=>
    refine el12 ra.inv_ref λp ez1=>?_;subst ez1;intro hp
    refine Sat.read hp λo ob q1 q2 rr nn=>?_
    induction o with
    | lst xs=>exact Sat.any λQ E S _ ok _=>z63 ra S q1 λh' own it kk I fr=>ok _ _ _ _ _ rfl (S.keeps kk) (.keeps kk) ⟨own,I,E'.before fr⟩
    | _=>exact ap
   | _=>exact ap
noncomputable def j7 (i:It)(h:Heap)(w:Value):Prop:=∃ r a b k t u v,w = .ref r/\IsRange h r a b k t u v/\(a,b,k)∈n8/\i=⟨ln a b k,re⟩
theorem z3Z {A:qZ}{fs:List Env}{X U:List Addr}{J:MH}{s:Shared}{h0:Heap}{i:It}{w:Value}(R:j7 i s.heap w)(k0:∀ b,s.heap.get? b=re->h0.get? b=re):Sat c A fs X U J s (.ok i J) (mF c h0 rj) (pyIter w):=by
 refine aw λ_ Z9=>?_
 refine el74 R λr a b k t u v ez3 hr hk ez4=>?_;subst ez3;subst ez4
 refine Z9 ?_;refine Sat.any λQ E S _ ok _=>wpAny_pyIter_range hr (lq _ hk).1 ?_
 refine ok _ _ _ _ _ rfl (S.push _) (.push _) ⟨[s.heap.objs.size],⟨λb m=>?_,?_⟩,λb m=>?_⟩
 ·simp at m;subst m
  exact⟨⟨_,pA _ rfl,cU rfl rfl (by decide)⟩,S.no_size.1,S.no_size.2.1⟩
 ·skip
  rw[z4d];refine .rng ?_;refine((show Builtin.Range.rangeSize a b k=_ from(lq _ hk).2.1))▸?_;exact pA _ rfl
 ·simp at m;subst m
  exact k0 _ (aZ _)
theorem z60 (Wk:WOk c){a:E}{pa:Expr}{p1 pos:Pos}(ha:ar c n cx sc a pa)(hn:au [pa]=rg)(hl:sc.names.lookup ("range" : Str)=rc .globalImplicit):dH c n cx sc (.by .range a) rj (.Call (.Name "range" p1) [pa] [] pos):=by
 intro A fs Rm env X U J l s hX F;show j8 c A fs X U J s ((evE cx a l >>= λv=>eX .range v) J) _ (eval (.Name "range" p1) env >>= λf=>qU pos f [] (r9 pos (qT [pa] env)) []) pyIter;rw[<-mO cx a l (lK (eX .range)),<-M.id (evEs cx (.cons a .nil) l >>= _)];refine j8.bind (Sat.using λS=>Sat.skip (b:=.type "range") (λQ E h=>cw Wk S F hl (by decide +kernel) (Wk.blt _ _ (pv (i:=9) rfl)) h) (Sat.callW (rel:=λ_ h i w=>j7 i h w) Rm (g:=lK (eX .range)) (.cons ha .nil) hn hX F λas vs J' U' s' S' E' r=>⟨bl (by simp),?_⟩)) λi J2 U2 w s2 e2 S2 E2 R=>z3Z R λb z=>E2.before (own:=[b]) (by simpa using z) b (by simp)
 cases r with
 | nil=>exact ap
 | cons ra r=>cases r with
  | cons _ _=>exact ap
  | nil=>
   rename_i x v;show Sat c A fs X U' J' s' (eX .range x J') _ (call (.type "range") [v])
   induction x with
   | int k=>
    refine VR.intC ra λt=>?_
    refine Sat.guardD λg=>?_
    exact Sat.any λQ E S _ ok _=>call_range_1 (ok _ _ _ _ _ rfl (S.push _) (.push _) ⟨_,_,_,_,_,_,_,rfl,IsRange.new ..,g,rfl⟩)
   | _=>exact ap
theorem zb8 (Wk:WOk c){a:E}{pa:Expr}{p1 pos:Pos}(ha:ar c n cx sc a pa)(hn:au [pa]=rg)(hl:sc.names.lookup ("reversed" : Str)=rc .globalImplicit):dH c n cx sc (.by .rev a) rj (.Call (.Name "reversed" p1) [pa] [] pos):=by
 intro A fs Rm env X U J l s hX F;show j8 c A fs X U J s ((evE cx a l >>= λv=>eX .rev v) J) _ (eval (.Name "reversed" p1) env >>= λf=>qU pos f [] (r9 pos (qT [pa] env)) []) pyIter;rw[<-mO cx a l (lK (eX .rev)),<-M.id (evEs cx (.cons a .nil) l >>= _)];refine j8.bind (Sat.using λS=>Sat.skip (b:=.type "reversed") (λQ E h=>cw Wk S F hl (by decide +kernel) (Wk.blt _ _ (pv (i:=11) rfl)) h) (Sat.callW (rel:=mF c s.heap rj) Rm (g:=lK (eX .rev)) (.cons ha .nil) hn hX F λas vs J' U' s' S' E' r=>⟨bl (by simp),?_⟩)) λi J2 U2 w s2 e2 S2 E2 ⟨own,I,fr⟩=>Sat.any λQ E S _ ok _=>i9 I (ok _ _ _ _ _ rfl S .refl ⟨own,I,fr⟩)
 cases r with
 | nil=>exact ap
 | cons ra r=>cases r with
  | cons _ _=>exact ap
  | nil=>
   rename_i x v;show Sat c A fs X U' J' s' (eX .rev x J') _ (call (.type "reversed") [v])
   induction x with
   | bytes b=>
    refine VR.bytesC ra λt=>?_
    refine Sat.guardD λg=>?_
    refine Sat.any λQ E S _ ok _=>z7b g λk=>ok _ _ _ _ _ rfl (S.push _) (.push _) ⟨[s'.heap.objs.size],⟨λb m=>?_,?_⟩,λb m=>?_⟩
    ·simp at m;subst m
     exact⟨⟨_,pA _ rfl,cU rfl rfl (by decide)⟩,S.no_size.1,S.no_size.2.1⟩
    ·have:=ItK.rev (c:=c) (U:=U') (its:=b.reverse.map λx=>V.int x.toNat) (pA s'.heap (o:=kg b t ((b.length:Int)-1)) rfl) g (qC _)
     rw[List.take_length] at this
     exact this
    ·simp at m;subst m
     exact E'.before (own:=[s'.heap.objs.size]) (by simp[aZ]) _ (by simp)
   | _=>exact ap
theorem z61 (Wk:WOk c){a b d:E}{pa pb pd:Expr}{p1 pos:Pos}(ha:ar c n cx sc a pa)(hb:ar c n cx sc b pb)(hd:ar c n cx sc d pd)(hn:au [pa,pb,pd]=rg)(hl:sc.names.lookup ("range" : Str)=rc .globalImplicit):dH c n cx sc (.range3 a b d) rj (.Call (.Name "range" p1) [pa,pb,pd] [] pos):=by
 intro A fs Rm env X U J l s hX F;have e0:evIt cx (.range3 a b d) l=(evEs cx (.cons a (.cons b (.cons d .nil))) l >>= oF n6):=by
  show(evE cx a l >>= λx=>evE cx b l >>= λy=>evE cx d l >>= λz=>n6 x y z)=(evE cx a l >>= λv=>(evE cx b l >>= λv'=>(evE cx d l >>= λv''=>(pure []:M (List V)) >>= λvs=>pure (v'':: vs)) >>= λvs=>pure (v':: vs)) >>= λvs=>pure (v:: vs)) >>= oF n6;simp only[M.assoc];rfl
 rw[e0];rw[<-M.id (evEs cx (.cons a (.cons b (.cons d .nil))) l >>= _)];refine j8.bind (Sat.using λS=>Sat.skip (b:=.type "range") (λQ E h=>cw Wk S F hl (by decide +kernel) (Wk.blt _ _ (pv (i:=9) rfl)) h) (Sat.callW (rel:=λ_ h i w=>j7 i h w) Rm (g:=oF n6) (.cons ha (.cons hb (.cons hd .nil))) hn hX F λas vs J' U' s' S' E' r=>⟨bl (by simp),?_⟩)) λi J2 U2 w s2 e2 S2 E2 R=>z3Z R λb z=>E2.before (own:=[b]) (by simpa using z) b (by simp)
 cases r with
 | nil=>exact ap
 | @cons x v1 _ _ ra r=>cases r with
  | nil=>exact ap
  | @cons y v2 _ _ rb r=>cases r with
   | nil=>exact ap
   | @cons z v3 _ _ rd r=>cases r with
    | cons _ _=>exact ap
    | nil=>
     show Sat c A fs X U' J' s' (n6 x y z J') _ _;refine Sat.lift λi hi=>Sat.lift λj hj=>Sat.lift λk hk=>Sat.guard λq=>?_
     have q:=of_decide_eq_true q;obtain rfl:=V.int_e hi;obtain rfl:=V.int_e hj;obtain rfl:=V.int_e hk;refine VR.intC ra λt=>?_
     refine VR.intC rb λt2=>?_
     refine VR.intC rd λt3=>?_
     exact Sat.any λQ E S _ ok _=>call_range_3 (lq _ q).2.2.1 (ok _ _ _ _ _ rfl (S.push _) (.push _) ⟨_,_,_,_,_,_,_,rfl,IsRange.new ..,q,rfl⟩) (.inl (PyProof.noPylong_small (lq _ q).2.2.2))
end
end
section
section
variable {M:Model}{A:qZ}{E:VP}{s:Shared}{env:Env}
theorem z4t {Y:Type}{c:Prop} [Decidable c]{pos:Pos}{k:PUnit->Sem Y}{Q:Y->Shared->Prop}(h:wpF M A (k ()) Q E s):
  wpF M A (if c then(standAt pos >>= k) else k ()) Q E s:=by
 split
 ·exact a9 (aF h)
 ·exact h
noncomputable def gO (sc:Scope)(env ce:Env):Env:={ ce with scope:=relabel sc env }
noncomputable def dU (M:Model)(A:qZ)(E:VP)(use:Option (Value->Sem Unit))(Q:VP)(acc:Value)(C:Addr)(r:r6)(s':Shared):Prop:=
 match r,use with
 | .ok _,re=>∃ m,s'.heap.Ns C m/\∀ h' m',h'.Ns C m'->qo C s'.heap h'->Q acc { s' with heap:=h' }
 | .ok _,rc u=>wpF M A (u acc) (λ_ s''=>∃ m,s''.heap.Ns C m/\∀ h' m',h'.Ns C m'->qo C s''.heap h'->Q .none { s'' with heap:=h' }) E s'
 | .error _,_=>False
theorem z0X {e:Expr}{scope:Scope}{pos:Pos}{newAcc first:Sem Value}{g:Comprehension}{gs:List Comprehension}{cl:List (Str×Addr)}{use:Option (Value->Sem Unit)}
  {Q:VP}
  (hcl:clausesOf e=g:: gs)(hs:∀ x,pO g.iter env x=pure x)(hclos:closureFor scope env=pure cl)
  (hkind:scope.kind = .function)(hnames:∀ x∈scope.names,x.2 = .local->scope.names.lookup x.1=rc .local)
  (h:wpF M A first (λx s₁=>wpF M A (pyIter x) (λit s₂=>wpF M A newAcc (λacc s₃=>
   wpF M A (newFunctionEnv scope env.globals cl [] env.qual re .none (rc env)) (λcenv s₄=>
    bo M A (.compStart e 0 it acc (gO scope env cenv)) (dU M A E use Q acc cenv.locals) s₄) E s₃) E s₂) E s₁) E s):
  wpF M A (comprehension e scope env pos newAcc rj first use) Q E s:=by
 unfold comprehension;rw[hclos,hcl];refine a9 (ao h (λx s₁ h₁=>bH (λh=>aF h) (a9 ?_)) λ_ _ h'=>h');rw[hs x];refine ac (a9 (ay (ao h₁ (λit s₂ h₂=>
  z4t (a9 (ao h₂ (λacc s₃ h₃=>bH (λh=>ac h) (a9 (ao h₃ (λcenv s₄ h₄=>?_) λ_ _ h'=>h'))) λ_ _ h'=>h')))
   λ_ _ h'=>h')))
 have hv:∀ x∈scope.names,x.2 = .local->Env.kindOf (gO scope env cenv) x.1=rc .local:=λx hx hl=>lookup_relabel_local (hnames x hx hl)
 refine ay (a9 (z1o (ay (z5C ?_ rfl))));refine z20 h₄ λr s' hr=>?_
 induction r with
 | ok f=>
  induction use with
  | none=>
   refine el12 hr λm hn hr=>?_
   exact a9 (ay (.of (wpAny_comp_letGo (cenv:=gO scope env cenv) hkind _ s' m (λx hx=>hv x (List.mem_filter.mp (List.mem_reverse.mp hx)).1) hn λh' m' hn' hs'=>ac (hr h' m' hn' hs'))))
  | some u=>
   refine a9 (eD (a9 (ay (ao hr (λ_ s'' hr'=>?_) λ_ _ h'=>h'))));refine el12 hr' λm hn hr'=>?_
   exact a9 (.of (wpAny_comp_letGo (cenv:=gO scope env cenv) hkind _ s'' m (λx hx=>hv x (List.mem_filter.mp (List.mem_reverse.mp ((List.mem_append.mp hx).elim List.mem_of_mem_drop List.mem_of_mem_take))).1) hn λh' m' hn' hs'=>ac (hr' h' m' hn' hs')))
 | error x=>exact hr.elim
end
theorem fi {env:Env}:∀ (names:List (Str×qV))(cs:List (Str×Addr)),(∀ n,(n,qk)∈names->∃ y,env.cells.lookup n=rc y)->
  ∃ cl:List (Str×Addr),(forIn (m:=Sem) names cs λx r=>(do
   if x.2==.free then do let a<-cellOf env x.1;pure (ForInStep.yield ((x.1,a):: r)) else pure (ForInStep.yield r)))=pure cl/\
   ∀ n,((n,qk)∈names∨cs.lookup n=env.cells.lookup n)->cl.lookup n=env.cells.lookup n
 | [],cs,_=>⟨cs,by simp,λn h=>by simpa using h⟩
 | (n,k):: r,cs,h=>by
  by_cases hk:k = .free
  ·subst hk
   obtain⟨y,hy⟩:=h n (by simp);refine el12 (fi (env:=env) r ((n,y):: cs) λn m=>h n (List.mem_cons_of_mem _ m)) λcl e1 e2=>?_
   refine bf cl ?_ (λn' h'=>e2 n' ?_)
   ·rw[List.forIn_cons]
    simp only[beq_self_eq_true,if_true];have ec:cellOf env n=pure y:=by unfold cellOf;rw[hy]
    simp only[ec,qO,qO];exact e1
   ·by_cases q:n'=n
    ·obtain rfl:=q.symm;right;simp only[List.lookup_cons_self,hy]
    ·rcases h' with z | z
     ·rcases List.mem_cons.mp z with z | z
      ·cases z;exact absurd rfl q
      ·exact .inl z
     ·right
      simp only[qa,show(n'==n)=rj from by simpa using q];exact z
  ·refine el12 (fi (env:=env) r cs λn m=>h n (List.mem_cons_of_mem _ m)) λcl e1 e2=>?_
   refine bf cl ?_ (λn' h'=>e2 n' ?_)
   ·rw[List.forIn_cons]
    have:(k==qk)=false:=by simpa using hk
    simp -iota only[this,pG,if_false,qO];exact e1
   ·rcases h' with z | z
    ·rcases List.mem_cons.mp z with z | z
     ·cases z;exact absurd rfl hk
     ·exact .inl z
    ·exact .inr z
theorem z1c {scope:Scope}{env:Env}(h:∀ n,(n,qk)∈scope.names->∃ y,env.cells.lookup n=rc y):
  ∃ cl:List (Str×Addr),closureFor scope env=pure cl/\∀ n,(n,qk)∈scope.names->cl.lookup n=env.cells.lookup n:=by
 obtain⟨cl,e1,e2⟩:=fi scope.names [] h;refine⟨cl,?_,λn m=>e2 n (.inl m)⟩;unfold closureFor;show(forIn (m:=Sem) scope.names [] _ >>= λr=>pure r)=_;rw[bind_pure];exact e1
theorem z0b {env:Env}:∀ {names:List (Str×qV)}{x:Str}{k:qV},names.lookup x=rc k->k≠.free->
  (names.map λ(n,k)=>if(k==qk&&env.scope.kind==.function&&env.kindOf n==rc .cell) then(n,qn) else(n,k)).lookup x=rc k
 | [],_,_,h,_=>by simp at h
 | (n,k):: r,x,k',h,hk=>by
  have ih:=@z0b env r x k';show List.lookup x ((if(k==qk&&env.scope.kind==.function&&env.kindOf n==rc .cell)=rg then(n,qn) else(n,k)):: _)=_;cases hx:x==n with
  | true=>
   simp only[qa,hx] at h
   cases h
   have:(k==qk)=false:=by simpa using hk
   simp[qa,hx,this]
  | false=>
   simp only[qa,hx] at h
   by_cases hc:(k==qk&&env.scope.kind==.function&&env.kindOf n==rc .cell)=rg
   ·rw[if_pos hc];simp only[qa,hx];exact ih h hk
   ·rw[if_neg hc];simp only[qa,hx];exact ih h hk
theorem z00 {env:Env}:∀ {names:List (Str×qV)}{x:Str},names.lookup x=rc .free->
  (names.map λ(n,k)=>if(k==qk&&env.scope.kind==.function&&env.kindOf n==rc .cell) then(n,qn) else(n,k)).lookup x=rc .cell∨
  (names.map λ(n,k)=>if(k==qk&&env.scope.kind==.function&&env.kindOf n==rc .cell) then(n,qn) else(n,k)).lookup x=rc .free
 | [],_,h=>by simp at h
 | (n,k):: r,x,h=>by
  have ih:=@z00 env r x;show List.lookup x ((if(k==qk&&env.scope.kind==.function&&env.kindOf n==rc .cell)=rg then(n,qn) else(n,k)):: _)=_∨List.lookup x ((if(k==qk&&env.scope.kind==.function&&env.kindOf n==rc .cell)=rg then(n,qn) else(n,k)):: _)=_;cases hx:x==n with
  | true=>
   simp only[qa,hx] at h
   cases h
   by_cases hc:(qk==qk&&env.scope.kind==.function&&env.kindOf n==rc .cell)=rg
   ·rw[if_pos hc];left;simp only[qa,hx]
   ·rw[if_neg hc];right;simp only[qa,hx]
  | false=>
   simp only[qa,hx] at h
   by_cases hc:(k==qk&&env.scope.kind==.function&&env.kindOf n==rc .cell)=rg
   ·rw[if_pos hc];simp only[qa,hx];exact ih h
   ·rw[if_neg hc];simp only[qa,hx];exact ih h
end
section
theorem M.ok_inv {Y β:Type}{m:M Y}{f:Y->M β}{J J':MH}{b:β}(h:(m >>= f) J = .ok b J'):∃ a J1,m J = .ok a J1/\f a J1 = .ok b J':=by
 replace h:M.bind m f J = .ok b J':=h;unfold M.bind at h
 cases q:m J with
 | ok a J1=>rw[q] at h;exact⟨a,J1,rfl,h⟩
 | exc k J1=>rw[q] at h;cases h
 | bad=>rw[q] at h;cases h
theorem M.ok_run {Y β:Type}{m:M Y}{f:Y->M β}{J J1:MH}{a:Y}(h:m J = .ok a J1):(m >>= f) J=f a J1:=by
 show M.bind m f J=_;unfold M.bind;rw[h]
section
variable {c:Cfg}{n:Nat}{cx:Cx}{sc csc:Scope}
theorem Fst.less {env:Env}{cl:Nat->Option Nat}{U:List Addr}{l l':Loc}{h:Heap}(F:Fst c sc env cl U l h)(k:∀ x v,l' x=rc v->l x=rc v):Fst c sc env cl U l' h:=
 ⟨F.ok,(by obtain⟨m,hm,hv⟩:=F.ns;exact⟨m,hm,λx v q=>hv x v (k x v q)⟩),F.own,F.base,F.cells⟩
theorem Fst.mono {env:Env}{cl:Nat->Option Nat}{U:List Addr}{l:Loc}{h h':Heap}(F:Fst c sc env cl U l h)(k:∀ o,h.get? env.locals=rc o->h'.get? env.locals=rc o)(fz:∀ b o,h.get? b=rc o->aG o->h'.get? b=rc o):Fst c sc env cl U l h':=
 ⟨F.ok,(by obtain⟨m,⟨o,es,ep,ho,r⟩,hv⟩:=F.ns;exact⟨m,⟨o,es,ep,k _ ho,r⟩,λx v q=>(by obtain⟨v',e1,e2⟩:=hv x v q;exact⟨v',e1,e2.mono (λ_ _ z=>z) fz⟩)⟩),F.own,F.base,F.cells⟩
noncomputable abbrev cz:Loc:=λ_=>re
theorem Fst.bare {env:Env}{cl:Nat->Option Nat}{U:List Addr}{l:Loc}{h:Heap}(F:Fst c sc env cl U l h):Fst c sc env cl U cz h:=F.less λ_ _ q=>by cases q
structure CK (c:Cfg)(s0:Shared)(own:List Addr)(D C:Addr):Prop where
 ownF:∀ b∈own,s0.heap.get? b=re
 D0:s0.heap.get? D=re
 C0:s0.heap.get? C=re
 DC:D≠C
 Dw:D∉own
 Cw:C∉own
 bD:c.base.get? D=re
structure CI (c:Cfg)(cx:Cx)(csc:Scope)(fs:List Env)(X U0:List Addr)(s0:Shared)(tup:Bool)(own:List Addr)(i:It)(it:Value)(D:Addr)(cenv:Env)(U:List Addr)(J:MH)(rest done:List V)(s:Shared):Prop where
 st:St c fs U J s.heap
 evo:Evo fs X U0 s0.heap U s.heap
 oth:Oth s0 s
 it:ItAt c U s.heap tup own i rest it
 acc:∃ vs m,s.heap.get? D=rc (bI vs m)/\VRs c U s.heap done vs
 nD:D∉U
 fst:Fst c csc cenv cx.cl U cz s.heap
variable {fs:List Env}{X U0:List Addr}{s0:Shared}{tup:Bool}{own:List Addr}{i:It}{it:Value}{D:Addr}{cenv:Env}{U U':List Addr}{J J':MH}{rest rest' done:List V}{s s':Shared}
theorem CI.frD (I:CI c cx csc fs X U0 s0 tup own i it D cenv U J rest done s):D∉frs fs:=λm=>by
 refine aw λ_ Z9=>?_
 obtain⟨_,_,o,es,n,e1,e2⟩:=I.st.fr.mem m;obtain⟨vs,k,e3,_⟩:=I.acc;refine Z9 ?_;rw[e1] at e3;cases e3;cases e2
theorem CI.accKeep (I:CI c cx csc fs X U0 s0 tup own i it D cenv U J rest done s){Y9:List Addr}(E:Evo fs Y9 U s.heap U' s'.heap)(hD:D∉Y9):(∃ vs m,s'.heap.get? D=rc (bI vs m)/\VRs c U' s'.heap done vs)/\D∉U':=by
 refine aw λ_ Z9=>?_
 obtain⟨vs,m,e,r⟩:=I.acc;refine Z9 ?_;refine⟨⟨vs,m,E.keep _ _ e I.nD hD I.frD,r.evo E⟩,λq=>?_⟩
 rcases E.fresh _ q with z | z
 ·exact I.nD z
 ·rw[z] at e;cases e
theorem CI.step (I:CI c cx csc fs X U0 s0 tup own i it D cenv U J rest done s)(K:CK c s0 own D cenv.locals){Y9:List Addr}(hY:∀ y∈Y9,y=cenv.locals)(S:St c fs U' J' s'.heap)(E:Evo fs Y9 U s.heap U' s'.heap)(O:Oth s s')(F:Fst c csc cenv cx.cl U' cz s'.heap):
  CI c cx csc fs X U0 s0 tup own i it D cenv U' J' rest done s':=by
 obtain⟨a,d⟩:=I.accKeep (s':=s') E λm=>K.DC (hY _ m)
 exact⟨S,I.evo.later E λy m=>.inr (by rw[hY y m];exact K.C0),I.oth.trans O,I.it.evo I.st E λb m q=>K.Cw (hY b q▸m),a,d,F⟩
theorem CI.next (I:CI c cx csc fs X U0 s0 tup own i it D cenv U J rest done s)(K:CK c s0 own D cenv.locals)(S:St c fs U J s'.heap)(E:Evo fs own U s.heap U s'.heap)(O:Oth s s')(J9:ItAt c U s'.heap tup own i rest' it):
  CI c cx csc fs X U0 s0 tup own i it D cenv U J rest' done s':=by
 obtain⟨a,d⟩:=I.accKeep (s':=s') E K.Dw;exact⟨S,I.evo.later E λy m=>.inr (K.ownF y m),I.oth.trans O,J9,a,d,I.fst.evo E K.Cw⟩
theorem CI.append {A:qZ}{v:V}{w:Value}{Q:VP}{E:VP}(I:CI c cx csc fs X U0 s0 tup own i it D cenv U J rest done s)(K:CK c s0 own D cenv.locals)(hl:done.length<=lim)(r:VR c U s.heap v w)
  (h:∀ s',CI c cx csc fs X U0 s0 tup own i it D cenv U J rest (done++[v]) s'->Q .none s'):wpAny (model c.prog c.w) A (call (.builtin "list.append") [.ref D,w]) Q E s:=by
 have sl:qS=16777216:=qx;have ll:lim=1000000:=rfl;refine aw λ_ Z9=>?_
 refine el22 I.acc λvs m e rv=>?_
 refine Z9 ?_;have hlen:=rv.length;refine append_at e (λh' hs e'=>h _ ?_) (by rw[pM,<-hlen];exact br hl);have hnb:=K.bD;have kk:∀ b o,b≠D->s.heap.get? b=rc o->h'.get? b=rc o:=λb o n e=>hs.extBut b o n e
 have nf:∀ o,s.heap.get? D=rc o->¬ aG o:=λo eo=>qb (e.symm.trans eo)▸fQ
 have S':St c fs U J h':=I.st.other (λb o eb z=>kk b o (λq=>by
   obtain rfl:=q.symm
   rcases z with z | z | z
   ·exact I.nD z
   ·exact nf o eb z
   ·replace z:=hnb▸z;cases z) eb) ⟨λenv me=>by
  refine aw λ_ Z9=>?_
  obtain⟨a,L,o,es,n,e1,e2,e3,e4,e6⟩:=I.st.fr.each env me;refine Z9 ?_;exact⟨a,L,o,es,n,e1,e2,e3,kk _ _ (λq=>I.frD (q▸List.mem_filterMap.mpr ⟨env,me,e1⟩)) e4,e6⟩⟩
 have E':Evo fs [D] U s.heap U h':=⟨⟨[],by simp⟩,λ_ m=>.inl m,λb o eb=>by
   by_cases q:b=D
   ·obtain rfl:=q.symm;exact⟨_,e'⟩
   ·exact⟨o,kk b o q eb⟩,λb o eb _ nb _=>kk b o (by simpa using nb) eb,λb o eb _ nb=>⟨o.slots,kk b o (by simpa using nb) eb⟩,λb o eb f=>kk b o (λq=>nf o (q▸eb) f) eb⟩
 refine⟨S',I.evo.later E' λy my=>.inr (by simp at my;obtain rfl:=my.symm;exact K.D0),I.oth.trans ⟨rfl,rfl⟩,I.it.evo I.st E' λb mb q=>K.Dw (by simp at q;obtain rfl:=q.symm;exact mb),⟨vs++[w],m+1,by simpa using e',?_⟩,I.nD,I.fst.evo E' (by simpa using K.DC.symm)⟩;exact(rv.evo E').append (.cons (r.evo E') .nil)
theorem CI.nextItem {A:qZ}{x:V}{pt:Expr}(I:CI c cx csc fs X U0 s0 tup own i it D cenv U J (x:: rest) done s)(K:CK c s0 own D cenv.locals){y:V}(hk:i.item x J = .ok y J)(ht:tup=rg->bv pt=rg){R:Shared->Prop}{G:VP}{E:VP}
  (h:∀ val s',CI c cx csc fs X U0 s0 tup own i it D cenv U J rest done s'->VR c U s'.heap y val->G val s'):
  wpF (model c.prog c.w) A (pyNext it) (λr s₁=>match r with | none=>R s₁ | some v=>wpF (model c.prog c.w) A (qf pt it v) (λ_ s₂=>G v s₂) E s₁) E s:=by
 refine ao (.of (z2O (Q:=G) I.it I.st hk ht λval h' tk S' E' r J9=>h val _ (I.next K S' E' ⟨rfl,rfl⟩ J9) r)) (λr s₁ z=>?_) λ_ _ z=>z
 induction r with
 | none=>exact z.elim
 | some v=>exact .of z
theorem CI.ended {A:qZ}(hh:A.handled=re)(I:CI c cx csc fs X U0 s0 tup own i it D cenv U J [] done s)(K:CK c s0 own D cenv.locals)(hk:i.stop J≠.bad){R:Shared->Prop}{G:VP}{E:VP}
  (h:∀ s',St c fs U J s'.heap->Evo fs X U0 s0.heap U s'.heap->Oth s0 s'->(∃ vs m,s'.heap.get? D=rc (bI vs m)/\VRs c U s'.heap done vs)->D∉U->Fst c csc cenv cx.cl U cz s'.heap->R s'):
  wpF (model c.prog c.w) A (pyNext it) (λr s₁=>match r with | none=>R s₁ | some v=>G v s₁) E s:=by
 refine ao (.of (z47 (Q:=λr s₁=>r=re/\R s₁) hh I.it I.st hk λh' S' kk=>⟨rfl,?_⟩)) (λr s₁ z=>?_) λ_ _ z=>z
 ·obtain⟨vs,m,e,r⟩:=I.acc
  have E1:=I.evo.ended K.ownF kk;have nf:∀ b o,b∈own->s.heap.get? b=rc o->¬ aG o:=λb o m e=>I.it.free m e
  have fz:∀ b o,s.heap.get? b=rc o->aG o->h'.get? b=rc o:=λb o e f=>kk b o (λm=>nf b o m e f) e
  exact h _ S' E1 (I.oth.trans ⟨rfl,rfl⟩) ⟨vs,m,kk _ _ K.Dw e,r.imp λ_ _ z=>z.mono (λ_ _ z=>z) fz⟩ I.nD (I.fst.mono (λo e=>kk _ _ K.Cw e) fz)
 ·obtain⟨rfl,z⟩:=z
  exact z
end
end
section
section
variable {c:Cfg}{n:Nat}{cx:Cx}{sc csc:Scope}
variable {fs:List Env}{X U0:List Addr}{s0:Shared}{tup:Bool}{own:List Addr}{i:It}{it:Value}{D:Addr}{cenv:Env}{U U':List Addr}{J J' Jfin:MH}{rest rest' done outs all:List V}{s s':Shared}
noncomputable abbrev k7 (cx:Cx)(t:Tg)(el:E):V->M (Option V):=λx=>do
 let l'<-bindT cx t x (λ_=>re)
 pure (rc (<-evE cx el l'))
noncomputable abbrev iH (cx:Cx)(t:Tg)(el k:E):V->M (Option V):=λx=>do
 let l'<-bindT cx t x (λ_=>re)
 if<-aQ (<-evE cx k l') then do pure (rc (<-evE cx el l')) else pure re
theorem Sat.ok_only {Y β:Type}{A:qZ}{fs:List Env}{X U:List Addr}{J J':MH}{s:Shared}{a:Y}{r:R Y}{rel:List Addr->Heap->Y->β->Prop}{t:Sem β}{Q:β->Shared->Prop}{E:VP}(h:Sat c A fs X U J s r rel t)(e:r = .ok a J')(S:St c fs U J s.heap)
  (ok:∀ U' b s',St c fs U' J' s'.heap->Evo fs X U s.heap U' s'.heap->rel U' s'.heap a b->Oth s s'->Q b s'):wpF (model c.prog c.w) A t Q E s:=by
 subst e;exact h Q E S (by simp) (λa1 J1 U1 b s1 e S1 E1 r O=>by cases e;exact ok U1 b s1 S1 E1 r O) (λk J1 U1 e s1 q F O=>by cases q)
theorem if_G {b:Bool}{P Q:Prop}(h1:b=rj->Q)(h2:b=rg->P):if b=rg then P else Q:=by
 induction b with
 | true=>exact h2 rfl
 | false=>exact h1 rfl
theorem z8B {G:Prop}{turn:V->M (Option V)}(hm:compLoop i turn [] J = .ok outs Jfin)(k:i.stop J≠.bad->outs=[]->Jfin=J->G):G:=by
 refine aw λ_ Z9=>?_
 obtain⟨u,J1,e1,e2⟩:=M.ok_inv hm;refine Z9 ?_;have e0:i.stop J≠.bad:=by rw[e1];intro q;cases q
 rw[(It.stop_inv e0).1] at e1
 cases e1
 cases e2
 exact k e0 rfl rfl
theorem z8D {G:Prop}{turn:V->M (Option V)}{x:V}{xs:List V}(hm:compLoop i turn (x:: xs) J = .ok outs Jfin)(k:∀ y vo J2,i.item x J = .ok y J->turn y J = .ok vo J2->((match vo with | some v=>(compLoop i turn xs >>= λr=>pure (v:: r)) | none=>compLoop i turn xs:M (List V)) J2 = .ok outs Jfin)->G):G:=by
 refine aw λ_ Z9=>?_
 refine el22 (M.ok_inv hm) λy J1 e1 e2=>?_
 refine Z9 ?_;obtain rfl:J1=J:=by
  refine el12 (It.item_inv (i:=i) (x:=x) (J:=J) (by rw[e1];intro q;cases q)) λy' e0 _=>?_
  replace e1:=e0▸e1;cases e1;rfl
 refine aw λ_ Z9=>?_
 refine el22 (M.ok_inv e2) λvo J2 e3 e4=>?_
 refine Z9 ?_;exact k y vo J2 e1 e3 e4
theorem z9O {G:Prop}{t:Tg}{el:E}{x:V}{xs:List V}(hm:compLoop i (k7 cx t el) (x:: xs) J = .ok outs Jfin)(k:∀ y l' J3 v J4 outs',i.item x J = .ok y J->bindT cx t y cz J = .ok l' J3->evE cx el l' J3 = .ok v J4->compLoop i (k7 cx t el) xs J4 = .ok outs' Jfin->outs=v:: outs'->G):G:=
 z8D hm λy vo J2 e1 e3 e4=>by
  refine aw λ_ Z9=>?_
  refine el22 (M.ok_inv e3) λl' J3 e5 e6=>?_
  refine el22 (M.ok_inv e6) λv J4 e7 e8=>?_
  refine Z9 ?_;cases e8;refine aw λ_ Z9=>?_
  refine el22 (M.ok_inv e4) λouts' J5 e9 e10=>?_
  refine Z9 ?_;cases e10;exact k y l' J3 v _ outs' e1 e5 e7 e9 rfl
theorem z9P {G:Prop}{t:Tg}{el c:E}{x:V}{xs:List V}(hm:compLoop i (iH cx t el c) (x:: xs) J = .ok outs Jfin)(k:∀ y l' J3 b J4,i.item x J = .ok y J->bindT cx t y cz J = .ok l' J3->(evE cx c l' >>= aQ) J3 = .ok b J4->
  (b=rj->compLoop i (iH cx t el c) xs J4 = .ok outs Jfin)->(b=rg->∃ v J6 outs',evE cx el l' J4 = .ok v J6/\compLoop i (iH cx t el c) xs J6 = .ok outs' Jfin/\outs=v:: outs')->G):G:=
 z8D hm λy vo J2 e1 e3 e4=>by
  refine aw λ_ Z9=>?_
  refine el22 (M.ok_inv e3) λl' J3 e5 e6=>?_
  refine el22 (M.ok_inv e6) λkv J4 e7 e8=>?_
  refine el22 (M.ok_inv e8) λb J4' e7' e8=>?_
  refine Z9 ?_;refine k y l' J3 b J4' e1 e5 (by refine(M.ok_run e7)▸?_;exact e7') (λhb=>?_) (λhb=>?_)
  ·subst hb
   cases e8
   exact e4
  ·subst hb
   refine aw λ_ Z9=>?_
   refine el22 (M.ok_inv e8) λv J6 e9 e10=>?_
   refine Z9 ?_;cases e10;refine aw λ_ Z9=>?_
   refine el22 (M.ok_inv e4) λouts' J5 e11 e12=>?_
   refine Z9 ?_;cases e12;exact in33 v _ outs' e9 e11 rfl
theorem z22 {A:qZ}(Rm:Room n A fs){t:Tg}{el:E}{pt pel piter:Expr}{scope:Scope}{pos:Pos}(ht:cj c n cx csc t pt)(he:ar c n cx csc el pel)(htup:tup=rg->bv pt=rg)(K:CK c s0 own D cenv.locals)(hall:all.length<=lim)
  {R:r6->Shared->Prop}
  (hR:∀ U' s',St c fs U' Jfin s'.heap->Evo fs X U0 s0.heap U' s'.heap->Oth s0 s'->(∃ vs m,s'.heap.get? D=rc (bI vs m)/\VRs c U' s'.heap all vs)->D∉U'->Fst c csc cenv cx.cl U' cz s'.heap->R (.ok .next) s')
  (I:CI c cx csc fs X U0 s0 tup own i it D cenv U J rest done s)(hm:compLoop i (k7 cx t el) rest J = .ok outs Jfin)(ha:done++outs=all):
  bo (model c.prog c.w) A (.compLoop (.ListComp pel [⟨pt,piter,[],0⟩] scope pos) 0 it (.ref D) cenv) R s:=by
 refine el12 (P0:=λINV:Nat->Shared->Prop=>∀ U J rest done outs s,CI c cx csc fs X U0 s0 tup own i it D cenv U J rest done s->compLoop i (k7 cx t el) rest J = .ok outs Jfin->done++outs=all->INV rest.length s)
  (P1:=λINV=>∀ k s,INV k s->∃ U J rest done outs,rest.length=k/\CI c cx csc fs X U0 s0 tup own i it D cenv U J rest done s/\compLoop i (k7 cx t el) rest J = .ok outs Jfin/\done++outs=all) ⟨_,λ_ _ _ _ _ _ I e a=>⟨_,_,_,_,_,rfl,I,e,a⟩,λ_ _ h=>h⟩ λINV hI hE=>?_
 refine z1w INV ?_ rest.length (hI _ _ _ _ _ _ I hm ha);clear I hm ha;intro k s h;refine oA (hE k s h) λU J rest done outs ek I hm ha=>?_
 refine aw λ_ Z9=>?_
 cases rest with
 | nil=>
  refine Z9 ?_;refine z8B hm λe0 ho hf=>?_
  have ha':done=all:=by rw[<-ha,ho,qh]
  exact I.ended (R:=λs₁=>R (.ok .next) s₁) Rm.handled K e0 λs' S' E' O' a d F=>hR _ s' (hf▸S') E' O' (ha'▸a) d F
 | cons x xs=>
  refine Z9 ?_;refine z9O hm λy l' J3 v J4 outs' e1 e5 e7 e9 ho=>?_
  have hlen:done.length<=lim:=by
   have:=congrArg List.length ha;rw[pF] at this
   exact qt (Nat.le_add_right _ _) (this▸hall)
  refine I.nextItem K e1 htup λval s1 I1 rx=>?_
  refine(ht A fs Rm cenv [cenv.locals] U J cz s1 y val (by simp) I1.fst rx).ok_only e5 I1.st λU2 _ s2 S2 E2 F2 O2=>?_
  have I2:=I1.step K (by simp) S2 E2 O2 F2.bare;refine(he A fs Rm cenv [] U2 J3 l' s2 (by simp) F2).ok_only e7 S2 λU3 w s3 S3 E3 r3 O3=>?_
  have I3:=I2.step K (Y9:=[]) (by simp) S3 E3 O3 (F2.evo E3 (by simp)).bare;exact .of (I3.append K hlen r3 λs4 I4=>⟨xs.length,ek▸Nat.lt_succ_self _,hI _ _ _ _ outs' _ I4 e9 (by rw[<-ha,ho,pK];rfl)⟩)
theorem z23 {A:qZ}(Rm:Room n A fs){t:Tg}{el k:E}{pt pel pk piter:Expr}{scope:Scope}{pos:Pos}(ht:cj c n cx csc t pt)(he:ar c n cx csc el pel)(hk:f6 c n cx csc k pk)(htup:tup=rg->bv pt=rg)(K:CK c s0 own D cenv.locals)(hall:all.length<=lim)
  {R:r6->Shared->Prop}
  (hR:∀ U' s',St c fs U' Jfin s'.heap->Evo fs X U0 s0.heap U' s'.heap->Oth s0 s'->(∃ vs m,s'.heap.get? D=rc (bI vs m)/\VRs c U' s'.heap all vs)->D∉U'->Fst c csc cenv cx.cl U' cz s'.heap->R (.ok .next) s')
  (I:CI c cx csc fs X U0 s0 tup own i it D cenv U J rest done s)(hm:compLoop i (iH cx t el k) rest J = .ok outs Jfin)(ha:done++outs=all):
  bo (model c.prog c.w) A (.compLoop (.ListComp pel [⟨pt,piter,[pk],0⟩] scope pos) 0 it (.ref D) cenv) R s:=by
 refine el12 (P0:=λINV:Nat->Shared->Prop=>∀ U J rest done outs s,CI c cx csc fs X U0 s0 tup own i it D cenv U J rest done s->compLoop i (iH cx t el k) rest J = .ok outs Jfin->done++outs=all->INV rest.length s)
  (P1:=λINV=>∀ j s,INV j s->∃ U J rest done outs,rest.length=j/\CI c cx csc fs X U0 s0 tup own i it D cenv U J rest done s/\compLoop i (iH cx t el k) rest J = .ok outs Jfin/\done++outs=all) ⟨_,λ_ _ _ _ _ _ I e a=>⟨_,_,_,_,_,rfl,I,e,a⟩,λ_ _ h=>h⟩ λINV hI hE=>?_
 refine z1x INV ?_ rest.length (hI _ _ _ _ _ _ I hm ha);clear I hm ha;intro j s h;refine oA (hE j s h) λU J rest done outs ek I hm ha=>?_
 refine aw λ_ Z9=>?_
 cases rest with
 | nil=>
  refine Z9 ?_;refine z8B hm λe0 ho hf=>?_
  have ha':done=all:=by rw[<-ha,ho,qh]
  exact I.ended (R:=λs₁=>R (.ok .next) s₁) Rm.handled K e0 λs' S' E' O' a d F=>hR _ s' (hf▸S') E' O' (ha'▸a) d F
 | cons x xs=>
  refine Z9 ?_;refine z9P hm λy l' J3 b J4' e1 e5 et ef ett=>?_
  have hlen:done.length<=lim:=by
   have:=congrArg List.length ha;rw[pF] at this
   exact qt (Nat.le_add_right _ _) (this▸hall)
  refine I.nextItem K e1 htup λval s1 I1 rx=>?_
  refine(ht A fs Rm cenv [cenv.locals] U J cz s1 y val (by simp) I1.fst rx).ok_only e5 I1.st λU2 _ s2 S2 E2 F2 O2=>?_
  have I2:=I1.step K (by simp) S2 E2 O2 F2.bare;refine(hk A fs Rm cenv [] U2 J3 l' s2 (by simp) F2).ok_only et S2 λU3 w s3 S3 E3 r3 O3=>?_
  have F3:=F2.evo E3 (by simp);have I3:=I2.step K (Y9:=[]) (by simp) S3 E3 O3 F3.bare;subst r3;refine if_G (λhb=>?_) λhb=>?_
  ·exact⟨xs.length,ek▸Nat.lt_succ_self _,hI _ _ _ _ outs _ I3 (ef hb) ha⟩
  ·refine lE (ett hb) λv J6 outs' e9 e11 ho=>?_
   refine(he A fs Rm cenv [] U3 J4' l' s3 (by simp) F3).ok_only e9 S3 λU4 w s4 S4 E4 r4 O4=>?_
   have I4:=I3.step K (Y9:=[]) (by simp) S4 E4 O4 (F3.evo E4 (by simp)).bare;exact .of (I4.append K hlen r4 λs5 I5=>⟨xs.length,ek▸Nat.lt_succ_self _,hI _ _ _ _ outs' _ I5 e11 (by rw[<-ha,ho,pK];rfl)⟩)
end
end
section
structure CSc (sc csc:Scope):Prop where
 kind:csc.kind = .function
 names:∀ x∈csc.names,x.2 = .local->csc.names.lookup x.1=rc .local
 nocell:∀ x∈csc.names,x.2≠.cell
 sub:∀ n,(n,qk)∈csc.names->sc.names.lookup n=rc .cell∨sc.names.lookup n=rc .free
section
variable {c:Cfg}{n:Nat}{cx:Cx}{sc csc:Scope}
theorem z5W {env:Env}{cl:List (Str×Addr)}{C:Addr}(H:CSc sc csc)(O:EnvOk sc env)(hcl:∀ n,(n,qk)∈csc.names->cl.lookup n=env.cells.lookup n):
  EnvOk csc (gO csc env (newEnv csc C env.globals cl env.qual re .none (rc env) qD)):=by
 have nc:∀ n,csc.names.lookup n≠rc .cell:=λn e=>H.nocell _ (mem_of_lookup e) rfl
 refine⟨H.kind,O.glob,O.blt,λn e=>lookup_relabel_local e,λn e=>z0b e (by simp),λn e=>?_,λn e=>?_,λi e=>absurd e.1 (nc _)⟩
 ·rcases e with e | e
  ·exact absurd e (nc n)
  ·exact z00 e
 ·rcases e with e | e
  ·exact absurd e (nc n)
  ·have m:=mem_of_lookup e
   obtain⟨y,hy⟩:=O.has n (H.sub n m);exact⟨y,(hcl n m).trans hy⟩
theorem z9I {G:Prop}{m:M (List V)}{J1:MH}{r:R V}(hr:(M.solid m >>= λxs=>Mine.Internal.newList xs) J1=r)(nb:r≠.bad)(k:∀ outs Jfin,m J1 = .ok outs Jfin->outs.length<=lim->r = .ok (.ref Jfin.n) (Jfin.push (.lst outs))->G):G:=by
 refine aw λ_ Z9=>?_
 cases q2:m J1 with
 | bad=>exact absurd (hr.symm.trans (iN (by show M.solid m J1=_;unfold M.solid;rw[q2]))) nb
 | exc k J'=>exact absurd (hr.symm.trans (iN (by show M.solid m J1=_;unfold M.solid;rw[q2]))) nb
 | ok outs Jfin=>
  refine Z9 ?_;replace hr:=(bnd (show M.solid m J1 = .ok outs Jfin by unfold M.solid;rw[q2])).symm.trans hr;have hl:outs.length<=lim:=by
   by_cases z:outs.length<=lim
   ·exact z
   ·exact absurd (hr.symm.trans (jw (decide_eq_false z))) nb
  exact k outs Jfin q2 hl (hr.symm.trans (kU (decide_eq_true hl)))
theorem fL {turn:V->M (Option V)}{it:Ite}{tup:Bool}{piter pel pt:Expr}{ifs:List Expr}{pos pos':Pos}{A:qZ}{fs:List Env}(Rm:Room n A fs){env:Env}{X U:List Addr}{J:MH}{l:Loc}{s:Shared}(hX:env.locals∉X)(F:Fst c sc env cx.cl U l s.heap)
  (H:CSc sc csc)(hit:dH c n cx sc it tup piter)(hs:∀ x,pO piter env x=pure x)
  (loop:∀ {own:List Addr}{i:It}{itv:Value}{D:Addr}{cenv:Env}{U':List Addr}{J' Jfin:MH}{outs:List V}{s':Shared}{R:r6->Shared->Prop},CK c s own D cenv.locals->outs.length<=lim->
   (∀ U'' s'',St c fs U'' Jfin s''.heap->Evo fs X U s.heap U'' s''.heap->Oth s s''->(∃ vs m,s''.heap.get? D=rc (bI vs m)/\VRs c U'' s''.heap outs vs)->D∉U''->Fst c csc cenv cx.cl U'' cz s''.heap->R (.ok .next) s'')->
   CI c cx csc fs X U s tup own i itv D cenv U' J' i.items [] s'->compLoop i turn i.items J' = .ok outs Jfin->
   bo (model c.prog c.w) A (.compLoop (.ListComp pel [⟨pt,piter,ifs,0⟩] csc pos) 0 itv (.ref D) cenv) R s')
  {ev:M V}(hev:ev=(evIt cx it l >>= λi=>M.solid (compLoop i turn i.items) >>= λxs=>Mine.Internal.newList xs)){use:Option (Value->Sem Unit)}{Q:VP}{E:VP}
  (S:St c fs U J s.heap)(nb:ev J≠.bad)(ex:∀ k J' U' e s',ev J = .exc k J'->Fly c fs X U s.heap k J' U' e s'.heap->Oth s s'->E e s')
  (fin:∀ outs Jfin U' s' own D C,ev J = .ok (.ref Jfin.n) (Jfin.push (.lst outs))->CK c s own D C->St c fs U' Jfin s'.heap->Evo fs X U s.heap U' s'.heap->Oth s s'->(∃ vs m,s'.heap.get? D=rc (bI vs m)/\VRs c U' s'.heap outs vs)->D∉U'->
   (∃ m,s'.heap.Ns C m)->C∉U'->c.base.get? C=re->dU (model c.prog c.w) A E use Q (.ref D) C (.ok .next) s'):
  wpF (model c.prog c.w) A (comprehension (.ListComp pel [⟨pt,piter,ifs,0⟩] csc pos) csc env pos' (PySem.newList []) rj (eval piter env) use) Q E s:=by
 refine el12 (z1c (scope:=csc) (env:=env) λn m=>F.ok.has n (H.sub n m)) λcl e1 e2=>?_
 refine z0X rfl hs e1 H.kind H.names ?_;have hr:(evIt cx it l >>= λi=>M.solid (compLoop i turn i.items) >>= λxs=>Mine.Internal.newList xs) J=ev J:=by rw[hev]
 refine hit A fs Rm env X U J l s hX F _ _ S (λq=>nb (hr.symm.trans (iN q))) (λi J1 U1 itv s1 q1 S1 E1 rr O1=>?_) λk J' U' e s' q F O=>ex k J' U' e s' (hr.symm.trans (lD q)) F O
 refine el12 rr λown I1 fr=>?_
 refine z9I ((bnd q1).symm.trans hr) nb λouts Jfin q2 hl eb3=>?_
 refine aw λ_ Z9=>?_
 obtain⟨hp,g,d,tk,os⟩:=s1;refine Z9 ?_;refine .of (pN ?_ (by show(0:Nat)<=_;exact qB _));refine .of (wpAny_newFunctionEnv H.nocell (by intro y hy;simp at hy) (λh₁ hns₁ hsb₁=>?_) H.kind);dsimp only at hns₁ hsb₁ ⊢
 generalize hH2:hp.push { cls:=.type "list",dict:=re,data:=.seq ([]:List Value).toArray }=H2 at hns₁ hsb₁ ⊢
 have hC:H2.objs.size=hp.objs.size+1:=by rw[<-hH2,Heap.size_push]
 have hDC:hp.objs.size≠H2.objs.size:=by simp only[hC];exact qq (Nat.lt_succ_self _)
 have old:∀ b o,hp.get? b=rc o->h₁.get? b=rc o:=λb o e=>
  hsb₁.extBut b o (by simp only[hC];exact qq (Nat.lt_succ_of_lt (qp e))) (oS _ (hH2▸oS _ e))
 have hD:h₁.get? hp.objs.size=rc (bI [] 0):=hsb₁.extBut _ _ hDC (oS _ (hH2▸pA _ rfl));have none_at:∀ b,hp.objs.size<=b->hp.get? b=none:=λb l=>by
  cases q:hp.get? b with
  | none=>rfl
  | some o=>exact absurd (qp q) (Nat.not_lt.mpr l)
 have off:∀ b,hp.objs.size<=b->b∉own/\b∉U1/\c.base.get? b=re/\s.heap.get? b=none:=λb l=>by
  refine⟨λm=>?_,λm=>?_,?_,E1.before (own:=[b]) (by simpa using none_at b l) b (by simp)⟩
  ·obtain⟨⟨o,e,_⟩,_⟩:=I1.mine b m
   replace e:=(none_at b l)▸e;cases e
  ·refine np (S1.mem_lt m) λ_ _ _ _ _ e _=>?_
   replace e:=(none_at b l)▸e;cases e
  ·cases q:c.base.get? b with
   | none=>rfl
   | some o=>have:=S1.base _ _ q;rw[none_at b l] at this;cases this
 refine aw λ_ Z9=>?_
 refine kO (off _ (qC _)) λd1 d2 d3 d4=>?_
 refine kO (off H2.objs.size (by rw[hC];exact Nat.le_succ _)) λc1 c2 c3 c4=>?_
 refine Z9 ?_;have K:CK c s own hp.objs.size H2.objs.size:=⟨fr,d4,c4,hDC,d1,c1,d3⟩
 have EO:=z5W (C:=H2.objs.size) H F.ok e2;have Fi:Fst c csc (gO csc env (newEnv csc H2.objs.size env.globals cl env.qual re .none (rc env) qD)) cx.cl U1 cz h₁:=by
  refine⟨EO,⟨_,hns₁,λx v q=>by cases q⟩,c2,c3,λx a q hl=>?_⟩
  rcases hl with z | z
  ·exact absurd rfl (H.nocell _ (mem_of_lookup z))
  ·have m:=mem_of_lookup z
   refine el12 (F.cells x a q (H.sub _ m)) λy y1 y2=>?_
   exact⟨y,(e2 _ m).trans y1,E1.get y2⟩
 have Ek:Evo fs [] U1 hp U1 h₁:=.keeps old;have I:CI c cx csc fs X U s tup own i itv hp.objs.size (gO csc env (newEnv csc H2.objs.size env.globals cl env.qual re .none (rc env) qD)) U1 J1 i.items [] ⟨h₁,g,d,tk+([]:List (Str×Value)).length,os⟩:=
  ⟨S1.keeps old,E1.trans (.keeps old),O1.trans ⟨rfl,rfl⟩,I1.evo S1 Ek (by simp),⟨[],0,hD,.nil⟩,d2,Fi⟩
 have lp:=loop (R:=dU (model c.prog c.w) A E use Q (.ref hp.objs.size) H2.objs.size) K hl (λU'' s'' S2 E2 O2 a2 nD F2=>fin outs Jfin U'' s'' own _ _ eb3 K S2 E2 O2 a2 nD ((by obtain⟨m,hm,_⟩:=F2.ns;exact⟨m,hm⟩)) F2.own F2.base) I q2;exact z1y lp λE'=>i9 I.it lp
theorem z2I {A:qZ}{fs:List Env}{X U:List Addr}{J:MH}{s:Shared}{ev:M V}{Q:VP}{E:VP}
  (ok:∀ a J' U' b s',ev J = .ok a J'->St c fs U' J' s'.heap->Evo fs X U s.heap U' s'.heap->VR c U' s'.heap a b->Oth s s'->Q b s'):
  ∀ outs Jfin U' s' own D C,ev J = .ok (.ref Jfin.n) (Jfin.push (.lst outs))->CK c s own D C->St c fs U' Jfin s'.heap->Evo fs X U s.heap U' s'.heap->Oth s s'->(∃ vs m,s'.heap.get? D=rc (bI vs m)/\VRs c U' s'.heap outs vs)->D∉U'->
   (∃ m,s'.heap.Ns C m)->C∉U'->c.base.get? C=re->dU (model c.prog c.w) A E re Q (.ref D) C (.ok .next) s':=by
 rintro outs Jfin U' s' own D C e K S' E' O' ⟨vs,k,hD,rv⟩ nD ⟨m,hm⟩ nC bC;refine bf m hm (λh' m' hn' hs'=>?_);refine bX (S'.named (X:=[C]) nC bC (by simp) (Heap.Ns.dict hm) (Heap.Ns.dict hn') λb o n e=>hs'.extBut b o n e) λS2 E2=>?_
 have hD':h'.get? D=rc (bI vs k):=hs'.extBut _ _ K.DC hD;have frD:D∉frs fs:=λm=>by
  refine aw λ_ Z9=>?_
  obtain⟨_,_,o,es,n,e1,e2⟩:=S'.fr.mem m;refine Z9 ?_;replace hD:=e1▸hD;cases hD;cases e2
 refine ok _ _ _ _ _ e (S2.own hD' nD K.bD frD (.lst ?_)) ((E'.later E2 λy my=>.inr (by simp at my;obtain rfl:=my.symm;exact K.C0)).own K.D0) (.ref (by rw[S'.len];simp)) (O'.trans ⟨rfl,rfl⟩);exact rv.imp λ_ _ z=>z.mono (λa x e=>by rw[oO (List.getElem?_eq_some_iff.mp e).1];exact e) E2.frz
theorem z8q {el:E}{t:Tg}{it:Ite}{tup:Bool}{piter pel pt:Expr}{pos:Pos}(H:CSc sc csc)(hit:dH c n cx sc it tup piter)(htup:tup=rg->bv pt=rg)(ht:cj c n cx csc t pt)(he:ar c n cx csc el pel)(hs:∀ env x,pO piter env x=pure x):
  ar c n cx sc (.comp el t it) (.ListComp pel [⟨pt,piter,[],0⟩] csc pos):=by
 intro A fs Rm env X U J l s hX F;rw[eval_ListComp];intro Q E S nb ok ex;exact fL (turn:=k7 cx t el) Rm hX F H hit (hs env) (λK hl hR I q=>z22 Rm ht he htup K hl hR I q (List.nil_append _)) rfl S nb @ex (z2I @ok)
theorem z4Z {el k:E}{t:Tg}{it:Ite}{tup:Bool}{piter pel pt pk:Expr}{pos:Pos}(H:CSc sc csc)(hit:dH c n cx sc it tup piter)(htup:tup=rg->bv pt=rg)(ht:cj c n cx csc t pt)(he:ar c n cx csc el pel)(hk:f6 c n cx csc k pk)(hs:∀ env x,pO piter env x=pure x):
  ar c n cx sc (.compIf el t it k) (.ListComp pel [⟨pt,piter,[pk],0⟩] csc pos):=by
 intro A fs Rm env X U J l s hX F;rw[eval_ListComp];intro Q E S nb ok ex;exact fL (turn:=iH cx t el k) Rm hX F H hit (hs env) (λK hl hR I q=>z23 Rm ht he hk htup K hl hR I q (List.nil_append _)) rfl S nb @ex (z2I @ok)
end
end
section
section
variable {c:Cfg}{n:Nat}{cx:Cx}{sc csc:Scope}
theorem z2V {env:Env}{pel pt:Expr}{piter:Expr}{ifs:List Expr}{pos p2 spos:Pos}{nm:Str}(O:EnvOk sc env)(hl:sc.names.lookup nm=rc .local)(hp:(p2.line==pos.line)=rg)(hn:(csc.names.any λ(n,k)=>n==nm&&(k==.local||k==.cell))=rj):
  swapsWith (.ListComp pel [⟨pt,piter,ifs,0⟩] csc pos) (rc (.Name nm p2)) spos.line env=pure true:=by
 show(pure (env.blockKind==.function&&env.kindOf nm==rc .local&&p2.line==pos.line && !(csc.names.any λ(n,k)=>n==nm&&(k==.local||k==.cell))):Sem Bool)=_;rw[hp,hn,O.loc nm hl];unfold Env.blockKind;rw[O.kind];rfl
theorem z19 (C:CfgOk c){ev:M V}{x:Nat}{nm:Str}{p2:Pos}{A:qZ}{fs:List Env}{env:Env}{X U:List Addr}{J:MH}{l:Loc}{s:Shared}(hX:env.locals∈X)(F:Fst c sc env cx.cl U l s.heap)(hn:c.nm x=nm)(hl:sc.names.lookup nm=rc .local)
  {Q:VP}{E:VP}
  (ok:∀ a J' U' s',ev J = .ok a J'->St c fs U' J' s'.heap->Evo fs X U s.heap U' s'.heap->Fst c sc env cx.cl U' (l.put x a) s'.heap->Oth s s'->Q .none s'):
  ∀ outs Jfin U' s' own D C,ev J = .ok (.ref Jfin.n) (Jfin.push (.lst outs))->CK c s own D C->St c fs U' Jfin s'.heap->Evo fs [] U s.heap U' s'.heap->Oth s s'->(∃ vs m,s'.heap.get? D=rc (bI vs m)/\VRs c U' s'.heap outs vs)->D∉U'->
   (∃ m,s'.heap.Ns C m)->C∉U'->c.base.get? C=re->dU (model c.prog c.w) A E (rc (assign (.Name nm p2) env)) Q (.ref D) C (.ok .next) s':=by
 rintro outs Jfin U' s' own D Cc e K S' E' O' ⟨vs,k,hD,rv⟩ nD ⟨m,hm⟩ nC bC;subst hn;have frD:D∉frs fs:=λm=>by
  obtain⟨_,_,o,es,n,e1,e2⟩:=S'.fr.mem m;replace hD:=e1▸hD;cases hD;cases e2
 have S1:St c fs (U'++[D]) (Jfin.push (.lst outs)) s'.heap:=S'.own hD nD K.bD frD (.lst (rv.imp λ_ _ z=>z.mono (λa x e=>by rw[oO (List.getElem?_eq_some_iff.mp e).1];exact e) λ_ _ e _=>e));have E1:Evo fs [] U s.heap (U'++[D]) s'.heap:=E'.own K.D0;have F1:=F.evo E1 (by simp);have r1:VR c (U'++[D]) s'.heap (.ref Jfin.n) (.ref D):=.ref (by rw[S'.len];simp);refine el12 F1.ns λm1 hm1 hv1=>?_
 have LC:env.locals≠Cc:=λq=>by
  refine el12 F.ns λm0 hz1 _=>?_;obtain⟨o,_,_,ho,_⟩:=hz1
  simp only[q,K.C0] at ho;cases ho
 refine wpF.of (wpAny_assign_Name (pf (F.ok.loc _ hl) hm1 (λh2 hn2 hs2=>?_) (by refine F.ok.kind▸?_;rfl)));refine bX (S1.named (X:=[env.locals]) F1.own F1.base (by simp) (Heap.Ns.dict hm1) (Heap.Ns.dict hn2) λb o n e=>hs2.extBut b o n e) λS2 E2=>?_
 have hmC:h2.Ns Cc m:=hm.sameBut hs2 (qY LC);refine bf m hmC (λh3 m' hn3 hs3=>?_);have nC':Cc∉U'++[D]:=λq=>by
  refine Or.elim (List.mem_append.mp q) (λz=>?_) (λz=>?_)
  ·exact nC z
  ·simp at z;exact K.DC z.symm
 refine bX (S2.named (X:=[Cc]) nC' bC (by simp) (Heap.Ns.dict hmC) (Heap.Ns.dict hn3) λb o n e=>hs3.extBut b o n e) λS3 E3=>?_
 have E12:Evo fs [env.locals] U s.heap (U'++[D]) h2:=(E1.wider (by simp)).trans E2;have E13:Evo fs [env.locals] U s.heap (U'++[D]) h3:=E12.later E3 λy my=>.inr (by simp at my;obtain rfl:=my.symm;exact K.C0)
 refine ok _ _ _ _ e S3 (E13.wider (by simpa using hX)) ⟨F.ok,⟨_,hn2.sameBut hs3 LC,λy u q=>?_⟩,F1.own,F.base,F1.cells⟩ (O'.trans ⟨rfl,rfl⟩);show ∃ v',(if c.nm y=c.nm x then rc (.ref D) else m1 (c.nm y))=rc v'/\_;rw[Loc.put_eq] at q
 by_cases ey:y=x
 ·obtain rfl:=ey.symm
  rw[if_pos rfl] at q ⊢
  cases q
  exact bf _ rfl ((r1.evo E2).evo E3)
 ·rw[if_neg ey] at q
  rw[if_neg (λz=>ey (C.nm _ _ z))];refine el12 (hv1 y u q) λv' e1 e2=>?_
  exact bf v' e1 ((e2.evo E2).evo E3)
theorem z3l (C:CfgOk c){el:E}{t:Tg}{it:Ite}{tup:Bool}{piter pel pt:Expr}{pos p2 spos:Pos}{x:Nat}{nm:Str}(hn:c.nm x=nm)(hl:sc.names.lookup nm=rc .local)(hp:(p2.line==pos.line)=rg)(hny:(csc.names.any λ(n,k)=>n==nm&&(k==.local||k==.cell))=rj)
  (H:CSc sc csc)(hit:dH c n cx sc it tup piter)(htup:tup=rg->bv pt=rg)(ht:cj c n cx csc t pt)(he:ar c n cx csc el pel)(hs:∀ env x,pO piter env x=pure x):
  aK c n cx sc (.assign (.loc x) (.comp el t it)) (.Assign [.Name nm p2] (.ListComp pel [⟨pt,piter,[],0⟩] csc pos) spos):=by
 intro A fs Rm env X U J l s hA hX F;rw[exec_Assign_Name_used _ _ _ _ (z2V F.ok hl hp hny)];refine Sat.standAt ?_;intro Q E S nb ok ex;have e0:exS cx (.assign (.loc x) (.comp el t it)) l J=match evE cx (.comp el t it) l J with | .ok v J'=>.ok (.next,l.put x v) J' | .exc c J'=>.exc c J' | .bad=>.bad:=by
  show M.bind (evE cx (.comp el t it) l) _ J=_;unfold M.bind;cases evE cx (.comp el t it) l J <;> rfl
 rw[e0] at nb ok ex
 refine a9 (a9 (ao (fL (turn:=k7 cx t el) (X:=[]) (Q:=λ_ s'=>Q .next s') Rm (by simp) F H hit (hs env) (λK hl hR I q=>z22 Rm ht he htup K hl hR I q (List.nil_append _)) rfl S (λq=>nb ?_) (λj J' U' e s' q F O=>ex j J' U' e s' ?_ (F.wider (by simp)) O) (z19 C hX F hn hl λa J' U' s' q S' E' F' O=>ok (.next,l.put x a) _ _ _ _ ?_ S' E' ⟨.next,F'⟩ O)) (λ_ s' q=>ac (ac q)) λ_ _ z=>z))
 ·rw[show evE cx (.comp el t it) l J=_ from q]
 ·rw[show evE cx (.comp el t it) l J=_ from q]
 ·rw[show evE cx (.comp el t it) l J=_ from q]
theorem z2f (C:CfgOk c){el k:E}{t:Tg}{it:Ite}{tup:Bool}{piter pel pt pk:Expr}{pos p2 spos:Pos}{x:Nat}{nm:Str}(hn:c.nm x=nm)(hl:sc.names.lookup nm=rc .local)(hp:(p2.line==pos.line)=rg)(hny:(csc.names.any λ(n,k)=>n==nm&&(k==.local||k==.cell))=rj)
  (H:CSc sc csc)(hit:dH c n cx sc it tup piter)(htup:tup=rg->bv pt=rg)(ht:cj c n cx csc t pt)(he:ar c n cx csc el pel)(hk:f6 c n cx csc k pk)(hs:∀ env x,pO piter env x=pure x):
  aK c n cx sc (.assign (.loc x) (.compIf el t it k)) (.Assign [.Name nm p2] (.ListComp pel [⟨pt,piter,[pk],0⟩] csc pos) spos):=by
 intro A fs Rm env X U J l s hA hX F;rw[exec_Assign_Name_used _ _ _ _ (z2V F.ok hl hp hny)];refine Sat.standAt ?_;intro Q E S nb ok ex;have e0:exS cx (.assign (.loc x) (.compIf el t it k)) l J=match evE cx (.compIf el t it k) l J with | .ok v J'=>.ok (.next,l.put x v) J' | .exc c J'=>.exc c J' | .bad=>.bad:=by
  show M.bind (evE cx (.compIf el t it k) l) _ J=_;unfold M.bind;cases evE cx (.compIf el t it k) l J <;> rfl
 rw[e0] at nb ok ex
 refine a9 (a9 (ao (fL (turn:=iH cx t el k) (X:=[]) (Q:=λ_ s'=>Q .next s') Rm (by simp) F H hit (hs env) (λK hl hR I q=>z23 Rm ht he hk htup K hl hR I q (List.nil_append _)) rfl S (λq=>nb ?_) (λj J' U' e s' q F O=>ex j J' U' e s' ?_ (F.wider (by simp)) O) (z19 C hX F hn hl λa J' U' s' q S' E' F' O=>ok (.next,l.put x a) _ _ _ _ ?_ S' E' ⟨.next,F'⟩ O)) (λ_ s' q=>ac (ac q)) λ_ _ z=>z))
 ·rw[show evE cx (.compIf el t it k) l J=_ from q]
 ·rw[show evE cx (.compIf el t it k) l J=_ from q]
 ·rw[show evE cx (.compIf el t it k) l J=_ from q]
end
end
section
section
variable {c:Cfg}{n:Nat}{cx:Cx}{sc:Scope}{A:qZ}{fs:List Env}{X U U':List Addr}{J J':MH}{s:Shared}{h h' h'':Heap}{k:Nat}{e:Value}{env:Env}{E:VP}{Q:Unit->Shared->Prop}{M:Model}
theorem FlyAt.moved {a:Addr}{B:Heap}{a0:Value}(F:FlyAt c fs X U h k J' U' a h' B a0)(k1:B.StaysIn h'')(k2:h''.FunFrames B fs)(k3:h'.UpToSlots h''):FlyAt c fs X U h k J' U' a h'' B a0:=by
 refine⟨k1,F.eB,k2,F.st,F.nfr,F.pre,F.fresh,F.keep,λb o e n1 n2=>?_,F.domB,F.frz⟩;by_cases m:b∈frs fs
 ·obtain⟨_,o1,e1,nf⟩:=F.frames.mem m
  obtain⟨sl,e2⟩:=F.slot b o e n1 n2;rw[e2] at e1;cases e1
  obtain⟨sl',e3⟩:=k3 b _ e2 nf;exact⟨sl',e3⟩
 ·exact⟨o.slots,k1 _ _ (F.keep b o e n1 n2 m)⟩
noncomputable def n9 (c:Cfg)(fs:List Env)(X U:List Addr)(h:Heap)(k:Nat)(J':MH)(U':List Addr)(e:Value)(h':Heap)(env:Env):Prop:=
 ∃ a B a0,e = .ref a/\h'.TracedAtW B a (.ref (c.cls k)) a0 (r7 env.locals)/\FlyAt c fs X U h k J' U' a h' B a0
theorem n9.fly (hA:Act fs env)(F:n9 c fs X U h k J' U' e h' env):Fly c fs X U h k J' U' e h':=
 (by obtain⟨a,B,a0,e1,e2,F⟩:=F;exact(by obtain⟨_,t⟩:=hA.top;exact⟨a,B,a0,e1,.held t hA.own e2,F⟩))
theorem z3T (Rm:Room n A fs)(hA:Act fs env)(F:Fly c fs X U h k J' U' e s.heap)(hq:∀ h'',n9 c fs X U h k J' U' e h'' env->Q () { s with heap:=h'' }):wpAny M A (noteFrame e env) Q E s:=by
 refine aw λ_ Z9=>?_
 refine lE F λa B a0 ez1=>?_;subst ez1;intro x F
 obtain⟨outer,ht⟩:=hA.top;refine Z9 ?_;have hfr:=Rm.frames;replace hfr:=ht▸hfr;have hl:=F.frames;simp only[ht] at hl
 have go:∀ h'',Heap.NotedW B (env:: outer) a (.ref (c.cls k)) a0 (r7 env.locals) s.heap h''->Q () { s with heap:=h'' }:=λh'' z=>by obtain⟨k1,k2,k3,k4⟩:=z;exact hq h'' ⟨a,B,a0,rfl,k3,F.moved k1 (by simp only[ht];exact k2) k4⟩
 induction x with
 | @new oe vs he hc hd h0 h1=>
  unfold noteFrame;rw[hA.own];refine bQ (λh=>qz he hd h1 h) ?_;refine wpAny_entryW hfr hl hA.own he F.stays F.eB hd (Array.getElem?_eq_some_iff.mp h1).1 h0 λh'' N=>go h'' ?_
  rw[hc] at N
  exact N
 | on t=>exact wpAny_noteFrame_onW hfr hl hA.own t F.stays F.eB go
 | @held env' outer' L t1 t2 t3=>
  replace t1:=ht▸t1;obtain⟨rfl,rfl⟩:=List.cons.inj t1;replace t2:=hA.own▸t2;cases t2;exact wpAny_noteFrame_againW hA.own t3 (hq s.heap ⟨a,B,a0,rfl,t3,F⟩)
theorem z93 (hA:Act fs env)(F:n9 c fs X U h k J' U' e s.heap env)(hq:∀ h'',n9 c fs X U h k J' U' e h'' env->Q () { s with heap:=h'' }):wpAny M A (do
  if(<-field e 1)==.none then unsupported "frame.own-activation:exception-without-traceback"
  setFlight e env.frame) Q E s:=by
 refine aw λ_ Z9=>?_
 refine lE F λa B a0 ez4=>?_;subst ez4;intro x F
 refine el59 x λoe vs T oT ts he hcls hd h1 hnT hTe hT hdT h3=>?_
 refine Z9 ?_;refine bQ (λh=>qz he hd h1 h) ?_;have hsz3:3<ts.size:=(Array.getElem?_eq_some_iff.mp h3).1;rw[hA.own];refine bQ (λh=>qz he hd h1 h) ?_;have other:∀ b,b≠T->(s.heap.update T (Obj.mapFields (·.setIfInBounds 3 ((rc env.locals:Option Addr).elim qI λf=>r7 f)))).get? b=s.heap.get? b:=
  λb hb=>oU _ _ (qY hb)
 have noRecord:∀ b o,s.heap.get? b=rc o->(∀ vs,o.data≠.fields vs)->b≠T:=λb o hb hnf q=>by
  rw[q,hT] at hb;injection hb with hb;subst hb;exact hnf ts hdT
 refine wpAny_setField hT hdT hsz3 (hq _ ⟨a,B,a0,rfl,?_,F.moved (λb o hbo=>(other b λq=>by simp only[q,hnT] at hbo;cases hbo).trans (F.stays b o hbo)) (F.frames.of_keeps λb o hb hnf=>⟨o,(other b (noRecord b o hb hnf)).trans hb,rfl⟩) λb o hb hnf=>⟨o.slots,(other b (noRecord b o hb hnf)).trans hb⟩⟩);exact in59 oe vs T _ _ ((other a (qY hTe)).trans he) hcls hd h1 hnT hTe (oY _ hT (Obj.isFreed_of_fields (Obj.data_mapFields hdT _))) (Obj.data_mapFields hdT _) (by simp[hsz3])
theorem z5e {E:VP}(Rm:Room n A fs)(hA:Act fs env)(F:Fly c fs X U h k J' U' e s.heap)(hq:∀ s',Fly c fs X U h k J' U' e s'.heap->Oth s s'->E e s'):gN M A env (λe s'=>mJ M A env E e s') e s:=by
 unfold gN;refine .of (z3T Rm hA F λh1 F1=>?_);unfold mJ;exact .of (z93 (s:={ s with heap:=h1 }) hA F1 λh2 F2=>hq _ (F2.fly hA) ⟨rfl,rfl⟩)
end
section
variable {c:Cfg}{n:Nat}{cx:Cx}{sc:Scope}{fs:List Env}{X U0:List Addr}{s0:Shared}{tup:Bool}{own:List Addr}{i:It}{it:Value}{env:Env}{U U':List Addr}{J J':MH}{rest rest':List V}{l l':Loc}{s s':Shared}
structure FK (s0:Shared)(X own:List Addr)(L:Addr):Prop where
 ownF:∀ b∈own,s0.heap.get? b=re
 Lw:L∉own
 LX:L∈X
structure FI (c:Cfg)(cx:Cx)(sc:Scope)(fs:List Env)(X U0:List Addr)(s0:Shared)(tup:Bool)(own:List Addr)(i:It)(it:Value)(env:Env)(U:List Addr)(J:MH)(rest:List V)(l:Loc)(s:Shared):Prop where
 st:St c fs U J s.heap
 evo:Evo fs X U0 s0.heap U s.heap
 oth:Oth s0 s
 it:ItAt c U s.heap tup own i rest it
 fst:Fst c sc env cx.cl U l s.heap
theorem FI.step (I:FI c cx sc fs X U0 s0 tup own i it env U J rest l s)(K:FK s0 X own env.locals)(S:St c fs U' J' s'.heap)(E:Evo fs [env.locals] U s.heap U' s'.heap)(O:Oth s s')(F:Fst c sc env cx.cl U' l' s'.heap):
  FI c cx sc fs X U0 s0 tup own i it env U' J' rest l' s':=
 ⟨S,I.evo.later E λy m=>.inl (by simp at m;subst m;exact K.LX),I.oth.trans O,I.it.evo I.st E λb m q=>K.Lw (by simp at q;subst q;exact m),F⟩
theorem FI.nextItem {A:qZ}{x:V}{pt:Expr}(I:FI c cx sc fs X U0 s0 tup own i it env U J (x:: rest) l s)(K:FK s0 X own env.locals){y:V}(hk:i.item x J = .ok y J)(ht:tup=rg->bv pt=rg){R:Shared->Prop}{G:VP}{E:VP}
  (h:∀ val s',FI c cx sc fs X U0 s0 tup own i it env U J rest l s'->VR c U s'.heap y val->G val s'):
  wpF (model c.prog c.w) A (pyNext it) (λr s₁=>match r with | none=>R s₁ | some v=>wpF (model c.prog c.w) A (qf pt it v) (λ_ s₂=>G v s₂) E s₁) E s:=by
 refine ao (.of (z2O (Q:=G) I.it I.st hk ht λval h' tk S' E' r J9=>h val _ ⟨S',I.evo.later E' λy m=>.inr (K.ownF y m),I.oth.trans ⟨rfl,rfl⟩,J9,I.fst.evo E' K.Lw⟩ r)) (λr s₁ z=>?_) λ_ _ z=>z
 induction r with
 | none=>exact z.elim
 | some v=>exact .of z
theorem FI.ended {A:qZ}(hh:A.handled=re)(I:FI c cx sc fs X U0 s0 tup own i it env U J [] l s)(K:FK s0 X own env.locals)(hk:i.stop J≠.bad){R:Shared->Prop}{G:VP}{E:VP}
  (h:∀ s',St c fs U J s'.heap->Evo fs X U0 s0.heap U s'.heap->Oth s0 s'->Fst c sc env cx.cl U l s'.heap->R s'):
  wpF (model c.prog c.w) A (pyNext it) (λr s₁=>match r with | none=>R s₁ | some v=>G v s₁) E s:=by
 refine ao (.of (z47 (Q:=λr s₁=>r=re/\R s₁) hh I.it I.st hk λh' S' kk=>⟨rfl,?_⟩)) (λr s₁ z=>?_) λ_ _ z=>z
 ·have nf:∀ b o,b∈own->s.heap.get? b=rc o->¬ aG o:=λb o m e=>I.it.free m e
  have fz:∀ b o,s.heap.get? b=rc o->aG o->h'.get? b=rc o:=λb o e f=>kk b o (λm=>nf b o m e f) e
  exact h _ S' (I.evo.ended K.ownF kk) (I.oth.trans ⟨rfl,rfl⟩) (I.fst.mono (λo e=>kk _ _ K.Lw e) fz)
 ·obtain⟨rfl,z⟩:=z
  exact z
theorem M.bind_eq {Y β:Type}(m:M Y)(f:Y->M β)(J:MH):(m >>= f) J=match m J with | .ok a J'=>f a J' | .exc c J'=>.exc c J' | .bad=>.bad:=by
 show M.bind m f J=_;unfold M.bind;cases m J <;> rfl
noncomputable abbrev gY (cx:Cx)(t:Tg)(body:Ss):V->Loc->M (Fl×Loc):=λx l=>do let l<-bindT cx t x l;exSs cx body l
theorem zcI {t:Tg}{ite:Ite}{body:Ss}{pt piter:Expr}{pbody:List Stmt}{pos:Pos}(hit:dH c n cx sc ite tup piter)(htup:tup=rg->bv pt=rg)(ht:cj c n cx sc t pt)(hb:iw c n cx sc body pbody)(hs:∀ env x,pO piter env x=pure x):
  aK c n cx sc (.loop t ite body) (.For pt piter pbody [] pos):=by
 intro A fs Rm env X U J l s hA hX F Q E S nb ok ex;generalize hr:exS cx (.loop t ite body) l J=r at nb ok ex
 replace hr:(evIt cx ite l >>= λi=>forLoop i (gY cx t body) i.items l) J=r:=hr;refine z9R ?_ (hs env);refine hit A fs Rm env [] U J l s (by simp) F _ _ S (λq=>nb (hr.symm.trans (iN q))) (λi J1 U1 itv s1 q1 S1 E1 rr O1=>?_) λk J' U' e s' q F O=>ex k J' U' e s' (hr.symm.trans (lD q)) (F.wider (by simp)) O
 refine el12 rr λown I1 fr=>?_
 replace hr:=(bnd q1).symm.trans hr;have K:FK s X own env.locals:=by
  refine⟨fr,λm=>?_,hX⟩;refine el12 F.ns λm0 hz1 _=>?_;refine mV hz1 λo _ _ ho _=>?_
  replace ho:=(fr _ m)▸ho;cases ho
 refine el12 (P0:=λINV:Nat->Shared->Prop=>∀ U' J' rest l' s',FI c cx sc fs X U s tup own i itv env U' J' rest l' s'->forLoop i (gY cx t body) rest l' J'=r->INV rest.length s')
  (P1:=λINV=>∀ k s',INV k s'->∃ U' J' rest l',rest.length=k/\FI c cx sc fs X U s tup own i itv env U' J' rest l' s'/\forLoop i (gY cx t body) rest l' J'=r) ⟨_,λ_ _ _ _ _ I e=>⟨_,_,_,_,rfl,I,e⟩,λ_ _ h=>h⟩ λINV hI hE=>?_
 refine z2B INV ?_ i.items.length (hI U1 J1 i.items l s1 ⟨S1,E1.wider (by simp),O1,I1,F.evo E1 (by simp)⟩ hr);intro k s' h;refine el43 (hE k s' h) λU' J' rest l' ek I hm=>?_
 refine aw λ_ Z9=>?_
 cases rest with
 | nil=>
  refine Z9 ?_;replace hm:(i.stop >>= λ_=>(pure (.next,l'):M (Fl×Loc))) J'=r:=hm;have hk:i.stop J'≠.bad:=λq=>nb (hm.symm.trans (iN q))
  exact I.ended Rm.handled K hk λs2 S2 E2 O2 F2=>ok (.next,l') J' U' .next s2 (hm.symm.trans (bnd (It.stop_inv hk).1)) S2 E2 ⟨.next,F2⟩ O2
 | cons x xs=>
  refine Z9 ?_;replace hm:(i.item x >>= λy=>((bindT cx t y l' >>= λl=>exSs cx body l) >>= λr=>match r with | (.next,l)=>forLoop i (gY cx t body) xs l | r=>(pure r:M (Fl×Loc)))) J'=r:=hm;refine el12 (It.item_inv (i:=i) (x:=x) (J:=J') λq=>nb (hm.symm.trans (iN q))) λy hk _=>?_
  replace hm:=(bnd hk).symm.trans hm;refine I.nextItem K hk htup λval s2 I2 rx=>?_
  refine ht A fs Rm env [env.locals] U' J' l' s2 y val (by simp) I2.fst rx _ _ I2.st (λq=>nb (hm.symm.trans (iN (iN q)))) (λl2 J3 U3 _ s3 q3 S3 E3 F3 O3=>?_) λk J3 U3 e s3 q3 F3 O3=>?_
  ·replace hm:=(bndC (bnd q3)).symm.trans hm
   have I3:=I2.step K S3 E3 O3 F3;refine hb A fs Rm env [env.locals] U3 J3 l2 s3 hA (by simp) F3 _ _ S3 (λq=>nb (hm.symm.trans (iN q))) (λr4 J4 U4 f s4 q4 S4 E4 rr O4=>?_) λk J4 U4 e s4 q4 F4 O4=>?_
   ·replace hm:=(bnd q4).symm.trans hm
    have I4:=I3.step K S4 E4 O4 rr.2;have rf:=rr.1;obtain⟨fl,l4⟩:=r4;cases rf with
    | next=>exact⟨xs.length,ek▸Nat.lt_succ_self _,hI _ _ _ _ _ I4 hm⟩
    | ret rv=>exact ok _ J4 U4 _ s4 hm.symm S4 I4.evo ⟨.ret rv,rr.2⟩ I4.oth
   ·refine z5e Rm hA (F4.later I3.evo λy m=>.inl (by simp at m;subst m;exact hX)) λs5 F5 O5=>ex k J4 U4 e s5 (hm.symm.trans (lD q4)) F5 ((I3.oth.trans O4).trans O5)
  ·refine z5e Rm hA (F3.later I2.evo λy m=>.inl (by simp at m;subst m;exact hX)) λs5 F5 O5=>ex k J3 U3 e s5 (hm.symm.trans (lD (lD q3))) F5 ((I2.oth.trans O3).trans O5)
end
end
section
section
variable {c:Cfg}{n:Nat}{cx:Cx}{sc:Scope}
theorem nM {o e:E}{po pe:Expr}{pos p2 p3:Pos}(ho:ar c n cx sc o po)(h:ar c n cx sc e pe)(hc:c8 pe=rg)(ht:gM pe=rg):
  aK c n cx sc (.all o e) (.Assign [.Subscript po (.Slice re re re p3) p2] pe pos):=by
 intro A fs Rm env X U J l s hA hX F;refine Sat.standAt ?_;rw[bY hc,z1n ht,bt rfl];show Sat c A fs X U J s _ _ (eval pe env >>= λv=>assign (.Subscript po (.Slice re re re p3) p2) env v >>= λ_=>pure Flow.next);refine Sat.bind2 (h.st Rm F) λv J1 U1 w s1 e1 S1 E1 rv F1=>?_
 simp only[arm_assign_Subscript];simp only[qJ];refine Sat.unhold (Sat.bind2 (ho.st Rm F1) λx J2 U2 ov s2 e2 S2 E2 ro F2=>?_);refine Sat.unhold ?_;show Sat c A fs X U2 J2 s2 _ _ ((pure qI >>= λlv=>holding [lv] (pure qI) >>= λuv=>holding [lv,uv] (pure .none) >>= λsv=>newFields "slice" [lv,uv,sv]) >>= _);simp only[qO];simp only[qJ];refine Sat.skip (b:=.none) (λQ E h=>qm (qF h)) (Sat.skip (b:=.none) (λQ E h=>qm (qF h)) ?_);refine Sat.makes (λb h'=>∃ sl,b = .ref sl/\h'.IsSliceOf sl .none .none .none) (λQ E q=>z46 (q _ _ s2.toks (λb o e=>oS _ e) ⟨_,rfl,Heap.IsSliceOf.new ..⟩)) λiv h' tk kk hs=>?_
 refine el12 hs λsl ez2=>?_;subst ez2;intro hs
 refine Sat.standAt (Sat.unhold (Sat.bind2 (Sat.st (z51 (ro.keeps kk) ((rv.evo E2).keeps kk) hs) (F2.keeps kk)) λu J3 U3 _ s3 e3 S3 E3 _ F3=>?_));exact Sat.any λQ E S _ ok _=>qE (wpAny_release (qF (ok _ _ _ _ _ rfl S .refl ⟨.next,F3⟩)))
noncomputable def hJ (env:Env)(line:Nat):Expr->Option Str
 | .Name id pos=>if env.kindOf id==rc .local&&pos.line==line then rc id else re
 | _=>re
theorem z7f {env:Env}{line:Nat}(O:EnvOk sc env)(t:Expr):zac sc t=rg->hJ env line t=none:=by
 cases t with
 | Name nm pp=>
  intro h;refine if_neg λq=>?_
  cases(O.cel nm ((Bool.or_eq_true_iff.mp h).imp qL qL)) with
  | inl z=>replace q:=z▸q;cases q
  | inr z=>replace q:=z▸q;cases q
 | _=>exact λ_=>rfl
theorem z52 {env:Env}{line:Nat}(O:EnvOk sc env)(ts:List Expr)(h:hH sc ts=rg):(ts.filterMap (hJ env line)).length<ts.length:=
 have⟨t,m,h⟩:=List.any_eq_true.mp h
 List.length_filterMap_lt_length_iff_exists.mpr ⟨t,m,z7f O t h⟩
theorem zcl {Y:Type}{p:Prop} [Decidable p]{a b x:Y}(h1:p->a=x)(h2:¬p->b=x):(if p then a else b)=x:=by
 by_cases h:p
 ·rw[if_pos h];exact h1 h
 ·rw[if_neg h];exact h2 h
theorem z3n {ts vs:List Expr}{k k2:_}{p p2:Pos}{env:Env}(O:EnvOk sc env)(h:hH sc ts=rg):swappedStores [.Tuple ts k p] (.Tuple vs k2 p2) env=pure none:=by
 have key:=z52 (line:=(ts.head?.map (·.pos.line)).getD 0) O ts h;unfold swappedStores;dsimp only;refine zcl (λ_=>rfl) λ_=>zcl (λ_=>rfl) λ_=>if_pos ?_
 exact Bool.or_eq_true_iff.mpr (.inl (bne_iff_ne.mpr (qq key)))
theorem mA {t:Tg}{e:E}{pt pe:Expr}{pos:Pos}(ht:cj c n cx sc t pt)(hp:aR pt=rg)(h:ar c n cx sc e pe)(hc:c8 pe=rg)(hs:gM pe=rg):aK c n cx sc (.tupE t e) (.Assign [pt] pe pos):=
 λA fs Rm env X U J l s hA hX F=>aq ht hp h (by unfold jJ;rw[hc];rfl) hs A fs Rm env X U J l s hA hX F
theorem z7n {cx:Cx}{l:Loc}{P:E->Expr->Prop}{es:Es}{pes:List Expr}(r:EsR P es pes):∀ {J J':MH}{vs:List V},evEs cx es l J = .ok vs J'->vs.length=pes.length:=by
 induction r with
 | nil=>intro J J' vs e;cases e;rfl
 | @cons e es pe pes he hes ih=>
  intro J J' vs q;replace q:M.bind (evE cx e l) (λv=>M.bind (evEs cx es l) λvs=>M.ret (v:: vs)) J = .ok vs J':=q;unfold M.bind at q
  cases q1:evE cx e l J with
  | ok v J1=>
   replace q:=q1▸q;dsimp only at q
   cases q2:evEs cx es l J1 with
   | ok vs' J2=>
    replace q:=q2▸q;cases q;exact congrArg (· + 1) (ih q2)
   | _=>replace q:=q2▸q;cases q
  | _=>replace q:=q1▸q;cases q
theorem z1W {env:Env}:∀ {pts:List Expr},au pts=rg->assignEach pts env=pts.map λp=>(rj,assign p env):=by
 intro pts
 induction pts with
 | nil=>intro _;rfl
 | cons p r ih=>
  intro h;have h:=Bool.and_eq_true_iff.mp (show(aR p&&au r)=rg from h);rw[bt h.1,ih h.2];rfl
theorem z7F {ts:List Tg}{pts:List Expr}(ht:All2 (cj c n cx sc) ts pts){A:qZ}{fs:List Env}(Rm:Room n A fs){env:Env}{X:List Addr}(hX:env.locals∈X):∀ {vs:List V}{ws:List Value}{U:List Addr}{J:MH}{l:Loc}{s:Shared},
  Fst c sc env cx.cl U l s.heap->VRs c U s.heap vs ws->Sat c A fs X U J s (dI cx ts vs l J) (λU h l' _=>Fst c sc env cx.cl U l' h) (assignInOrder (pts.map λp=>assign p env) ws):=by
 induction ht with
 | nil=>
  intro vs ws U J l s F r
  induction r with
  | nil=>exact Sat.pure F
  | cons _ _=>exact ap
 | @cons t p ts pts h _ ih=>
  intro vs ws U J l s F r
  induction r with
  | nil=>exact ap
  | @cons v w vs ws rv r=>
   show Sat c A fs X U J s ((bindT cx t v l >>= λl=>dI cx ts vs l) J) _ (holding ws (assign p env w) >>= λ_=>assignInOrder (pts.map λp=>assign p env) ws);exact Sat.unhold (Sat.bind (h A fs Rm env X U J l s v w hX F rv) λl1 J1 U1 _ s1 e1 S1 E1 F1=>ih F1 (VRs.evo E1 r))
theorem z3f {env:Env}:∀ pts:List Expr,(pts.map λp=>(rj,assign p env)).findIdx? (·.1)=none:=λpts=>by
 induction pts with
 | nil=>rfl
 | cons p r ih=>rw[ql,List.findIdx?_cons,ih];rfl
theorem z38 {pts:List Expr}{k:_}{pp:Pos}{env:Env}{v:Value}(hp:au pts=rg):assign (.Tuple pts k pp) env v=(standAt pp >>= λ_=>holding [v] (unpackItems v pts.length re) >>= λxs=>assignInOrder (pts.map λp=>assign p env) xs):=by
 rw[arm_assign_Tuple,z1W hp];unfold unpack;rw[z3f,qg,List.map_map];rfl
theorem dR {ts:List Tg}{es:Es}{pts qs:List Expr}{k k2:_}{pos pp pq:Pos}(ht:All2 (cj c n cx sc) ts pts)(hp:au pts=rg)(he:EsR (ar c n cx sc) es qs)(hq:au qs=rg)(hs:hH sc pts=rg)(hl:pts.length=qs.length)(hz:qs.length<=100):
  aK c n cx sc (.tupL ts es) (.Assign [.Tuple pts k pp] (.Tuple qs k2 pq) pos):=by
 intro A fs Rm env X U J l s hA hX F;refine Sat.standAt ?_;rw[bY rfl,z3n F.ok hs,bt rfl];show Sat c A fs X U J s _ _ ((standAt pq >>= λ_=>spliced (r9 pq (qT qs env)) >>= λvs=>newTuple vs) >>= λv=>assign (.Tuple pts k pp) env v >>= λ_=>pure Flow.next);simp only[qJ];refine Sat.standAt (Sat.bind2 (Sat.st (jX he hq A fs Rm env [] U J l s (by simp) F) F) λvs J1 U1 ws s1 e1 S1 E1 rv F1=>?_);have hlen:ws.length=pts.length:=by simp only[<-rv.length,z7n he e1,hl]
 have sl:=qx;refine Sat.makes (λb h'=>∃ x,b = .ref x/\h'.get? x=rc { cls:=.type "tuple",data:=.seq ws.toArray }) (λQ E q=>wpAny_newTuple (q _ _ s1.toks (λb o e=>oS _ e) ⟨_,rfl,pA _ rfl⟩) (by lia)) λv h' tk kk hv=>?_
 refine el12 hv λx ez6=>?_;subst ez6;intro hx
 rw[z38 hp,<-hlen,<-pM];simp only[qJ];refine Sat.standAt ?_;refine Sat.makes (λb _=>b=ws) (λQ E q=>qm (wpAny_unpackItems_tuple (items:=ws.toArray) Rm.handled ⟨_,hx,rfl,_,rfl⟩ λh2 k2=>q _ h2 tk (λb o e=>k2 b o (qq (qp e)) e) rfl)) λxs h2 tk2 kk2 e=>?_
 obtain rfl:=e.symm;exact Sat.bind (z7F ht Rm hX ((F1.keeps kk).keeps kk2) ((rv.imp λ_ _ z=>(z.keeps kk).keeps kk2))) λl2 J2 U2 _ s2 e2 S2 E2 F2=>Sat.pure ⟨.next,F2⟩
theorem zaM {f:Expr->Bool}(hf:∀ q,aR q=rg->f q=rj){q1 q2:Expr}(hs:au [q1,q2]=rg):¬ [q1,q2].any f=true:=by
 have a:=Bool.and_eq_true_iff.mp (show(aR q1&&au [q2])=rg from hs);have b:=Bool.and_eq_true_iff.mp (show(aR q2&&au [])=rg from a.2);show ¬ (f q1||(f q2||false))=rg;rw[hf q1 a.1,hf q2 b.1];exact pE
theorem z4o {na nb:Str}{pa pb:Pos}{q1 q2:Expr}{k k2:_}{pp pq:Pos}{env:Env}(O:EnvOk sc env)(la:sc.names.lookup na=rc .local)(lb:sc.names.lookup nb=rc .local)(hl:(pb.line==pa.line)=rg)(hne:na≠nb)
  (hs:au [q1,q2]=rg)(hf:[q1,q2].all (foldedForSure 8)=rj)(hk:[q1,q2].all (constantsAlone 8)=rj):swappedStores [.Tuple [.Name na pa,.Name nb pb] k pp] (.Tuple [q1,q2] k2 pq) env=pure (rc [na,nb]):=by
 unfold swappedStores;dsimp only;have h1:env.blockKind = .function:=by unfold Env.blockKind;rw[O.kind];rfl
 rw[if_neg (by rw[h1];exact pE),if_neg (zaM (λq=>by cases q <;> first | exact λ_=>rfl | exact pY) hs)];have f1:hJ env pa.line (.Name na pa)=rc na:=if_pos (Bool.and_eq_true_iff.mpr ⟨beq_iff_eq.mpr (O.loc na la),beq_self_eq_true _⟩);have f2:hJ env pa.line (.Name nb pb)=rc nb:=if_pos (Bool.and_eq_true_iff.mpr ⟨beq_iff_eq.mpr (O.loc nb lb),hl⟩);have hN:List.filterMap (hJ env pa.line) [.Name na pa,.Name nb pb]=[na,nb]:=(List.filterMap_cons_some f1).trans (congrArg _ (List.filterMap_cons_some f2))
 have hd:[na,nb].eraseDups.length=2:=by
  have:(nb==na)=false:=by simpa using qY hne
  simp[List.eraseDups_cons,this]
 have key:∀ N:List Str,N=[na,nb]->¬(N.length != 2||N.eraseDups.length != N.length)=true:=λN e=>by subst e;rw[hd];exact pE
 refine(if_neg (key _ hN)).trans ((if_neg (by rw[hf];exact pE)).trans ((if_neg (by rw[hk];exact pE)).trans ?_))
 exact congrArg (λx=>pure (rc x)) hN
theorem Loc.put_swap {l:Loc}{a b:Nat}{x y:V}(h:a≠b):(l.put a x).put b y=(l.put b y).put a x:=by
 funext k
 simp only[Loc.put_eq];by_cases h1:k=a
 ·subst h1;rw[if_neg h,if_pos rfl];simp
 ·by_cases h2:k=b
  ·subst h2;simp[h1]
  ·simp[h1,h2]
theorem z3B {A:qZ}{fs:List Env}{X U:List Addr}{J:MH}{s:Shared}{env:Env}{cx:Cx}{l:Loc}{x:Nat}{v:V}{w:Value}(C:CfgOk c)(hX:env.locals∈X)(hl:sc.names.lookup (c.nm x)=rc .local)(F:Fst c sc env cx.cl U l s.heap)(r:VR c U s.heap v w):
  Sat c A fs X U J s (.ok (l.put x v) J) (λU h l' _=>Fst c sc env cx.cl U l' h) (bindName env (c.nm x) w):=by
 refine Sat.any λQ E S _ ok _=>?_
 refine el12 F.ns λm hm hv=>?_
 refine qE (qm (wpAny_point (qE (pf (F.ok.loc _ hl) hm (λh' hn hs=>wpAny_point ?_) (by refine F.ok.kind▸?_;rfl)))));refine bX (S.named (X:=X) F.own F.base hX (Heap.Ns.dict hm) (Heap.Ns.dict hn) λb o n e=>hs.extBut b o n e) λS' E'=>?_
 refine ok _ _ _ _ _ rfl S' E' ⟨F.ok,⟨_,hn,λy u q=>?_⟩,F.own,F.base,F.cells⟩;show ∃ v',(if c.nm y=c.nm x then rc w else m (c.nm y))=rc v'/\_;rw[Loc.put_eq] at q
 by_cases e:y=x
 ·obtain rfl:=e.symm
  rw[if_pos rfl] at q ⊢
  cases q
  exact bf w rfl (r.evo E')
 ·rw[if_neg e] at q
  rw[if_neg (λz=>e (C.nm _ _ z))];refine el12 (hv y u q) λv' e1 e2=>?_
  exact bf v' e1 (e2.evo E')
theorem z9s (C:CfgOk c){a b:Nat}{na nb:Str}{pa pb:Pos}{e1 e2:E}{q1 q2:Expr}{k k2:_}{pos pp pq:Pos}(ha:c.nm a=na)(hb:c.nm b=nb)(la:sc.names.lookup na=rc .local)(lb:sc.names.lookup nb=rc .local)(hl:(pb.line==pa.line)=rg)(hne:na≠nb)
  (hs:au [q1,q2]=rg)(hf:[q1,q2].all (foldedForSure 8)=rj)(hk:[q1,q2].all (constantsAlone 8)=rj)(g1:ar c n cx sc e1 q1)(g2:ar c n cx sc e2 q2):
  aK c n cx sc (.tupL [.loc a,.loc b] (.cons e1 (.cons e2 .nil))) (.Assign [.Tuple [.Name na pa,.Name nb pb] k pp] (.Tuple [q1,q2] k2 pq) pos):=by
 have e0:∀ l,exS cx (.tupL [.loc a,.loc b] (.cons e1 (.cons e2 .nil))) l=(evE cx (.t2 e1 e2) l >>= λv=>(match v with
  | .t2 x y=>(pure (.next,(l.put a x).put b y):M (Fl×Loc))
  | _=>M.bad:M (Fl×Loc))):=λl=>by
  show((evE cx e1 l >>= λv=>(evE cx e2 l >>= λv'=>(pure []:M (List V)) >>= λvs=>pure (v':: vs)) >>= λvs=>pure (v:: vs)) >>= λvs=>dI cx [.loc a,.loc b] vs l >>= λl=>(pure (.next,l):M (Fl×Loc))) =
   ((evE cx e1 l >>= λx=>evE cx e2 l >>= λy=>(pure (V.t2 x y):M V)) >>= _)
  simp -iota only[M.assoc];rfl
 have hab:a≠b:=λq=>hne (by simp only[<-ha,<-hb,q])
 intro A fs Rm env X U J l s hA hX F;rw[e0,arm_exec_Assign];refine Sat.standAt ?_;rw[bY rfl,z4o F.ok la lb hl hne hs hf hk];show Sat c A fs X U J s _ _ (eval (.Tuple [q1,q2] k2 pq) env >>= λv=>rule "assign.swapped-stores" >>= λ_=>unpackItems v 2 re >>= λitems=>assignInOrder [bindName env nb,bindName env na] items.reverse >>= λ_=>pure Flow.next);refine Sat.bind2 ((z8x g1 g2 hs).st Rm F) λv J1 U1 w s1 e1 S1 E1 rv F1=>Sat.rule ?_
 induction rv with
 | @t2 xx va vb wa wb hx ra rb=>
  refine Sat.makes (λb _=>b=[wa,wb]) (λQ E q=>wpAny_unpackItems_tuple (items:=#[wa,wb]) Rm.handled ⟨_,hx,rfl,_,rfl⟩ λh' kk=>q _ h' s1.toks (λb o e=>kk b o (qq (qp e)) e) rfl) λxs h' tk kk e=>?_
  subst e;show Sat c A fs X U1 J1 _ (R.ok (Fl.next,(l.put a va).put b vb) J1) _ ((holding [wa] (bindName env nb wb) >>= λ_=>(holding [] (bindName env na wa) >>= λ_=>pure ())) >>= λ_=>pure Flow.next);simp only[qJ];subst ha hb;refine Sat.unhold ?_;refine(Loc.put_swap hab)▸?_;have m0:(R.ok (Fl.next,(l.put b vb).put a va) J1:R (Fl×Loc))=((λJ=>R.ok (l.put b vb) J:M Loc) >>= λl1=>((λJ=>R.ok (l1.put a va) J:M Loc) >>= λl2=>(pure (Fl.next,l2):M (Fl×Loc)))) J1:=rfl;simp only[m0];refine Sat.bind (z3B C hX lb (F1.keeps kk) (rb.keeps kk)) λl1 J2 U2 _ s2 e2 S2 E2 F2=>Sat.unhold ?_
  exact Sat.bind (z3B C hX la F2 ((ra.keeps kk).evo E2)) λl2 J3 U3 _ s3 e3 S3 E3 F3=>Sat.skip (b:=()) (λQ E h=>qF h) (Sat.pure ⟨.next,F3⟩)
 | _=>exact ap
end
end
section
section
variable {prog:qW}{w:World}{A:qZ}{s:Shared}{R:r6->Shared->Prop}
theorem z4A {body env}
  (h:wpF (model prog w) (A.deeper env) (execs body env) (λf s'=>R (.ok (.ret (match f with | .ret v=>v | _=>.none))) s')
   (λe s'=>wpF (model prog w) (A.deeper env) (leaving env e) (λ_ s''=>R (.error e) s'') (λe' s''=>R (.error e') s'') s') s):
  bo (model prog w) A (.func body env) R s:=by
 refine aT ?_;show wpF _ (A.deeper env) (do point;match<-(execs body env).onRaise (leaving env) with | .ret v=>ret v | _=>ret .none) _ _ s;refine bH (λhh=>.of (wpAny_point hh)) ?_;refine a9 (λΓ p hΓ c=>?_);rw[Sem.wp_onRaise];refine Sem.wp_mono _ Γ _ (λf p' s' h'=>?_) (λe p' s' h'=>h' Γ p' hΓ c) p s (h Γ p hΓ c);cases f <;> exact λΓ p a b=>h'
noncomputable def jd (b:FuncBody)(env:Env):Code:=match b with | .stmts b=>.func b env | .expr e=>.expr e env
theorem z1a {b:FuncBody}{env:Env}:(jd b env).quiet=rg/\cb (jd b env)=true:=by cases b <;> exact⟨rfl,rfl⟩
theorem z0a {a:Addr}{args:Args}{o:Obj}{fd:qR}(hroom:A.depth<recursionLimit)
  (ho:s.heap.get? a=rc o)
  (hd':o.data = .func fd)(hco:fd.scope.isCoroutine=rj)(hgen:fd.scope.isGenerator=rj)(hcd:s.heap.CodeRec fd.code fd.qualname)
  (h:wpF (model prog w) A.in1 (bindArgs fd args) (λbinds s₁=>
   wpF (model prog w) A.in1 (newFunctionEnv fd.scope fd.globals fd.closure binds (fd.qualname ++ ".<locals>.") (rc a) fd.code re fd.builtins)
    (λenv s₂=>s₂.heap.NoLimit/\bo (model prog w) A (jd fd.body env) R s₂) (λe s'=>R (.error e) s') s₁) (λe s'=>R (.error e) s') s):
  bo (model prog w) A (.call (.ref a) args) R s:=by
 refine aT ?_;show wpF _ A.in1 (callAny (.ref a) args) _ _ s;unfold callAny;refine bH (λh=>.of (qG ho h)) ?_;refine aw λ_ Z9=>?_
 obtain⟨c,oc,vs,tq,hc,hoc,hdc,hq⟩:=hcd;refine Z9 ?_;rw[hd'];show wpF _ _ (callFunction a fd args) _ _ _;unfold callFunction;rw[hc] at h ⊢
 refine a9 (m:=field (.ref c) 1) (.of (qz hoc hdc hq ?_));refine bH (λh=>ac h) ?_;refine a9 (ao h (λbinds s₁ h₁=>a9 (ao h₁ (λenv s₂ h₂=>bH (λh=>.of (wpAny_enterFrame h₂.1 hroom h)) ?_) λ_ _ h'=>h')) λ_ _ h'=>h');rw[hgen,hco];exact ac (And.intro z1a.1 (And.intro z1a.2 h₂.2))
theorem z4z {e:Expr} {env}
  (h:wpF (model prog w) (A.deeper env) (eval e env) (λv s'=>R (.ok (.ret v)) s')
   (λe' s'=>wpF (model prog w) (A.deeper env) (leaving env e') (λ_ s''=>R (.error e') s'') (λe'' s''=>R (.error e'') s'') s') s):
  bo (model prog w) A (.expr e env) R s:=by
 refine aT ?_;show wpF _ (A.deeper env) (do point;ret (<-(eval e env).onRaise (leaving env))) _ _ s;refine bH (λh=>.of (wpAny_point h)) ?_;refine a9 (λΓ p hΓ c=>?_);rw[Sem.wp_onRaise];exact Sem.wp_mono _ Γ _ (λf p' s' h'=>λΓ p a b=>h') (λe p' s' h'=>h' Γ p' hΓ c) p s (h Γ p hΓ c)
end
section
variable {c:Cfg}{A:qZ}{fs:List Env}{X U:List Addr}{J:MH}{h:Heap}
theorem l5 (C:CfgOk c):∀ (names:List (Str×qV))(xs:List Nat)(acc:List (Str×Addr))(cl:Nat->Option Nat)(U:List Addr)(J:MH)(h:Heap),(names.filter (·.2==.cell)).map (·.1)=xs.map c.nm->St c fs U J h->
  (∀ x a,cl x=rc a->∃ y,acc.lookup (c.nm x)=rc y/\U[a]? = rc y)->
  ∃ U' J' cl',dz xs cl J = .ok cl' J'/\St c fs U' J' (pushCells h names)/\Evo fs X U h U' (pushCells h names)/\(∀ x a,cl' x=rc a->∃ y,(cellsFrom h.objs.size names acc).lookup (c.nm x)=rc y/\U'[a]? = rc y)/\
   (∀ x,(cl' x).isSome=((cl x).isSome||decide (x∈xs)))
 | []=>by
  intro xs acc cl U J h e S hc;have:xs=[]:=by induction xs with | nil=>rfl | cons _ _=>simp at e
  subst this;exact zch U J cl rfl S .refl hc (λx=>by simp)
 | (name,kind):: r=>by
  intro xs acc cl U J h e S hc;unfold cellsFrom pushCells;by_cases hk:(kind==qn)=rg
  ·rw[if_pos hk,if_pos hk]
   rw[pS,if_pos hk] at e
   cases xs with
   | nil=>simp at e
   | cons x xs=>
    simp only[ql,List.cons.injEq] at e
    refine bX e λen e=>?_
    have hsz:(h.push { cls:=.type "cell",data:=.cell re }).objs.size=h.objs.size+1:=Heap.size_push ..;refine oq (l5 C r xs ((name,h.objs.size):: acc) (λy=>if y=x then rc J.n else cl y) (U++[h.objs.size]) (J.push (.cell re)) (h.push { cls:=.type "cell",data:=.cell re }) e (S.alloc rfl .cell0) (λy a ea=>?_)) λU' J' cl' q1 q2 q3 q4 q5=>?_
    ·by_cases z:y=x
     ·replace ea:=(if_pos z)▸ea
      cases ea
      exact bf h.objs.size (by rw[z,<-en];exact List.lookup_cons_self) (by rw[S.len];simp)
     ·rw[if_neg z] at ea
      refine el12 (hc y a ea) λu e1 e2=>?_
      refine⟨u,?_,by rw[oO (List.getElem?_eq_some_iff.mp e2).1];exact e2⟩;simp only[qa,show(c.nm y==name)=rj from by simpa [en] using λq=>z (C.nm _ _ q)];exact e1
    ·replace q4:=hsz▸q4
     refine zch U' J' cl' q1 q2 ((Evo.alloc _).trans q3) q4 (λy=>?_);rw[q5 y];by_cases z:y=x
     ·obtain rfl:=z.symm;simp
     ·rw[if_neg z];simp[z]
  ·rw[if_neg hk,if_neg hk]
   rw[pS,if_neg hk] at e
   exact l5 C r xs acc cl U J h e S hc
theorem hW:∀ (names:List (Str×qV))(k:Addr)(acc:List (Str×Addr))(n:Str),((n,qn)∈names∨∃ y,acc.lookup n=rc y)->∃ y,(cellsFrom k names acc).lookup n=rc y
 | []=>by
  intro _ _ _ h
  rcases h with z | z
  ·simp at z
  ·exact z
 | (name,kind):: r=>by
  intro k acc n h;unfold cellsFrom;by_cases hk:(kind==qn)=rg
  ·rw[if_pos hk]
   refine hW r _ _ n ?_;by_cases z:n=name
   ·subst z;exact .inr ⟨k,List.lookup_cons_self⟩
   ·rcases h with q | q
    ·rcases List.mem_cons.mp q with q | q
     ·cases q;exact absurd rfl z
     ·exact .inl q
    ·right
     simp only[qa,show(n==name)=rj from by simpa using z];exact q
  ·rw[if_neg hk]
   refine hW r _ _ n ?_
   rcases h with q | q
   ·rcases List.mem_cons.mp q with q | q
    ·cases q;exact absurd rfl hk
    ·exact .inl q
   ·exact .inr q
theorem fe (C:CfgOk c){sc:Scope}{env:Env}{cl:Nat->Option Nat}(hX:env.locals∈X)(f:Str×Value->PUnit->Sem (ForInStep PUnit))(hf:∀ n v u,f (n,v) u=(do storeName env n v;pure (.yield ⟨⟩))):
  ∀ (ps:List Nat)(vs:List V)(vals:List Value)(l:Loc)(U:List Addr)(J:MH)(s:Shared),(∀ p∈ps,((cl p).isSome=rj->sc.names.lookup (c.nm p)=rc .local)/\((cl p).isSome=rg->sc.names.lookup (c.nm p)=rc .cell))->Fst c sc env cl U l s.heap->VRs c U s.heap vs vals->
  Sat c A fs X U J s (bx cl ps vs l J) (λU h l' _=>Fst c sc env cl U l' h) (forIn ((ps.map c.nm).zip vals) (⟨⟩:PUnit) f)
 | []=>by
  intro vs vals l U J s hp F r
  induction r with
  | nil=>
   show Sat c A fs X U J s (.ok l J) _ (forIn [] _ f);exact Sat.pure F
  | cons a r=>
   exact ap
 | p:: ps=>by
  intro vs vals l U J s hp F r
  induction r with
  | nil=>exact ap
  | @cons v w vs vals ra r=>
   refine bX (hp p (pH ..)) λp1 p2=>?_
   have hp':∀ q∈ps,((cl q).isSome=rj->sc.names.lookup (c.nm q)=rc .local)/\((cl q).isSome=rg->sc.names.lookup (c.nm q)=rc .cell):=λq m=>hp q (List.mem_cons_of_mem _ m)
   show Sat c A fs X U J s _ _ (forIn ((c.nm p,w):: (ps.map c.nm).zip vals) (⟨⟩:PUnit) f);simp only[List.forIn_cons,hf];simp only[qJ,qO];show Sat c A fs X U J s ((match cl p with | some _=>do bU cl p v;bx cl ps vs l | none=>bx cl ps vs (l.put p v):M Loc) J) _ _;cases q:cl p with
   | none=>
    have hl:=p1 (by rw[q];rfl);dsimp only;have m0:bx cl ps vs (l.put p v) J=((λJ=>R.ok (l.put p v) J:M Loc) >>= λl1=>bx cl ps vs l1) J:=rfl;rw[m0];refine Sat.bind (rel:=λU h l' _=>Fst c sc env cl U l' h) (Sat.any λQ E S _ ok _=>?_) λl1 J1 U1 _ s1 e1 S1 E1 F1=>fe C hX f hf ps vs vals l1 U1 J1 s1 hp' F1 (VRs.evo E1 r)
    refine el12 F.ns λm hm hv=>?_
    refine pf (F.ok.loc _ hl) hm (λh' hn hs=>?_) (by refine F.ok.kind▸?_;rfl);obtain⟨S',E'⟩:=S.named (X:=X) F.own F.base hX (Heap.Ns.dict hm) (Heap.Ns.dict hn) λb o n e=>hs.extBut b o n e
    refine ok _ _ _ _ _ rfl S' E' ⟨F.ok,⟨_,hn,λy u q=>?_⟩,F.own,F.base,F.cells⟩;show ∃ v',(if c.nm y=c.nm p then rc w else m (c.nm y))=rc v'/\_;rw[Loc.put_eq] at q
    by_cases e:y=p
    ·obtain rfl:=e.symm
     rw[if_pos rfl] at q ⊢
     cases q
     exact bf w rfl (ra.evo E')
    ·rw[if_neg e] at q
     rw[if_neg (λz=>e (C.nm _ _ z))];refine el12 (hv y u q) λv' e1 e2=>?_
     exact⟨v',e1,e2.evo E'⟩
   | some a=>
    have hl:=p2 (by rw[q];rfl);unfold bU;rw[M.assoc];refine Sat.lift λa' ea=>?_
    refine el12 (F.cells p a' ea (.inl hl)) λy ey ya=>?_
    rw[M.assoc];refine Sat.read ya λo ob q1 q2 rr nn=>?_
    induction o with
    | cell v₀=>
     refine fk rr.cell' λw₀ ez1=>?_;subst ez1
     refine Sat.bind (rel:=λU h _ _=>Fst c sc env cl U l h) (Sat.any λQ E S _ ok _=>?_) λ_ J1 U1 _ s1 e1 S1 E1 F1=>fe C hX f hf ps vs vals l U1 J1 s1 hp' F1 (VRs.evo E1 r)
     refine z1Z F.ok.kind (F.ok.cel _ (.inl hl)) ey q2 ?_;have E':Evo fs X U s.heap U (s.heap.update y λo=>{ o with data:=.cell (rc w) }):=.set ya q2 rfl rfl rr.unfrozen;exact ok _ _ _ _ _ rfl (S.set ya q2 rfl rfl (.cell ra) (nn rfl) rr.unfrozen) E' (F.evo (.set (X:=[]) ya q2 rfl rfl rr.unfrozen:Evo fs [] U s.heap U (s.heap.update y λo=>{ o with data:=.cell (rc w) })) (by simp))
    | _=>exact ap
end
end
section
noncomputable abbrev Cfg.on (c:Cfg)(b:Heap):Cfg:={ c with base:=b }
section
variable {c:Cfg}{b:Heap}{fs:List Env}{X U:List Addr}{J:MH}{h h':Heap}
theorem VR.on (b:Heap){v:V}{w:Value}(r:VR c U h v w):VR (c.on b) U h v w:=by
 induction r with
 | none=>exact .none
 | bool b=>exact .bool b
 | int i t=>exact .int i t
 | str k t=>exact .str (c:=c.on b) k t
 | bytes b t=>exact .bytes b t
 | ref e=>exact .ref e
 | t2 e _ _ p q=>exact .t2 e p q
 | clo e d q k cl=>exact .clo (c:=c.on b) e d q ⟨k.body,k.glob,k.blt,k.bind,k.fre⟩ cl
theorem VRs.on (b:Heap){vs:List V}{ws:List Value}(r:VRs c U h vs ws):VRs (c.on b) U h vs ws:=r.imp λ_ _ z=>z.on b
theorem OR.on {a:Nat}{o:O}{ob:Obj}(r:OR c U h a o ob)(hb:∀ x,U[a]? = rc x->c.base.get? x=rc ob->b.get? x=rc ob):OR (c.on b) U h a o ob:=by
 induction r with
 | lst r=>exact .lst (VRs.on b r)
 | clst r=>exact .clst (VRs.on b r)
 | dct d r=>exact .dct (c:=c.on b) d (r.imp λ_ _ z=>⟨z.1,z.2.on b⟩)
 | inst e=>exact .inst (c:=c.on b) e
 | cdct e q m d r=>exact .cdct (c:=c.on b) e (hb _ e q) m d (r.imp λ_ _ z=>⟨z.1,z.2.on b⟩)
 | tab e t r=>exact .tab (c:=c.on b) e t r
 | sd d r=>exact .sd (c:=c.on b) d (r.imp λ_ _ z=>⟨z.1,z.2.on b⟩)
 | ns d r q=>exact .ns (c:=c.on b) d (λx v e=>(by obtain⟨v',e1,e2⟩:=r x v e;exact bf v' e1 (e2.on b))) q
 | ba=>exact .ba
 | cell0=>exact .cell0
 | cell r=>exact .cell (r.on b)
structure Up (c:Cfg)(h b:Heap)(x:Addr):Prop where
 up:c.base.StaysIn b
 sub:b.StaysIn h
 only:∀ y,y≠x->c.base.get? y=re->b.get? y=re
 has:∀ o,h.get? x=rc o->b.get? x=rc o
theorem zcP (hs:c.base.StaysIn h)(x:Addr):∃ b,Up c h b x:=by
 refine⟨hideAll h ((List.range h.objs.size).filter λy=>(c.base.get? y).isNone&&y != x),λy o e=>hideAll_get _ (hs _ _ e) λm=>?_,λy o e=>of_hideAll _ e,λy ne e=>?_,λo e=>hideAll_get _ e λm=>?_⟩
 ·have:=(List.mem_filter.mp m).2
  rw[e] at this
  exact pY this
 ·by_cases l:y<h.objs.size
  ·exact hideAll_none _ (List.mem_filter.mpr ⟨List.mem_range.mpr l,by rw[e];simpa using ne⟩)
  ·cases q:(hideAll h ((List.range h.objs.size).filter λy=>(c.base.get? y).isNone&&y != x)).get? y with
   | none=>rfl
   | some o=>exact absurd (qp (of_hideAll _ q)) l
 ·have:=(List.mem_filter.mp m).2
  simp at this
theorem Up.none (U9:Up c h b x){y:Addr}(e:b.get? y=re):c.base.get? y=none:=by
 cases q:c.base.get? y with
 | none=>rfl
 | some o=>rw[U9.up _ _ q] at e;cases e
theorem St.lock {a:Nat}{x:Addr}{ob:Obj}{hs:List (Int×V)}(S:St c fs U J h)(U9:Up c h b x)(hx:U[a]? = rc x)(ho:h.get? x=rc ob)(r:OR c U h a (.dct hs) ob)(hm:(x==sysModules)=rj):St (c.on b) fs U (J.set a (.cdct hs)) h:=by
 refine⟨S.len,S.nodup,λd hd=>?_,λd o e=>?_,U9.sub,⟨λenv m=>?_⟩⟩
 ·rw[MH.get_set]
  split
  ·rfl
  ·exact S.tot d hd
 ·rw[MH.get_set] at e
  split at e
  ·rename_i q
   subst q;cases e;refine el12 r.dct' λkvs d1 d2=>?_
   exact .mk x ob hx ho (.cdct (c:=c.on b) hx (U9.has _ ho) hm d1 (d2.imp λ_ _ z=>⟨z.1,z.2.on b⟩)) (λq=>by cases q)
  ·rename_i q
   refine(S.obj d o e).go λy oy e1 e2 r n=>?_
   exact .mk y oy e1 e2 (r.on λ_ _ z=>U9.up _ _ z) (λz=>U9.only _ (λw=>q (S.inj e1 (w▸hx))) (n z))
 ·refine aw λ_ Z9=>?_
  obtain⟨a1,L,o,es,n,e1,e2,e3,e4,e5⟩:=S.fr.each env m;refine Z9 ?_;exact⟨a1,L,o,es,n,e1,U9.only _ (λw=>e3 (w▸pv hx)) e2,e3,e4,e5⟩
theorem St.unlock {a:Nat}{x:Addr}{ob:Obj}{hs:List (Int×V)}(U9:Up c h b x)(S:St (c.on b) fs U J h')(hx:U[a]? = rc x)(ho:h.get? x=rc ob)(hn:c.base.get? x=re)(r:OR c U h' a (.dct hs) ob):St c fs U (J.set a (.dct hs)) h':=by
 refine⟨S.len,S.nodup,λd hd=>?_,λd o e=>?_,λy o e=>S.base _ _ (U9.up _ _ e),⟨λenv m=>?_⟩⟩
 ·rw[MH.get_set]
  split
  ·rfl
  ·exact S.tot d hd
 ·rw[MH.get_set] at e
  split at e
  ·rename_i q
   subst q;cases e;exact .mk x ob hx (S.base _ _ (U9.has _ ho)) r (λ_=>hn)
  ·rename_i q
   refine aw λ_ Z9=>?_
   refine(S.obj d o e).go λy oy e1 e2 r n=>?_
   refine Z9 ?_;refine .mk y oy e1 e2 (OR.on (c:=c.on b) (b:=c.base) r λy' e' z=>?_) (λz=>U9.none (n z));obtain rfl:y=y':=qb (e1.symm.trans e');cases w:c.base.get? y with
   | none=>
    have:=U9.only y (λw=>q (S.inj e1 (w▸hx))) w;replace this:=(show b.get? y=rc oy from z)▸this;cases this
   | some o2=>exact(U9.up _ _ w).symm.trans z
 ·refine aw λ_ Z9=>?_
  obtain⟨a1,L,o,es,n,e1,e2,e3,e4,e5⟩:=S.fr.each env m;refine Z9 ?_;exact⟨a1,L,o,es,n,e1,U9.none e2,e3,e4,e5⟩
theorem O.dct_e {o:O}{es:List (Int×V)}(h:o.dct? = rc es):o = .dct es:=by
 induction o with
 | dct x=>cases h;rfl
 | _=>cases h
theorem z4K {k a:Nat}{vs:List V}{hs:List (Int×V)}(e:l6 J k vs=rc (a,hs)):J.get a=rc (.dct hs):=by
 obtain⟨h,_,e⟩:=Option.bind_eq_some_iff.mp e;obtain⟨o,eo,e⟩:=Option.bind_eq_some_iff.mp e;obtain⟨x,ex,e⟩:=Option.map_eq_some_iff.mp e;cases e;exact O.dct_e ex▸eo
theorem z7U (C:CfgOk c){m:Nat}{call:Fn->List V->M V}(hc:∀ b,c.base.StaysIn b->cH (c.on b) m call):cH c m (dA c.P call):=by
 intro A fs Rm f fv vs vals X U J s hf hvs;have h0:cH c m call:=hc c.base λ_ _ e=>e
 induction hf with
 | lam r=>exact h0 A fs Rm _ _ vs vals X U J s (.lam r) hvs
 | fn f=>
  show Sat c A fs X U J s ((match c.P.lock f with | some k=>dL k (call (.fn f)) | none=>call (.fn f)) vs J) _ _;cases q:c.P.lock f with
  | none=>exact h0 A fs Rm _ _ vs vals X U J s (.fn f) hvs
  | some k=>
   dsimp only;intro Q E S nb ok ex;cases e:l6 J k vs with
   | none=>exact absurd (by unfold dL;rw[e]) nb
   | some p=>
    refine aw λ_ Z9=>?_
    obtain⟨a,hs⟩:=p;have er:dL k (call (.fn f)) vs J=match call (.fn f) vs (J.set a (.cdct hs)) with | .ok v J'=>.ok v (J'.set a (.dct hs)) | _=>.bad:=by unfold dL;refine e▸?_;try rfl
    refine Z9 ?_;rw[er] at nb ok ex
    refine(S.obj a _ (z4K e)).go λx ob hx ho r n=>?_
    obtain⟨b,U9⟩:=zcP S.base x;refine hc b U9.up A fs Rm (.fn f) _ vs vals X U _ s (.fn (c:=c.on b) f) (VRs.on b hvs) Q E (S.lock U9 hx ho r (C.notMods (n rfl))) (λz=>nb (by rw[z])) (λv J1 U1 w s1 e1 S1 E1 r1 O1=>?_) (λj J1 U1 e s1 e1 F1 O1=>?_)
    ·rw[e1] at ok
     exact ok v _ U1 w s1 rfl (S1.unlock U9 (E1.get hx) ho (n rfl) (r.mono (λ_ _=>E1.get) E1.frz)) E1 (r1.on c.base) O1
    ·rw[e1] at nb;exact absurd rfl nb
end
end
section
section
variable {c:Cfg}{A:qZ}{fs:List Env}{X Y9 U U₀ U₁ U₂ U':List Addr}{J J':MH}{h h₀ h₁ h₂ h' h'':Heap}{env:Env}{L:Addr}{s:Shared}
theorem eQ (hf:env.frame=rc L){b:Addr}:b∈frs (env:: fs)↔b=L∨b∈frs fs:=by
 unfold frs;rw[pC,hf];simp
theorem St.enter (S:St c fs U J h)(hk:env.scope.kind≠.module)(hf:env.frame=rc L)(hb:c.base.get? L=re)(hL:L∉U)(hd:∃ o es n,h.get? L=rc o/\o.data = .dict es n):St c (env:: fs) U J h:=
 ⟨S.len,S.nodup,S.tot,S.obj,S.base,⟨λe m=>by
  rcases List.mem_cons.mp m with z | z
  ·subst z
   refine aw λ_ Z9=>?_
   obtain⟨o,es,n,e1,e2⟩:=hd;refine Z9 ?_;exact⟨hk,L,o,es,n,hf,hb,hL,e1,e2⟩
  ·exact S.fr.each e z⟩⟩
theorem St.leave (S:St c (env:: fs) U J h):St c fs U J h:=⟨S.len,S.nodup,S.tot,S.obj,S.base,⟨λe m=>S.fr.each e (List.mem_cons_of_mem _ m)⟩⟩
theorem Evo.leave (E₁:Evo fs X U₀ h₀ U₁ h₁)(E₂:Evo (env:: fs) Y9 U₁ h₁ U₂ h₂)(hf:env.frame=rc L)(hL:h₀.get? L=re)(hY:∀ y∈Y9,y∈X∨h₀.get? y=re):Evo fs X U₀ h₀ U₂ h₂:=by
 have nin:∀ {b o},h₀.get? b=rc o->b∉U₀->b∉U₁:=λ{b o} e n m=>by
  refine Or.elim (E₁.fresh b m) (λz=>?_) (λz=>?_)
  ·exact n z
  ·rw[z] at e;cases e
 have ny:∀ {b o},h₀.get? b=rc o->b∉X->b∉Y9:=λ{b o} e n m=>by
  refine Or.elim (hY b m) (λz=>?_) (λz=>?_)
  ·exact n z
  ·rw[z] at e;cases e
 have nf:∀ {b o},h₀.get? b=rc o->b∉frs fs->b∉frs (env:: fs):=λ{b o} e n m=>by
  rcases(eQ hf).mp m with z | z
  ·subst z;rw[hL] at e;cases e
  ·exact n z
 refine⟨?_,λx m=>?_,λb o e=>?_,λy o e n1 n2 n3=>E₂.keep _ _ (E₁.keep _ _ e n1 n2 n3) (nin e n1) (ny e n2) (nf e n3),λy o e n1 n2=>?_,λy o e f=>E₂.frz _ _ (E₁.frz _ _ e f) f⟩
 ·obtain⟨m1,q1⟩:=E₁.pre
  obtain⟨m2,q2⟩:=E₂.pre;exact⟨m1++m2,by rw[q2,q1,pK]⟩
 ·rcases E₂.fresh x m with z | z
  ·exact E₁.fresh x z
  ·right
   cases q:h₀.get? x with
   | none=>rfl
   | some o=>
    obtain⟨o',e'⟩:=E₁.dom _ _ q;rw[e'] at z;cases z
 ·obtain⟨o',e'⟩:=E₁.dom _ _ e
  exact E₂.dom _ _ e'
 ·obtain⟨s1,q1⟩:=E₁.slot _ _ e n1 n2
  refine fk (E₂.slot _ _ q1 (nin e n1) (ny e n2)) λs2 q2=>?_
  exact⟨s2,q2⟩
theorem FlyAt.lower {a:Addr}{B:Heap}{a0:Value}{k:Nat}(F:FlyAt c (env:: fs) Y9 U₁ h₁ k J' U' a h' B a0)(E₁:Evo fs X U₀ h₀ U₁ h₁)(hf:env.frame=rc L)(hL:h₀.get? L=re)(hY:∀ y∈Y9,y∈X∨h₀.get? y=re):FlyAt c fs X U₀ h₀ k J' U' a h' B a0:=by
 have nin:∀ {b o},h₀.get? b=rc o->b∉U₀->b∉U₁:=λ{b o} e n m=>by
  refine Or.elim (E₁.fresh b m) (λz=>?_) (λz=>?_)
  ·exact n z
  ·rw[z] at e;cases e
 have ny:∀ {b o},h₀.get? b=rc o->b∉X->b∉Y9:=λ{b o} e n m=>by
  refine Or.elim (hY b m) (λz=>?_) (λz=>?_)
  ·exact n z
  ·rw[z] at e;cases e
 have nf:∀ {b o},h₀.get? b=rc o->b∉frs fs->b∉frs (env:: fs):=λ{b o} e n m=>by
  rcases(eQ hf).mp m with z | z
  ·subst z;rw[hL] at e;cases e
  ·exact n z
 refine⟨F.stays,F.eB,F.frames.2.2,F.st,λb m=>F.nfr b ((eQ hf).mpr (.inr m)),?_,λx m=>?_,λy o e n1 n2 n3=>F.keep _ _ (E₁.keep _ _ e n1 n2 n3) (nin e n1) (ny e n2) (nf e n3),λy o e n1 n2=>?_,λb o e n=>?_,λy o e f=>F.frz _ _ (E₁.frz _ _ e f) f⟩
 ·obtain⟨m1,q1⟩:=E₁.pre
  obtain⟨m2,q2⟩:=F.pre;exact⟨m1++m2,by rw[q2,q1,pK]⟩
 ·rcases F.fresh x m with z | z
  ·exact E₁.fresh x z
  ·right
   cases q:h₀.get? x with
   | none=>rfl
   | some o=>
    obtain⟨o',e'⟩:=E₁.dom _ _ q;rw[e'] at z;cases z
 ·obtain⟨s1,q1⟩:=E₁.slot _ _ e n1 n2
  refine fk (F.slot _ _ q1 (nin e n1) (ny e n2)) λs2 q2=>?_
  exact⟨s2,q2⟩
 ·obtain⟨o',e'⟩:=E₁.dom _ _ e
  exact F.domB _ _ e' (nf e n)
theorem z2K {k:Nat}{e:Value}{M:Model}{Q:Unit->Shared->Prop}{E:VP}(hfr:A.frames=rc (env:: fs))(hf:env.frame=rc L)(F:Fly c (env:: fs) Y9 U₁ h₁ k J' U' e s.heap)(E₁:Evo fs X U₀ h₀ U₁ h₁)(hL:h₀.get? L=re)(hY:∀ y∈Y9,y∈X∨h₀.get? y=re)
  (hq:∀ h'',Fly c fs X U₀ h₀ k J' U' e h''->Q () { s with heap:=h'' }):wpAny M A (leaving env e) Q E s:=by
 refine aw λ_ Z9=>?_
 refine lE F λa B a0 ez2=>?_;subst ez2;intro x F
 refine Z9 ?_;have go:∀ h'',Heap.LeftW B (env:: fs) a (.ref (c.cls k)) a0 s.heap h''->Q () { s with heap:=h'' }:=λh'' z=>by
  refine aw λ_ Z9=>?_
  refine kO z λk1 k2 k3 k4=>?_
  refine Z9 ?_;exact hq h'' ⟨a,B,a0,rfl,.on k3,(F.moved k1 k2 k4).lower E₁ hf hL hY⟩
 induction x with
 | @new oe vs he hc hd h0 h1=>
  refine wpAny_leaving_firstW hfr F.frames hf he F.stays F.eB hd h1 h0 λh'' N=>go h'' ?_
  rw[hc] at N
  exact N
 | on t=>exact wpAny_leaving_nextW hfr F.frames hf t F.stays F.eB go
 | @held env' outer' L' t1 t2 t3=>
  obtain⟨rfl,rfl⟩:=List.cons.inj t1;replace t2:=hf▸t2;cases t2;refine qE (wpAny_noteFrame_againW hf t3 ?_);exact wpAny_landsW ⟨F.stays,F.eB,F.frames,t3⟩ λh'' z k4=>by obtain⟨k1,_,k2,k3⟩:=z;exact go h'' ⟨k1,k2,k3,k4⟩
end
structure FnAt (c:Cfg)(f:Nat)(d:FnDef)(fd:qR)(body:List Stmt):Prop where
 obj:∃ o,c.base.get? (c.fnA f)=rc o/\o.data = .func fd
 co:fd.scope.isCoroutine=rj
 gen:fd.scope.isGenerator=rj
 bod:fd.body = .stmts body
 code:c.base.CodeRec fd.code fd.qualname
 clo:fd.closure=[]
 glob:fd.globals=qw
 blt:fd.builtins=qD
 kind:fd.scope.kind = .function
 cells:(fd.scope.names.filter (·.2==.cell)).map (·.1)=d.cells.map c.nm
 nofree:∀ x∈fd.scope.names,x.2≠.free
 pars:∀ p∈d.params,(p∉d.cells->fd.scope.names.lookup (c.nm p)=rc .local)/\(p∈d.cells->fd.scope.names.lookup (c.nm p)=rc .cell)
 bind:∀ vs vs' U h vals,bL d.params.length vs d.dflts=rc vs'->VRs c U h vs vals->∃ vals',VRs c U h vs' vals'/\
  ∀ (A:qZ)(s:Shared)(Q:List (Str×Value)->Shared->Prop)(E:VP),c.base.StaysIn s.heap->Q ((d.params.map c.nm).zip vals') s->wpAny (model c.prog c.w) A (bindArgs fd ⟨vals,[]⟩) Q E s
 lam:∀ i,lA fd.scope i->fd.code = .ref (cdA i)/\fd.qualname ++ ".<locals>." ++ "<lambda>" = cdQ i
 snd:∀ n cx,CxOk c n cx->iw c n cx fd.scope d.body body
structure LamAt (c:Cfg)(e:E)(sc:Scope)(pe:Expr):Prop where
 co:sc.isCoroutine=rj
 gen:sc.isGenerator=rj
 kind:sc.kind = .function
 nocell:∀ x∈sc.names,x.2≠.cell
 snd:∀ n cx,CxOk c n cx->ar c n cx sc e pe
theorem Room.deeper {n m:Nat}{A:qZ}{fs:List Env}{env:Env}(R:Room n A fs)(h:m+1<=n):Room m (A.deeper env) (env:: fs):=by
 refine⟨?_,R.handled,?_,?_⟩
 ·show A.frames.map _=_
  rw[R.frames];rfl
 ·show A.depth+1+m<=900
  exact z8d R.depth h
 ·show A.units+3+8*m<=9000
  exact z8e R.units h (by decide)
theorem z9b {c:Cfg}{x L:Addr}{fd:qR}{env:Env}(gk:fd.scope.kind = .function)(gn:∀ x∈fd.scope.names,x.2≠.cell)(hg:fd.globals=qw)(hb:fd.builtins=qD)(hf:∀ n,(n,qk)∈fd.scope.names->∃ y,fd.closure.lookup n=rc y)
  (hE:newEnv fd.scope L fd.globals fd.closure (fd.qualname ++ ".<locals>.") (rc x) fd.code re fd.builtins=env){P:Prop}
  (k:env.locals=L->env.frame=rc L->env.scope=fd.scope->env.cells=fd.closure->EnvOk fd.scope env->P):P:=by
 subst hE;have nc:∀ {n},fd.scope.names.lookup n≠rc .cell:=λq=>gn _ (mem_of_lookup q) rfl
 exact k rfl rfl rfl rfl ⟨gk,hg,hb,λn q=>q,λn q=>q,λn q=>q,λn q=>q.elim (λq=>absurd q nc) λq=>hf n (mem_of_lookup q),λi q=>absurd q.1 nc⟩
theorem zb4 {c:Cfg}{f:Nat}{d:FnDef}{fd:qR}{body:List Stmt}(G:FnAt c f d fd body){b L:Addr}{env:Env}(hE:({ scope:=fd.scope,locals:=L,globals:=fd.globals,cells:=cellsFrom b fd.scope.names [],qual:=fd.qualname ++ ".<locals>.",func:=rc (c.fnA f),code:=fd.code,frame:=rc L,builtins:=fd.builtins }:Env)=env){P:Prop}
  (k:env.locals=L->env.frame=rc L->env.scope=fd.scope->env.cells=cellsFrom b fd.scope.names []->EnvOk fd.scope env->P):P:=by
 subst hE;refine k rfl rfl rfl rfl ⟨G.kind,G.glob,G.blt,λn e=>e,λn e=>e,λn e=>e,λn e=>?_,λi e=>G.lam i e⟩;exact e.elim (λe=>hW _ _ _ _ (.inl (mem_of_lookup e))) λe=>absurd rfl (G.nofree _ (mem_of_lookup e))
theorem zb5 {c:Cfg}(C:CfgOk c){f:Nat}{d:FnDef}{fd:qR}{body:List Stmt}(G:FnAt c f d fd body){X U:List Addr}{fs:List Env}{J:MH}{hp h1 h2:Heap}{env:Env}(S:St c fs U J hp)(hh1:hp.push { cls:=.type "frame",data:=.dict #[] }=h1)(hh:pushCells h1 fd.scope.names=h2)
  (hE:({ scope:=fd.scope,locals:=hp.objs.size,globals:=fd.globals,cells:=cellsFrom h1.objs.size fd.scope.names [],qual:=fd.qualname ++ ".<locals>.",func:=rc (c.fnA f),code:=fd.code,frame:=rc hp.objs.size,builtins:=fd.builtins }:Env)=env){P:Prop}
  (k:∀ U2 J2 cl,dz d.cells (λ_=>re) J = .ok cl J2->St c fs U2 J2 h2->Evo fs X U hp U2 h2->(∀ p∈d.params,((cl p).isSome=rj->fd.scope.names.lookup (c.nm p)=rc .local)/\((cl p).isSome=rg->fd.scope.names.lookup (c.nm p)=rc .cell))->
   env.locals=hp.objs.size->env.frame=rc hp.objs.size->env.scope=fd.scope->Fst c fd.scope env cl U2 cz h2->P):P:=by
 refine zb4 G hE λeL eF eS eC O=>?_
 subst hh1;subst hh;refine oq (l5 (X:=X) C fd.scope.names d.cells [] (λ_=>re) U J _ G.cells (S.push { cls:=.type "frame",data:=.dict #[] }) (λx a q=>by cases q)) λU2 J2 cl q1 S2 E2 hcl hin=>?_
 refine k U2 J2 cl q1 S2 ((Evo.push _).trans E2) (λp m=>?_) eL eF eS ⟨O,⟨_,eL▸(Heap.Ns.new hp (.type "frame")).keeps (pushCells_keeps _ _),λx v q=>by cases q⟩,λm=>?_,eL▸S.no_size.2.1,λx a q _=>eC▸hcl x a q⟩
 ·rw[hin p]
  refine bX (G.pars p m) λp1 p2=>?_
  exact⟨λq=>p1 (by simpa using q),λq=>p2 (by simpa using q)⟩
 ·rw[eL] at m
  refine Or.elim (E2.fresh _ m) S.no_size.1 λz=>?_
  rw[pA _ rfl] at z;cases z
theorem z7a {c:Cfg}(C:CfgOk c)(hlim:c.base.NoLimit){m:Nat}{call:Fn->List V->M V}(hc:cH c m call){f:Nat}{d:FnDef}{fd:qR}{body:List Stmt}(G:FnAt c f d fd body){A:qZ}{fs:List Env}(Rm:Room (m+3) A fs){X U:List Addr}{J:MH}{s:Shared}{vs':List V}{vals vals':List Value}(hr':VRs c U s.heap vs' vals')
  (hb:∀ (A:qZ)(s:Shared)(Q:List (Str×Value)->Shared->Prop)(E:VP),c.base.StaysIn s.heap->Q ((d.params.map c.nm).zip vals') s->wpAny (model c.prog c.w) A (bindArgs fd ⟨vals,[]⟩) Q E s)
  {r:R V}(hr:(dz d.cells (λ_=>re) >>= λcl=>bx cl d.params vs' (λ_=>re) >>= λl=>exSs ⟨c.P,call,cl⟩ d.body l >>= λr=>(pure (cA r.1):M V)) J=r):
  Sat c A fs X U J s r (VR c) (PySem.call (.ref (c.fnA f)) vals):=by
 intro Q E S nb ok ex;have hroom:A.depth<recursionLimit:=pJ (qt (Nat.le_add_right _ _) Rm.depth) (by decide);refine el12 G.obj λo ho hdat=>?_
 refine fE (z0a hroom (S.base _ _ ho) hdat G.co G.gen (G.code.keeps S.base) ?_);refine .of (hb _ _ _ _ S.base ?_);refine G.clo▸?_;simp -iota only[newFunctionEnv,Option.isSome_none,pG,if_false];refine aw λ_ Z9=>?_
 obtain⟨hp,g,dr,tk,os⟩:=s;refine Z9 ?_;refine bH (λh=>.of (wpAny_alloc h)) ?_;refine bH (λh=>.of (wpAny_layCells _ (λname kind cells=>by cases hkc:kind==qn <;> simp[hkc]) _ _ _ _ h)) ?_;dsimp only at S ok ex hr' ⊢
 generalize hh1:hp.push { cls:=.type "frame",data:=.dict #[] }=h1;generalize hh:pushCells h1 fd.scope.names=h2;generalize hE:({ scope:=fd.scope,locals:=hp.objs.size,globals:=fd.globals,cells:=cellsFrom h1.objs.size fd.scope.names [],qual:=fd.qualname ++ ".<locals>.",func:=rc (c.fnA f),code:=fd.code,frame:=rc hp.objs.size,builtins:=fd.builtins }:Env)=env;refine zb5 (X:=X) C G S hh1 hh hE λU2 J2 cl q1 S2 E1 hpar eL eF eS F2=>?_
 have hLn:hp.get? hp.objs.size=none:=aZ hp;replace hr:=(bnd q1).symm.trans hr;have oth:∀ {s':Shared}{h₁:Heap}{t₁:Nat},Oth ⟨h₁,g,dr,t₁,os⟩ s'->Oth ⟨hp,g,dr,tk,os⟩ s':=λx=>⟨x.gens,x.os⟩
 have hYL:∀ y∈[env.locals],y∈X∨hp.get? y=none:=λy m=>.inr ((List.mem_singleton.mp m).trans eL▸hLn)
 refine a9 (fe (X:=[env.locals]) C (by simp) _ (λ_ _ _=>rfl) d.params vs' vals' cz U2 J2 ⟨_,g,dr,tk,os⟩ hpar F2 (VRs.evo E1 hr') _ _ S2 (λq=>nb (hr.symm.trans (iN q))) (λl3 J3 U3 _ s3 q3 S3 E3 F3 O3=>?_) (λj J3 U3 e s3 q3 F3 O3=>ex j J3 U3 e s3 (hr.symm.trans (lD q3)) (F3.later E1 hYL) (oth O3)));replace hr:=(bnd q3).symm.trans hr;have E13:=E1.later E3 hYL;refine ac ⟨hlim.keeps S3.base,?_⟩;rw[G.bod];refine z4A ?_;have hkm:env.scope.kind≠.module:=by rw[eS,G.kind];decide
 have S3':St c (env:: fs) U3 J3 s3.heap:=S3.enter hkm eF S.no_size.2.1 (eL▸F3.own) (eL▸(by obtain⟨m,hm,_⟩:=F3.ns;exact Heap.Ns.dict hm));have act:Act (env:: fs) env:=⟨by unfold interactive;rw[eS,G.kind];rfl,eF.trans (eL▸rfl),⟨fs,rfl⟩⟩
 refine G.snd (m+2) ⟨c.P,call,cl⟩ ⟨rfl,m,qC _,hc⟩ (A.deeper env) (env:: fs) (Rm.deeper (qC _)) env [env.locals] U3 J3 l3 s3 act (by simp) F3 _ _ S3' (λq=>nb (hr.symm.trans (iN q))) (λr' J4 U4 fl s4 q4 S4 E4 rF O4=>?_) (λj J4 U4 e s4 q4 F4 O4=>?_)
 ·have E5:=Evo.leave E13 E4 eF hLn hYL
  replace hr:=(bnd q4).symm.trans hr;refine aw λ_ Z9=>?_
  obtain⟨rf,F4⟩:=rF;obtain⟨fl',l4⟩:=r';refine Z9 ?_;cases rf with
  | next=>exact ok .none J4 U4 .none s4 hr.symm S4.leave E5 .none (oth (O3.trans O4))
  | ret rv=>exact ok _ J4 U4 _ s4 hr.symm S4.leave E5 rv (oth (O3.trans O4))
 ·exact .of (z2K (qZ.frames_deeper Rm.frames) eF F4 E13 hLn hYL λh'' F5=>ex j J4 U4 e _ (hr.symm.trans (lD q4)) F5 (oth (O3.trans (O4.trans ⟨rfl,rfl⟩))))
theorem z8U {c:Cfg}(C:CfgOk c)(hlim:c.base.NoLimit){m:Nat}{call:Fn->List V->M V}(hl:∀ k e sc pe,c.P.lam k=rc e->c.lamOk k sc pe->LamAt c e sc pe)(hf:∀ f d,c.P.fn f=rc d->∃ fd body,FnAt c f d fd body)(hc:cH c m call):cH c (m+3) (zaa c.P call):=by
 intro A fs Rm f fv vs vals X U J s hfv hvs
 induction hfv with
 | @lam k cs v r=>
  show Sat c A fs X U J s ((M.lift (c.P.lam k) >>= λe=>M.guard vs.isEmpty >>= λ_=>evE ⟨c.P,call,cs⟩ e cz) J) _ _;refine Sat.lift λe he=>?_
  induction hvs with
  | cons _ _=>exact ap
  | nil=>
  show Sat c A fs X U J s (evE ⟨c.P,call,cs⟩ e cz J) _ _;generalize hv:V.clo k cs=u at r
  induction r with
  | @clo x o fd k' cs' ho hd hco K hcl=>
   cases hv
   refine el12 K.body λpe hbod hok=>?_
   have G:=hl k e _ _ he hok;intro Q E S nb ok ex;have hroom:A.depth<recursionLimit:=pJ (qt (Nat.le_add_right _ _) Rm.depth) (by decide);refine fE (z0a hroom ho hd G.co G.gen (by obtain⟨b1,b2,b3,b4,b5,b6,_,b7,b8⟩:=hco;exact⟨b1,b2,b3,b4,b5,b6,b7,b8⟩) ?_);refine K.bind▸?_;refine ac (.of (wpAny_newFunctionEnv G.nocell (λ_ m=>by cases m) (λh' hns hsb=>?_) G.kind));have hk:∀ b o,s.heap.get? b=rc o->h'.get? b=rc o:=λb o e=>hsb.extBut b o (qq (qp e)) (oS _ e)
   have S1:=S.keeps hk;have E1:Evo fs X U s.heap U h':=Evo.keeps hk;have hLn:s.heap.get? s.heap.objs.size=none:=aZ s.heap;refine⟨hlim.keeps S1.base,?_⟩;rw[hbod];refine z4z ?_;generalize hE:newEnv fd.scope s.heap.objs.size fd.globals fd.closure (fd.qualname ++ ".<locals>.") (rc x) fd.code re fd.builtins=env;refine z9b (c:=c) G.kind G.nocell K.glob K.blt K.fre hE λeL eF eS eC O=>?_
   have F1:Fst c fd.scope env cs U cz h':=⟨O,⟨_,eL▸hns,λ_ _ q=>by cases q⟩,eL▸S.no_size.1,eL▸S.no_size.2.1,λy a q m=>eC▸(m.elim (λq=>absurd rfl (G.nocell _ (mem_of_lookup q))) λm=>hcl y a q (mem_of_lookup m))⟩
   have S2:St c (env:: fs) U J h':=S1.enter (by rw[eS,G.kind];decide) eF S.no_size.2.1 S.no_size.1 (Heap.Ns.dict hns);have oth:∀ {s':Shared},Oth { s with heap:=h',toks:=s.toks+([]:List (Str×Value)).length } s'->Oth s s':=λx=>⟨x.gens,x.os⟩
   refine G.snd (m+2) ⟨c.P,call,cs⟩ ⟨rfl,m,qC _,hc⟩ (A.deeper env) (env:: fs) (Rm.deeper (qC _)) env [] U J cz _ (by simp) F1 _ _ S2 nb (λv J4 U4 w s4 q4 S4 E4 r4 O4=>?_) (λj J4 U4 e s4 q4 F4 O4=>?_)
   ·exact ok v J4 U4 w s4 q4 S4.leave (Evo.leave E1 E4 eF hLn λ_ m=>by cases m) r4 (oth O4)
   ·exact .of (z2K (qZ.frames_deeper Rm.frames) eF F4 E1 hLn (λ_ m=>by cases m) λh'' F5=>ex j J4 U4 e _ q4 F5 (oth (O4.trans ⟨rfl,rfl⟩)))
  | _=>cases hv
 | fn f=>
  show Sat c A fs X U J s ((M.lift (c.P.fn f) >>= λd=>M.lift (bL d.params.length vs d.dflts) >>= λvs=>dz d.cells (λ_=>re) >>= λcl=>bx cl d.params vs (λ_=>re) >>= λl=>exSs ⟨c.P,call,cl⟩ d.body l >>= λr=>(pure (cA r.1):M V)) J) _ _;refine Sat.lift λd hd=>Sat.lift λvs' hv'=>?_
  refine kP (hf f d hd) λfd body G=>?_
  refine el12 (G.bind vs vs' U s.heap vals hv' hvs) λvals' hr' hb=>?_
  exact z7a C hlim hc G Rm hr' hb rfl
theorem z3G {c:Cfg}(U9:∀ b,c.base.StaysIn b->CfgOk (c.on b)/\(∀ k e sc pe,c.P.lam k=rc e->c.lamOk k sc pe->LamAt (c.on b) e sc pe)/\∀ f d,c.P.fn f=rc d->∃ fd body,FnAt (c.on b) f d fd body)(hlim:c.base.NoLimit):∀ k b,c.base.StaysIn b->cH (c.on b) (3*k) (al c.P k)
 | 0=>λb hb A fs Rm f fv vs vals X U J s hfv hvs=>ap
 | k+1=>λb hb=>by
  refine gh (U9 b hb) λC hl hf=>?_
  exact    z8U (c:=c.on b) C (hlim.keeps hb) hl hf (z7U (c:=c.on b) C λb' hb'=>z3G U9 hlim k b' λa o e=>hb' _ _ (hb _ _ e))
end
section
section
variable {c:Cfg}{n:Nat}{cx:Cx}{sc:Scope}{A:qZ}{fs:List Env}{X U U':List Addr}{J J':MH}{h h':Heap}{k:Nat}
theorem FlyAt.caught {a:Addr}{B:Heap}{a0:Value}(S:St c fs U J h)(F:FlyAt c fs [] U h k J' U' a h' B a0):St c fs U' J' h'/\Evo fs [] U h U' h':=by
 have nin:∀ b∈frs fs,b∉U:=λb m=>(S.fr.mem m).out
 refine⟨?_,F.pre,F.fresh,λb o e=>?_,λb o e n1 n2 n3=>F.stays _ _ (F.keep b o e n1 n2 n3),F.slot,λb o e f=>F.stays _ _ (F.frz b o e f)⟩
 ·have S1:St c [] U' J' h':=F.st.keeps F.stays
  refine⟨S1.len,S1.nodup,S1.tot,S1.obj,S1.base,⟨λenv m=>?_⟩⟩;refine aw λ_ Z9=>?_
  obtain⟨a,L,o,es,n,e1,e2,e3,e4,e6⟩:=S.fr.each env m;have mL:L∈frs fs:=List.mem_filterMap.mpr ⟨env,m,e1⟩;obtain⟨sl,e5⟩:=F.slot L o e4 e3 (by simp);refine Z9 ?_;exact⟨a,L,_,es,n,e1,e2,F.nfr L mL,e5,e6⟩
 ·by_cases m:b∈frs fs
  ·obtain⟨sl,e5⟩:=F.slot b o e (nin b m) (by simp)
   exact⟨_,e5⟩
  ·obtain⟨o',e'⟩:=F.domB b o e m
   exact⟨o',F.stays _ _ e'⟩
inductive XO (h:Heap)(C:Addr)(bm:List Value)(newId:String):Prop where
 | mk (nm q:Str)(N:Addr)(bs:List Value)(hdct:Bool)(sn:List Str)(sub:List Value)(ab:Bool)(col:Option Bool)(dd:Option Addr)(k0 k1 k2 k3 k5:Option Value)(e:h.get? C=rc (excClassObj nm q C N bs bm hdct sn sub ab col dd k0 k1 k2 k3 k5 newId)):XO h C bm newId
theorem XO.keeps {b h:Heap}{C:Addr}{bm:List Value}{newId:String}(x:XO b C bm newId)(K:b.StaysIn h):XO h C bm newId:=
 x.rec λnm q N bs hdct sn sub ab col dd k0 k1 k2 k3 k5 e=>.mk nm q N bs hdct sn sub ab col dd k0 k1 k2 k3 k5 (K _ _ e)
structure ExcW (c:Cfg)(j:Nat)(x:Str):Prop where
 glob:c.mg x=rc (.ref (c.cls j))
 cls:∃ bm newId,XO c.base (c.cls j) bm newId/\bm.contains (.type "BaseException")=rg/\
  ∀ i,c.P.can i=rg->i≠j->(qN (c.cls j):: bm).contains (.ref (c.cls i))=rj
theorem z7t {M:Model}{A:qZ}{E:VP}{C D:Addr}{bm bm':List Value}{id id':String}{s:Shared}{e:Addr}{oe:Obj}{Q:Bool->Shared->Prop}
  (hC:XO s.heap C bm id)(hD:XO s.heap D bm' id')(he:s.heap.get? e=rc oe)(hcls:oe.cls = .ref C)(hbase:bm'.contains (.type "BaseException")=rg)
  (hno:(qN C:: bm).contains (.ref D)=rj)(hq:Q rj s):wpAny M A (excMatches (.ref e) (.ref D)) Q E s:=by
 obtain⟨nm,q,N,bs,hdct,sn,sub,ab,col,dd,k0,k1,k2,k3,k5,hC⟩:=hC;obtain⟨nm',q',N',bs',hdct',sn',sub',ab',col',dd',k0',k1',k2',k3',k5',hD⟩:=hD;have hcB:(qN D:: bm').contains (.type "BaseException")=true:=by rw[pI,hbase,Bool.or_true]
 have f:=tc_notTuple;obtain⟨h,g,d,t,os⟩:=s;unfold excMatches;repeat (first | (with_reducible refine pP he ?_;refine hcls▸?_) | with_reducible refine pP hD ?_ | with_reducible refine pP hC ?_ | (with_reducible refine pD hD ?_;rw[hcB]) | (with_reducible refine pD hC ?_;rw[hno]) | wp_step)
 exact hq
theorem z5c {M:Model}{A:qZ}{E:VP}{C:Addr}{bm:List Value}{id:String}{s:Shared}{e:Addr}{oe:Obj}{Q:Bool->Shared->Prop}
  (hC:XO s.heap C bm id)(he:s.heap.get? e=rc oe)(hcls:oe.cls = .ref C)(hbase:bm.contains (.type "BaseException")=rg)(hq:Q rg s):wpAny M A (excMatches (.ref e) (.ref C)) Q E s:=
 hC.rec λ_ _ _ _ _ _ _ _ _ _ _ _ _ _ _ hC=>wpAny_excMatches_sub_self hC he hcls hbase hq
theorem k6 {cx:Cx}{e:E}{hs:List (Nat×E)}{l:Loc}{J:MH}{r:R V}(q:evE cx e l J=r):exS cx (.tryRet e hs) l J=fh cx.P l hs cx r:=q▸rfl
theorem zaT {P:Prog}{cx:Cx}{l:Loc}{J:MH}{k j1 j2 i1 i2:Nat}(hsub:∀ k j,P.sub k j=(k==j)){G:Prop}(k1:k=j1->fh P l [(j1,.cstr i1),(j2,.cstr i2)] cx (.exc k J) = .ok (.ret (.str i1),l) J->G)
  (k2:k=j2->fh P l [(j1,.cstr i1),(j2,.cstr i2)] cx (.exc k J) = .ok (.ret (.str i2),l) J->G)(k3:fh P l [(j1,.cstr i1),(j2,.cstr i2)] cx (.exc k J) = .bad->G):G:=by
 have e:fh P l [(j1,.cstr i1),(j2,.cstr i2)] cx (.exc k J)=match (match k==j1 with | true=>rc (j1,E.cstr i1) | false=>match k==j2 with | true=>rc (j2,E.cstr i2) | false=>re) with
  | some h=>(do let v<-evE cx h.2 l;pure (Fl.ret v,l):M (Fl×Loc)) J
  | none=>.bad:=hsub k j1▸hsub k j2▸rfl
 cases z:k==j1 with
 | true=>rw[z] at e;exact k1 (qL z) e
 | false=>
  rw[z] at e
  cases z2:k==j2 with
  | true=>rw[z2] at e;exact k2 (qL z2) e
  | false=>rw[z2] at e;exact k3 e
theorem jT {a:Addr}:qN a≠byPass:=λq=>nomatch q
theorem z6H {e:E}{pe:Expr}{h1:ExceptHandler}{hs:List ExceptHandler}{p1 p6:Pos}(h:ar c n cx sc e pe)(Rm:Room n A fs){env:Env}{l:Loc}{s:Shared}(hA:Act fs env)(F:Fst c sc env cx.cl U l s.heap){Q:Flow->Shared->Prop}{E:VP}(S:St c fs U J s.heap)(nb:evE cx e l J≠.bad)
  (ok:∀ v J1 U1 w s1,evE cx e l J = .ok v J1->St c fs U1 J1 s1.heap->Evo fs [] U s.heap U1 s1.heap->VR c U1 s1.heap v w->Oth s s1->Q (.ret w) s1)
  (ex:∀ k J1 U1 s1 a h3 B a0,evE cx e l J = .exc k J1->Oth s s1->FlyAt c fs [] U s.heap k J1 U1 a h3 B a0->h3.TracedW B a (.ref (c.cls k)) a0->wpAny (model c.prog c.w) A (handleBy (.ref a) env (h1:: hs)) Q E { s1 with heap:=h3 }):
  wpF (model c.prog c.w) A (exec (.Try [.Return (rc pe) p1] (h1:: hs) [] [] p6) env) Q E s:=by
 refine bH (λh=>aF h) ?_;refine a9 (z1o ?_);refine a9 (a9 (aF ?_));refine a9 (h A fs Rm env [] U J l s (by simp) F _ _ S nb (λv J1 U1 w s1 q1 S1 E1 r1 O1=>ac (ac (ac (ok v J1 U1 _ s1 q1 S1 E1 r1 O1)))) (λk J1 U1 e s1 q1 F1 O1=>?_));refine .of (qE (z3T Rm hA F1 λh2 F2=>?_));refine lE F2 λa B a0 ez1 x2' G2=>?_
 subst ez1;refine qE (wpAny_landsW ⟨G2.stays,G2.eB,G2.frames,x2'⟩ λh3 z k4=>?_);exact kO z λk1 _ k2 k3=>ex k J1 U1 s1 a h3 B a0 q1 O1 (G2.moved k1 k2 k4) k3
theorem zcJ (Wk:WOk c)(hP:cx.P=c.P){e:E}{pe:Expr}{j1 j2 i1 i2:Nat}{x1 x2:Str}{kk1 kk2:_}{p1 p6 q1 q2 q3 q4 r1 r2 r3 r4:Pos}(W1:ExcW c j1 x1)(W2:ExcW c j2 x2)(hc1:c.P.can j1=rg)(hne:j1≠j2)(hsub:∀ k j,c.P.sub k j=(k==j))
  (hl1:sc.names.lookup x1=rc .globalImplicit)(hl2:sc.names.lookup x2=rc .globalImplicit)(hd1:(x1==("__debug__" : Str))=rj)(hd2:(x2==("__debug__" : Str))=rj)(h:ar c n cx sc e pe):
  aK c n cx sc (.tryRet e [(j1,.cstr i1),(j2,.cstr i2)]) (.Try [.Return (rc pe) p1] [.ExceptHandler (rc (.Name x1 q1)) re [.Return (rc (.Constant (.str (c.nm i1)) kk1 q2)) q3] q4,.ExceptHandler (rc (.Name x2 r1)) re [.Return (rc (.Constant (.str (c.nm i2)) kk2 r2)) r3] r4] [] [] p6):=by
 intro A fs Rm env X U J l s hA hX F Q E S nb ok ex;refine z6H h Rm hA F S (λq=>nb (k6 q)) (λv J1 U1 w s1 q1 S1 E1 r1 O1=>ok (.ret v,l) J1 U1 _ s1 (k6 q1) S1 (E1.wider (by simp)) ⟨.ret r1,F.evo E1 (by simp)⟩ O1) λk J1 U1 s1 a h3 B a0 q1 O1 F3 k3=>?_
 refine bX (F3.caught S) λS3 E3=>?_
 have Fs3:=F.evo E3 (by simp);refine kQ W1.cls λbm1 id1 hC1 hbase1 _=>?_
 refine kQ W2.cls λbm2 id2 hC2 hbase2 hno2=>?_
 refine oA (id k3) λoe vs T oT ts he hz2 hdv hr=>?_
 have hcls:=hz2.1;have hC1:=hC1.keeps S3.base;have hC2:=hC2.keeps S3.base;have fin:∀ (i:Nat)(kk:_)(p3 p4 p5:Pos)(A':qZ)(R:r6->Shared->Prop),(∀ U' f s',St c fs U' J1 s'.heap->Evo fs X U s.heap U' s'.heap->oj c cx sc env U' s'.heap (Fl.ret (.str i),l) f->Oth s s'->R (.ok f) s')->
   codeAny (model c.prog c.w) A' (.handlers (.ref a) [.ExceptHandler re re [.Return (rc (.Constant (.str (c.nm i)) kk p3)) p4] p5] env) R { s1 with heap:=h3 }:=λi kk p3 p4 p5 A' R hR=>by
  refine codeAny_handlers_suite ?_;refine wpAny_setFlight_noneW F3.stays F3.frames k3.at λh4 k1 k2 k3 k4=>?_
  have F4:=F3.moved k1 k2 λb o eb nf=>⟨o.slots,k4 b o eb nf⟩
  refine bX (F4.caught S) λS4 E4=>?_
  refine qE (qE (wpAny_standAt (qE (Calls.Constant_str (qF (qF ?_))))));exact hR U1 _ _ S4 (E4.wider (by simp)) ⟨.ret (.str i _),F.evo E4 (by simp)⟩ (O1.trans ⟨rfl,rfl⟩)
 have test:∀ {x:Str}{j:Nat}{p:Pos}{A':qZ}{Q:VP}{E:VP},c.mg x=rc (.ref (c.cls j))->sc.names.lookup x=rc .globalImplicit->(x==("__debug__" : Str))=rj->Q (.ref (c.cls j)) { s1 with heap:=h3 }->
   wpAny (model c.prog c.w) A' (eval (.Name x p) env) Q E { s1 with heap:=h3 }:=λe1 e2 e3 q=>oM Fs3.ok.kind (Fs3.ok.gl _ e2) (Calls.loadGlobal_global (Fs3.ok.glob▸S3.hg Wk) e1 q) e3
 refine zaT (cx:=cx) (P:=cx.P) (l:=l) (J:=J1) (k:=k) (j1:=j1) (j2:=j2) (i1:=i1) (i2:=i2) (hP▸hsub) (λz e=>?_) (λz e=>?_) (λe=>absurd ((k6 q1).trans e) nb)
 ·subst z
  refine wpAny_handleBy_cons (codeAny_handlers_test (test W1.glob hl1 hd1 ?_)) jT;exact z5c hC1 he hcls hbase1 (fin i1 _ _ _ _ _ _ λU' f s' S' E' r O=>ok _ _ U' f s' ((k6 q1).trans e) S' E' r O)
 ·subst z
  refine wpAny_handleBy_cons (codeAny_handlers_test (test W1.glob hl1 hd1 ?_)) jT;refine z7t hC2 hC1 he hcls hbase1 (hno2 _ hc1 hne) ?_;refine wpAny_handleBy_cons (codeAny_handlers_test (test W2.glob hl2 hd2 ?_)) jT;exact z5c hC2 he hcls hbase2 (fin i2 _ _ _ _ _ _ λU' f s' S' E' r O=>ok _ _ U' f s' ((k6 q1).trans e) S' E' r O)
theorem z4W {k:Nat}{as:Es}{pt:Stmt}(h:cx.P.can k=rj):aK c n cx sc (.raise k as) pt:=by
 intro A fs Rm env X U J l s hA hX F;refine Sat.bad ?_;exact jw h
end
end
section
section
variable {M:Model}{A:qZ}{E:VP}{s:Shared}{env:Env}{cc P:Addr}{ps:Array Value}{pos:Pos}{firstLine:Nat}{name qual:Str}{params:Arguments}{scope:Scope}{body:Expr}{clos:List (Str×Addr)}{mg:Str->Option Value}
 {Q:VP}
theorem z7j (hc:env.code = .ref cc)(hok:s.heap.IsCode cc P ps)(htab:s.heap.TableAt cc P ps)(hnf:codeAmong pos ps.toList=re)
  (hQ:∀ c' h' tk,Heap.ExtBut P s.heap h'->eE h' (.ref c') qual->h'.get? P=rc (tabObj (ps ++ #[r7 pos.line,r7 pos.col,.ref c']))->Q (.ref c') { s with heap:=h',toks:=tk }):
  wpAny M A (functionCode env pos firstLine name qual params scope (.expr body)) Q E s:=by
 refine wpAny_functionCodeX hc hok htab hnf λc' h' tk hx hge hlt _ hrec htb hn=>?_
 refine el13 hn λP' hP hi ht=>?_
 refine ou hrec λx o vs t e1 e2 e3 e4=>?_
 cases e1
 refine aw λ_ Z9=>?_
 obtain⟨⟨o',vs',f1,f2,_⟩,_⟩:=ht;refine Z9 ?_;cases e2.symm.trans f1;exact hQ c' h' tk hx ⟨_,o,vs,t,rfl,e2,f2,e3,e4⟩ htb.2
theorem z42 {ct:Value}(hge0:env.globals=qw)(hg:s.heap.Ns qw mg)(hcode:env.code = .ref cc)(C:CodeHd s.heap cc P)(hP:s.heap.get? P=rc (tabObj ps))(ht:TriplesOk ps.toList)
  (hnf:codeAmong pos ps.toList=re)(hgP:qw≠P)(hb:s.heap.BuiltinsAt mg P)
  (h:∀ c' h' tk,Heap.ExtBut P s.heap h'->eE h' (.ref c') qual->h'.get? P=rc (tabObj (ps ++ #[r7 pos.line,r7 pos.col,.ref c']))->
   Q (.ref h'.objs.size) { s with heap:=h'.push (kla_obj name qual params body scope clos ((mg "__name__").getD .none) c' ct),toks:=tk }):
  wpAny M A (functionCode env pos firstLine name qual params scope (.expr body) >>= λcd=>builtinsFor env.globals env.builtins >>= λb=>nsGet env.globals "__name__" >>= λm=>(pure qI:Sem Value) >>= λd=>
   newObj (.type "function") (.func { name,qualname:=qual,params,body:=.expr body,scope,globals:=env.globals,closure:=clos,closureTuple:=ct,code:=cd,builtins:=b,defaults:=.none,kwdefaults:=.none,annotations:=re,pyModule:=m.getD .none,doc:=d })) Q E s:=by
 refine el28 hb λbm ob hbm hne0 _ hneP hbo hcls hdict hdata=>?_
 refine hge0▸?_;refine qE (z7j hcode (C.code hP ht) (C.tab hP) hnf λc' h' tk hx hco htb=>?_);have hg':=hg.extBut hx hgP;refine qE (wpAny_builtinsFor hg' hbm hne0 (hx _ _ hneP hbo) hcls hdict hdata ?_);refine qE (wpAny_nsGet hg' ?_);exact qE (qF (pN (h c' h' tk hx hco htb) (by size_fits)))
theorem z9c (hcl:closureFor scope env=pure clos)(hge0:env.globals=qw)(hg:s.heap.Ns qw mg)(hcode:env.code = .ref cc)(C:CodeHd s.heap cc P)(hP:s.heap.get? P=rc (tabObj ps))(ht:TriplesOk ps.toList)
  (hnf:codeAmong pos ps.toList=re)(hgP:qw≠P)(hb:s.heap.BuiltinsAt mg P)
  (h:∀ c' ctv h' tk,Heap.ExtBut P s.heap h'->eE h' (.ref c') qual->h'.get? P=rc (tabObj (ps ++ #[r7 pos.line,r7 pos.col,.ref c']))->
   Q (.ref h'.objs.size) { s with heap:=h'.push (kla_obj name qual params body scope clos ((mg "__name__").getD .none) c' ctv),toks:=tk }):
  wpAny M A (makeFunction name qual params (.expr body) scope env [] [] [] pos firstLine) Q E s:=by
 rw[makeFunction_eq];simp -iota only[List.zip_nil_right,List.filterMap_nil,List.isEmpty_nil,if_true,qO];unfold makeTail;rw[hcl];refine bQ (λh=>qF h) ?_
 induction clos with
 | nil=>exact bQ (λh=>qF h) (z42 hge0 hg hcode C hP ht hnf hgP hb λc' h' tk=>h c' _ h' tk)
 | cons q r=>
  dsimp only[List.isEmpty_cons,pG,if_false];refine bQ (λh=>wpAny_newTextTuple h) ?_;have k:∀ {o':Obj} b o,s.heap.get? b=rc o->(s.heap.push o').get? b=rc o:=λb o e=>oS _ e
  refine el26 hb λbm ob b1 b2 b3 b4 b5 b6=>?_
  exact z42 (s:={ s with heap:=s.heap.push _ }) hge0 (hg.push _) hcode (C.keeps k) (k _ _ hP) ht hnf hgP ⟨bm,ob,b1,b2,b3,b4,k _ _ b5,b6⟩ λc' h' tk hx=>h c' _ h' tk λb o ne e=>hx b o ne (k _ _ e)
end
theorem z4w {pos:Pos}{a b:Int}{x cv:Value}(l:List Value)(h:TriplesOk l)(e:codeAmong pos (l++[r7 a,r7 b,x])=rc cv):codeAmong pos l=rc cv∨cv=x:=by
 fun_induction TriplesOk l with
 | case1=>
  dsimp only[List.nil_append,codeAmong,r7] at e
  split at e
  ·cases e;exact .inr rfl
  ·cases e
 | case2 a' t b' u y rest ih=>
  dsimp only[List.cons_append,codeAmong] at e ⊢
  split at e
  ·cases e;left;rw[if_pos (by assumption)]
  ·rw[if_neg (by assumption)];exact ih h e
 | case3 l h1 h2=>exact h.elim
theorem MH.set_same {J:MH}{a:Nat}{o:O}(q:J.get a=rc o):J.set a o=J:=by
 unfold MH.set;show MH.mk J.n _=MH.mk J.n J.get
 congr 1
 funext b
 rw[MH.upd]
 split
 ·rename_i z;rw[z,q]
 ·rfl
structure LamOk (c:Cfg)(i:Nat):Prop where
 hd:CodeHd c.base (cdA i) (c.tabA (i+1))
 tq:c.tq (i+1)=cdQ i
 blt:∃ bm ob,c.mg "__builtins__" = rc (.ref bm)/\bm≠qD/\bm≠qw/\c.base.get? bm=rc ob/\ob.cls = .type "module"/\ob.dict=rc qD/\ob.data = .plain
section
variable {c:Cfg}{n:Nat}{cx:Cx}{sc:Scope}{i k:Nat}{params:Arguments}{pos:Pos}
theorem z9B (Wk:WOk c)(L:LamOk c i)(hP:cx.P=c.P)(ht:c.P.tab k=i+1)(hl:lA sc i){csc:Scope}{pe:Expr}(hlo:c.lamOk k csc pe)(hsub:∀ n,(n,qk)∈csc.names->sc.names.lookup n=rc .cell∨sc.names.lookup n=rc .free)
  (hp:params=⟨[],[],re,[],[],re,[]⟩):ar c n cx sc (.lam k) (.Lambda params pe csc pos):=by
 subst hp;intro A fs Rm env X U J l s hX F Q E S nb ok ex;have e0:evE cx (.lam k) l J=(M.read (i+1) >>= λo=>match o with | .tab=>(pure (.clo k cx.cl):M V) | _=>M.bad) J:=by rw[<-ht,<-hP];rfl
 cases q:J.get (i+1) with
 | none=>exact absurd (by rw[e0];show M.bind (M.read _) _ J=_;unfold M.bind M.read;rw[q]) nb
 | some o=>
  have e1:evE cx (.lam k) l J=(match o with | .tab=>(pure (.clo k cx.cl):M V) | _=>M.bad) J:=by rw[e0];show M.bind (M.read _) _ J=_;unfold M.bind M.read;rw[q]
  refine(S.obj _ _ q).go λx ob hx ho r nn=>?_
  induction r with
  | @tab ps hx0 htr hall=>
   obtain rfl:=qb (hx.symm.trans hx0);refine el12 (z1c (scope:=csc) (env:=env) λn m=>F.ok.has n (hsub n m)) λcl e2 e3=>?_
   obtain⟨hc,hq⟩:=F.ok.code i hl;refine el27 L.blt λbm ob b1 b2 b3 b4 b5 b6 b7=>?_
   have pb:c.base.get? (c.tabA (i+1))=none:=nn rfl;have ne:∀ {b o},c.base.get? b=rc o->b≠c.tabA (i+1):=λe z=>by simp only[z,pb] at e;cases e
   have hB:s.heap.BuiltinsAt c.mg (c.tabA (i+1)):=⟨bm,ob,b1,b2,b3,ne b4,S.base _ _ b4,b5,b6,b7⟩
   have hfre:∀ n,(n,qk)∈csc.names->∃ y,cl.lookup n=rc y:=λn m=>by rw[e3 n m];exact F.ok.has n (hsub n m)
   have hcl:∀ j a,cx.cl j=rc a->(c.nm j,qk)∈csc.names->∃ y,cl.lookup (c.nm j)=rc y/\U[a]? = rc y:=λj a ea m=>by refine(e3 _ m)▸?_;exact F.cells j a ea (hsub _ m)
   obtain⟨hp,g,dr,tk,os⟩:=s;refine .of (kla_eval rfl ?_);refine hq▸?_;cases z:codeAmong pos ps.toList with
   | some cv=>
    refine kla_makeFunctionHit e2 F.ok.glob (S.hg Wk) hc (L.hd.keeps S.base) ho htr z hB λctv h' tk' hk hsz=>?_
    exact ok _ J U _ _ e1 ((S.keeps hk).push _) ((Evo.keeps hk).trans (.push _)) (.clo (pA _ rfl) rfl (((hall pos cv z).mono λb o e _=>oS _ (hk _ _ e)) |> (L.tq▸·)) ⟨⟨_,rfl,hlo⟩,rfl,rfl,rfl,hfre⟩ hcl)
   | none=>
    refine z9c e2 F.ok.glob (S.hg Wk) hc (L.hd.keeps S.base) ho htr z (ne Wk.hg.choose_spec.choose_spec.choose_spec.1) hB λc' ctv h' tk' hx' hco htb=>?_
    have hr:OR c U h' (i+1) .tab (tabObj (ps ++ #[r7 pos.line,r7 pos.col,.ref c'])):=by
     refine .tab hx0 ?_ λp cv e=>?_
     ·simp only[show(ps ++ #[r7 pos.line,r7 pos.col,qN c']).toList=ps.toList++[r7 pos.line,r7 pos.col,.ref c'] by simp]
      exact TriplesOk_snoc _ _ _ _ htr
     ·replace e:=(show(ps ++ #[r7 pos.line,r7 pos.col,qN c']).toList=ps.toList++[r7 pos.line,r7 pos.col,.ref c'] by simp)▸e
      rcases z4w _ htr e with e | rfl
      ·exact(hall p cv e).mono λb o e f=>hx' b o (λw=>by subst w;replace e:=ho▸e;cases e;exact OR.unfrozen (.tab hx0 htr hall) f) e
      ·simp only[L.tq];exact hco
    have nf:¬ aG (tabObj ps):=OR.unfrozen (.tab hx0 htr hall);have S':=S.butN hx0 ho hx' htb hr pb nf;rw[MH.set_same q] at S'
    exact ok _ J U _ _ e1 (S'.push _) ((Evo.butK hx0 ho hx' htb nf).trans (.push _)) (.clo (pA _ rfl) rfl (hco.mono λb o e _=>oS _ e) ⟨⟨_,rfl,hlo⟩,rfl,rfl,rfl,hfre⟩ hcl)
  | _=>exact absurd e1 nb
end
end
section
section
variable {c:Cfg}{n:Nat}{cx:Cx}{sc:Scope}
theorem z9y (K:CxOk c n cx){f:E}{x:Str}{p1 pos:Pos}(h:ar c n cx sc f (.Name x p1)):ar c n cx sc (.dyn f) (.Call (.Name x p1) [] [] pos):=by
 intro A fs Rm env X U J l s hX F;refine Sat.bind (h A fs Rm env X U J l s hX F) λv J' U' w s' e S E r=>?_
 induction r with
 | @clo y o fd k cs ho hd hco K1 hcl=>
  refine aw λ_ Z9=>?_
  refine el12 K.call λm hm CS=>?_
  refine Z9 ?_;exact Sat.callW (es:=.nil) (g:=λas=>cx.call (.lam k cs) as) Rm .nil rfl hX (F.evo E hX) λvs vals J2 U2 s2 S2 E2 r2=>⟨⟨.frame,.inr rfl,λQ E hq=>by
   refine bQ (λh=>qG (E2.frz _ _ ho (.inr (.inl ⟨_,hd⟩))) h) ?_;refine hd▸?_;exact qF hq⟩,CS A fs (Rm.le (Nat.le_of_succ_le (Nat.le_of_succ_le hm))) (.lam k cs) _ vs vals X U2 J2 s2 (.lam ((VR.clo ho hd hco K1 hcl).evo E2)) r2⟩
 | _=>exact ap
class inductive DiR (P:E->Expr->Prop)(nm:Nat->Str):List Nat->Es->List (Option Expr)->List Expr->Prop
 | nil:DiR P nm [] .nil [] []
 | cons {e pe k ks es keys pes kk p}:P e pe->DiR P nm ks es keys pes->DiR P nm (k:: ks) (.cons e es) (rc (.Constant (.str (nm k)) kk p):: keys) (pe:: pes)
theorem z6D {ks:List Nat}{es:Es}{keys:List (Option Expr)}{pes:List Expr}{pos:Pos}(h:DiR (ar c n cx sc) c.nm ks es keys pes):∀ A fs,Room n A fs->∀ env X U J l s,env.locals∉X->Fst c sc env cx.cl U l s.heap->
  Sat c A fs X U J s (evEs cx es l J) (λU h vs ps=>∃ ws,VRs c U h vs ws/\Carries (sK c) ps ((ks.map c.nm).zip ws)/\ws.length=ks.length) (evalPairs (pairTrees keys pes env pos)):=by
 induction h with
 | nil=>exact λA fs Rm env X U J l s hX F=>Sat.pure ⟨[],.nil,trivial,rfl⟩
 | @cons e pe k ks es keys pes kk p he hes ih=>
  intro A fs Rm env X U J l s hX F;have e0:evEs cx (.cons e es) l=(evE cx (.cstr k) l >>= λ_=>(evE cx e l >>= λv=>(pure v:M V)) >>= λv=>evEs cx es l >>= λvs=>(pure (v:: vs):M (List V))):=by rw[M.id];rfl
  simp only[e0];show Sat c A fs X U J s _ _ (eval (.Constant (.str (c.nm k)) kk p) env >>= λkv=>holding [kv] (eval pe env >>= λx=>standAt pos >>= λ_=>pure x) >>= λvv=>holding [kv,vv] (evalPairs (pairTrees keys pes env pos)) >>= λr=>pure ((kv,vv):: r));refine Sat.bind (z4j rfl A fs Rm env X U J l s hX F) λu J0 U0 kv s0 q0 S0 E0 r0=>?_
  refine Sat.bind (Sat.holding (Sat.bind (he A fs Rm env X U0 J0 l s0 hX (F.evo E0 hX)) λv J1 U1 w s1 q1 S1 E1 r1=>Sat.standAt (Sat.pure (rel:=VR c) r1))) λv J1 U1 w s1 q1 S1 E1 r1=>?_
  have F1:=(F.evo E0 hX).evo E1 hX;refine Sat.bind (Sat.holding (ih A fs Rm env X U1 J1 l s1 hX F1)) λvs J2 U2 ps s2 q2 S2 E2 rr=>?_
  refine el13 rr λws r2 ca hl=>?_
  cases q0
  cases r0
  exact Sat.pure ⟨w:: ws,.cons (r1.evo E2) r2,⟨strKind_is _ _ _ _,rfl,ca⟩,congrArg (· + 1) hl⟩
theorem DiR.len {P:E->Expr->Prop}{nm:Nat->Str}{ks:List Nat}{es:Es}{keys:List (Option Expr)}{pes:List Expr}(h:DiR P nm ks es keys pes):keys.length=ks.length/\keys.length=pes.length/\keys.all (·.isSome)=true:=by
 induction h with
 | nil=>exact⟨rfl,rfl,rfl⟩
 | cons _ _ ih=>exact⟨congrArg (· + 1) ih.1,congrArg (· + 1) ih.2.1,by rw[List.all_cons,ih.2.2];rfl⟩
theorem zbJ {U:List Addr}{h:Heap}{vs:List V}{ws:List Value}(r:VRs c U h vs ws):∀ ks:List Nat,All2 (KV c U h c.nm) (ks.zip vs) ((ks.map c.nm).zip ws):=by
 induction r with
 | nil=>intro ks;cases ks <;> exact .nil
 | cons a _ ih=>intro ks;cases ks with
  | nil=>exact .nil
  | cons k ks=>exact .cons ⟨rfl,a⟩ (ih ks)
theorem z4J (C:CfgOk c){ks:List Nat}(h:ks.Nodup){ws:List Value}(hl:ws.length=ks.length):(((ks.map c.nm).zip ws).map (·.1)).Nodup:=by
 rw[List.map_fst_zip (by rw[qg,hl];exact qC _)];exact List.Pairwise.map _ (λa b ne q=>ne (C.nm _ _ q)) h
theorem z6z (C:CfgOk c){ks:List Nat}{es:Es}{keys:List (Option Expr)}{pes:List Expr}{pos:Pos}(h:DiR (ar c n cx sc) c.nm ks es keys pes):ar c n cx sc (.dictS ks es) (.Dict keys pes pos):=by
 intro A fs Rm env X U J l s hX F Q E S nb ok ex;have e0:evE cx (.dictS ks es) l J=(M.guard (decide (0<ks.length/\ks.length<=15/\ks.Nodup)) >>= λ_=>evEs cx es l >>= λxs=>M.alloc (.sd (ks.zip xs)) >>= λa=>(pure (.ref a):M V)) J:=rfl;cases g:decide (0<ks.length/\ks.length<=15/\ks.Nodup) with
 | false=>rw[g] at e0;exact absurd e0 nb
 | true=>
  refine gh (of_decide_eq_true g) λg1 g2 g3=>?_
  rw[kU g,M.bind_eq] at e0
  rw[e0] at nb ok ex
  refine gh h.len λl1 l2 l3=>?_
  have hn:=pairTrees_length keys pes env pos l3 l2;have hn:(pairTrees keys pes env pos).length=ks.length:=hn.trans l1;have hp0:pairTrees keys pes env pos≠[]:=λq=>Nat.not_lt_zero _ ((q▸hn:([]:List _).length=ks.length)▸g1)
  simp only[arm_eval_Dict,zip_pairTrees keys pes env pos l3 l2,dictDisplay_pairs _ hp0 (hn▸pJ g2 (by decide))];refine a9 (aF (a9 ?_));obtain⟨hp,gg,dr,tk,os⟩:=s;refine bH (λh=>.of (wpAny_alloc h)) ?_;refine a9 (ay ?_);rw[if_pos (by omega)];dsimp only at S F ok ex ⊢
  have Ep:Evo fs [] U hp U (hp.push { cls:=.type "dict",data:=.dict #[] }):=.push _;have hD0:hp.get? hp.objs.size=none:=aZ hp;refine a9 (z6D h A fs Rm env [] U J l ⟨_,gg,dr,tk,os⟩ (by simp) (F.evo Ep (by simp)) _ _ (S.push _) (λq=>nb (by rw[q])) (λvs J1 U1 ps s1 q1 S1 E1 rr O1=>?_) (λj J1 U1 e s1 q1 F1 O1=>?_))
  ·obtain⟨ws,r,ca,hl⟩:=rr
   rw[q1] at ok
   refine el12 (cy.of (Heap.DictOf.new (knd:=sK c) hp)) λob b1 D=>?_
   have b2:=E1.keep _ _ b1 S.no_size.1 (by simp) S.no_size.2.2;have nd:=z4J C g3 hl;have nin:hp.objs.size∉U1:=λm=>by
    rcases E1.fresh _ m with z | z
    ·exact S.no_size.1 z
    ·cases(show rc ob=re from b1.symm.trans z)
   refine ay (a9 (.of (wpAny_storeAll (knd:=sK c) ps _ [] s1 _ ca (D.at b2) (by simp only[List.length_nil,List.length_zip,qg,hl,qx];omega) λh' hd' hs'=>?_)));simp only[merged_nil_of_nodup _ nd] at hd'
   refine el12 (cy.of hd') λob' b3 D'=>?_
   have k:∀ b o,b∉[hp.objs.size]->s1.heap.get? b=rc o->h'.get? b=rc o:=λb o m e=>(hs'.2 b λq=>m (by simp[q])).trans e
   have ne:∀ {b:Addr},b≠hp.objs.size->b∉[hp.objs.size]:=λq m=>q (by simpa using m)
   have nf:∀ {o},s1.heap.get? hp.objs.size=rc o->¬ aG o:=λe=>by
    cases b2.symm.trans e
    exact cB D.2.choose_spec.choose_spec.1
   have S2:St c fs U1 J1 h':=S1.other (λb o e z=>k b o (ne λq=>by
    subst q
    rcases z with z | z | z
    ·exact nin z
    ·exact nf e z
    ·replace z:=S.no_size.2.1▸z;cases z) e) ⟨λenv m=>by
     refine aw λ_ Z9=>?_
     obtain⟨a,L,o,es,n,e1,e2,e3,e4,e6⟩:=S1.fr.each env m;refine Z9 ?_;exact⟨a,L,o,es,n,e1,e2,e3,k _ _ (ne λq=>S.no_size.2.2 (List.mem_filterMap.mpr ⟨env,m,q▸e1⟩)) e4,e6⟩⟩
   have E2:Evo fs X U hp U1 h':=((Ep.trans E1).wider (by simp)).ended (own:=[hp.objs.size]) (λb m=>by simp at m;subst m;exact hD0) k;refine ac (ac (ac ?_));exact ok (.ref J1.n) _ (U1++[hp.objs.size]) _ _ rfl (S2.own b3 nin S.no_size.2.1 S.no_size.2.2 (.sd D' ((zbJ r ks).imp λ_ _ z=>⟨z.1,z.2.mono (λa x e=>by
    rw[oO (List.getElem?_eq_some_iff.mp e).1];exact e) λb o e f=>k b o (ne λq=>by subst q;exact nf e f) e⟩))) (E2.own hD0) (.ref (by rw[S1.len];simp)) ⟨O1.gens,O1.os⟩
  ·rw[q1] at ex
   exact ex j J1 U1 e s1 rfl ((F1.before Ep).wider (by simp)) ⟨O1.gens,O1.os⟩
end
end
section
theorem ae {a b:Bool}(h:(a&&b)=rg):a=true:=(Bool.and_eq_true_iff.mp h).1
theorem aj {a b:Bool}(h:(a&&b)=rg):b=true:=(Bool.and_eq_true_iff.mp h).2
theorem aL2 {a b0 b1:Bool}(h:(a&&b0&&b1)=rg):a=true:=ae (ae h)
theorem aL3 {a b0 b1 b2:Bool}(h:(a&&b0&&b1&&b2)=rg):a=true:=ae (ae (ae h))
theorem aL4 {a b0 b1 b2 b3:Bool}(h:(a&&b0&&b1&&b2&&b3)=rg):a=true:=ae (ae (ae (ae h)))
theorem aL5 {a b0 b1 b2 b3 b4:Bool}(h:(a&&b0&&b1&&b2&&b3&&b4)=rg):a=true:=ae (ae (ae (ae (ae h))))
theorem aL6 {a b0 b1 b2 b3 b4 b5:Bool}(h:(a&&b0&&b1&&b2&&b3&&b4&&b5)=rg):a=true:=ae (ae (ae (ae (ae (ae h)))))
theorem aL7 {a b0 b1 b2 b3 b4 b5 b6:Bool}(h:(a&&b0&&b1&&b2&&b3&&b4&&b5&&b6)=rg):a=true:=ae (ae (ae (ae (ae (ae (ae h))))))
theorem aL8 {a b0 b1 b2 b3 b4 b5 b6 b7:Bool}(h:(a&&b0&&b1&&b2&&b3&&b4&&b5&&b6&&b7)=rg):a=true:=ae (ae (ae (ae (ae (ae (ae (ae h)))))))
theorem zbN {a b0 b1 b2 b3 b4 b5 b6 b7 b8 b9:Bool}(h:(a&&b0&&b1&&b2&&b3&&b4&&b5&&b6&&b7&&b8&&b9)=rg):a=true:=ae (ae (ae (ae (ae (ae (ae (ae (ae (ae h)))))))))
theorem aM1 {x a b0:Bool}(h:(x&&a&&b0)=rg):a=true:=aj (ae h)
theorem aM2 {x a b0 b1:Bool}(h:(x&&a&&b0&&b1)=rg):a=true:=aj (ae (ae h))
theorem aM3 {x a b0 b1 b2:Bool}(h:(x&&a&&b0&&b1&&b2)=rg):a=true:=aj (ae (ae (ae h)))
theorem aM4 {x a b0 b1 b2 b3:Bool}(h:(x&&a&&b0&&b1&&b2&&b3)=rg):a=true:=aj (ae (ae (ae (ae h))))
theorem aM5 {x a b0 b1 b2 b3 b4:Bool}(h:(x&&a&&b0&&b1&&b2&&b3&&b4)=rg):a=true:=aj (ae (ae (ae (ae (ae h)))))
theorem aM6 {x a b0 b1 b2 b3 b4 b5:Bool}(h:(x&&a&&b0&&b1&&b2&&b3&&b4&&b5)=rg):a=true:=aj (ae (ae (ae (ae (ae (ae h))))))
theorem aM7 {x a b0 b1 b2 b3 b4 b5 b6:Bool}(h:(x&&a&&b0&&b1&&b2&&b3&&b4&&b5&&b6)=rg):a=true:=aj (ae (ae (ae (ae (ae (ae (ae h)))))))
theorem aM8 {x a b0 b1 b2 b3 b4 b5 b6 b7:Bool}(h:(x&&a&&b0&&b1&&b2&&b3&&b4&&b5&&b6&&b7)=rg):a=true:=aj (ae (ae (ae (ae (ae (ae (ae (ae h))))))))
theorem aM9 {x a b0 b1 b2 b3 b4 b5 b6 b7 b8:Bool}(h:(x&&a&&b0&&b1&&b2&&b3&&b4&&b5&&b6&&b7&&b8)=rg):a=true:=aj (ae (ae (ae (ae (ae (ae (ae (ae (ae h)))))))))
theorem z6e {a:List Nat}:∀ {b:List Nat},jH a b=rg->a=b:=by
 induction a with
 | nil=>intro b h;cases b with
  | nil=>rfl
  | cons=>cases h
 | cons x a ih=>intro b h;cases b with
  | nil=>cases h
  | cons y b=>rw[oX (ae (a:=qX x y) h),ih (aj (a:=qX x y) h)]
theorem z1j:∀ a:List Nat,jH a a=rg
 | []=>rfl
 | a:: as=>by show(qX a a&&jH as as)=rg;rw[z1j as,Nat.beq_refl];rfl
theorem cF {a b:Str}(h:sEq a b=rg):a=b:=by
 obtain⟨⟨a⟩⟩:=a;obtain⟨⟨b⟩⟩:=b;have:a=b:=z6e h;rw[this]
theorem hF (a:Str):sEq a a=true:=z1j _
theorem j0 {a b:Str}:(a==b)=sEq a b:=by
 cases h:sEq a b with
 | true=>rw[cF h];exact beq_self_eq_true _
 | false=>
  cases q:a==b with
  | false=>rfl
  | true=>rw[qL q,hF] at h;cases h
theorem dY {n:Str}:∀ l,jB n l=l.lookup n
 | []=>rfl
 | (x,k):: r=>by
  show(bif sEq n x then rc k else jB n r)=_;rw[qa,j0,dY r];cases sEq n x <;> rfl
theorem jx {k:qV}{sc:Scope}{x:Str}(h:isK k sc x=rg):sc.names.lookup x=rc k:=(dY _).symm.trans (of_decide_eq_true h)
theorem dN {sc:Scope}{x:Str}(h:isL sc x=rg):sc.names.lookup x=rc .local:=jx h
theorem i8 {sc:Scope}{x:Str}(h:isG sc x=rg):sc.names.lookup x=rc .globalImplicit:=jx h
theorem md {sc:Scope}{x:Str}(h:isC sc x=rg):sc.names.lookup x=rc .cell∨sc.names.lookup x=rc .free:=(Bool.or_eq_true_iff.mp h).imp jx jx
theorem cq {x:Str}(h:dQ x=rg):(x==("__debug__" : Str))=false:=by
 rw[j0];unfold dQ at h;simpa using h
theorem z48 {x:Str}(h:jL x=rg):(x==("__classdict__" : Str))=false:=by
 rw[j0];unfold jL at h;simpa using h
theorem jN {a:Option Str}{b:Str}(h:oEq a b=rg):a=rc b:=by
 induction a with
 | none=>cases h
 | some a=>rw[cF (show sEq a b=rg from h)]
theorem dW {pe:Expr}(h:ik pe=rg)(env:Env)(x:Value):pO pe env x=pure x:=by
 cases pe <;> first | rfl | exact pY h
noncomputable def z8a (pe:Expr):Bool:=[23,16,20,19,21].any (qX pe.ctorIdx)
theorem z6j {pe:Expr}(h:z8a pe=rg)(env:Env)(whole:Sem Value):isTrue pe env whole=(do let v<-whole;standAt pe.pos;holding [v] (truthy v)):=by
 cases pe <;> first | rfl | exact pY h
theorem dP {names:List (Str×qV)}:∀ {l},gJ names l=rg->∀ x∈l,(x.2 = .local->names.lookup x.1=rc .local)/\x.2≠.cell
 | []=>by intro _ x m;cases m
 | (y,k):: r=>by
  intro h x m;have h1:=ae h;have h2:=aj h
  rcases List.mem_cons.mp m with rfl | m
  ·induction k with
   | «local»=>
    refine⟨λ_=>?_,by simp⟩;dsimp only at h1
    rw[dY] at h1
    split at h1
    ·assumption
    ·cases h1
   | cell=>cases h1
   | _=>exact⟨by simp,by simp⟩
  ·exact dP h2 x m
theorem i6 {sc:Scope}:∀ {l},kT sc l=rg->∀ n,(n,qk)∈l->sc.names.lookup n=rc .cell∨sc.names.lookup n=rc .free
 | []=>by intro _ x m;cases m
 | (y,k):: r=>by
  intro h x m;have h1:=ae h;have h2:=aj h
  rcases List.mem_cons.mp m with e | m
  ·cases e
   exact md h1
  ·exact i6 h2 x m
theorem fH {sc csc:Scope}(h:hZ sc csc=rg):CSc sc csc:=by
 unfold hZ at h
 simp only[pU,decide_eq_true_eq] at h
 obtain⟨⟨h1,h2⟩,h3⟩:=h;exact⟨h1,λx m=>(dP h2 x m).1,λx m=>(dP h2 x m).2,i6 h3⟩
theorem cf {p:Prop} [Decidable p](h:decide p=rg):p:=of_decide_eq_true h
theorem bG {a:Bool}(h:(!a)=rg):a=false:=by cases a <;> first | rfl | cases h
theorem fu {a b:Bool}(h:(!a||b)=rg):a=rg->b=true:=λq=>by subst q;exact h
theorem cK {C:Expr->Prop}{pe:Expr}{f:Str->Bool}(h:eZ pe f=rg)(k:∀ n p,f n=rg->C (.Name n p)):C pe:=
 (bb h).elim λq h=>
 Expr.Name.elim (motive_1:=λpe=>∀ q:pe.ctorIdx=23,Expr.Name.elim (motive_1:=λ_=>Bool) pe q (λn _=>f n)=rg->C pe) pe q (λv0 v1 _ h=>k v0 v1 h) q h
theorem cQ {C:Expr->Prop}{pe:Expr}{f:Const->Bool}(h:eT pe f=rg)(k:∀ v i p,f v=rg->C (.Constant v i p)):C pe:=
 (bb h).elim λq h=>
 Expr.Constant.elim (motive_1:=λpe=>∀ q:pe.ctorIdx=19,Expr.Constant.elim (motive_1:=λ_=>Bool) pe q (λv _ _=>f v)=rg->C pe) pe q (λv0 v1 v2 _ h=>k v0 v1 v2 h) q h
theorem zbz {C:Expr->Prop}{pe:Expr}{f:Expr->Operator->Expr->Bool}(h:zcW pe f=rg)(k:∀ a o b p,f a o b=rg->C (.BinOp a o b p)):C pe:=
 (bb h).elim λq h=>
 Expr.BinOp.elim (motive_1:=λpe=>∀ q:pe.ctorIdx=2,Expr.BinOp.elim (motive_1:=λ_=>Bool) pe q (λa o b _=>f a o b)=rg->C pe) pe q (λv0 v1 v2 v3 _ h=>k v0 v1 v2 v3 h) q h
theorem z8H {C:Expr->Prop}{pe:Expr}{f:Expr->List CmpOp->List Expr->Bool}(h:oH pe f=rg)(k:∀ a os bs p,f a os bs=rg->C (.Compare a os bs p)):C pe:=
 (bb h).elim λq h=>
 Expr.Compare.elim (motive_1:=λpe=>∀ q:pe.ctorIdx=15,Expr.Compare.elim (motive_1:=λ_=>Bool) pe q (λa os bs _=>f a os bs)=rg->C pe) pe q (λv0 v1 v2 v3 _ h=>k v0 v1 v2 v3 h) q h
theorem z5D {C:Expr->Prop}{pe:Expr}{f:PySem.BoolOp->List Expr->Bool}(h:nU pe f=rg)(k:∀ o es p,f o es=rg->C (.BoolOp o es p)):C pe:=
 (bb h).elim λq h=>
 Expr.BoolOp.elim (motive_1:=λpe=>∀ q:pe.ctorIdx=0,Expr.BoolOp.elim (motive_1:=λ_=>Bool) pe q (λo es _=>f o es)=rg->C pe) pe q (λv0 v1 v2 _ h=>k v0 v1 v2 h) q h
theorem zcZ {C:Expr->Prop}{pe:Expr}{f:PySem.UnaryOp->Expr->Bool}(h:xUn pe f=rg)(k:∀ o a p,f o a=rg->C (.UnaryOp o a p)):C pe:=
 (bb h).elim λq h=>
 Expr.UnaryOp.elim (motive_1:=λpe=>∀ q:pe.ctorIdx=3,Expr.UnaryOp.elim (motive_1:=λ_=>Bool) pe q (λo a _=>f o a)=rg->C pe) pe q (λv0 v1 v2 _ h=>k v0 v1 v2 h) q h
theorem zcX {C:Expr->Prop}{pe:Expr}{f:Expr->Expr->Expr->Bool}(h:xIf pe f=rg)(k:∀ a b d p,f a b d=rg->C (.IfExp a b d p)):C pe:=
 (bb h).elim λq h=>
 Expr.IfExp.elim (motive_1:=λpe=>∀ q:pe.ctorIdx=5,Expr.IfExp.elim (motive_1:=λ_=>Bool) pe q (λa b d _=>f a b d)=rg->C pe) pe q (λv0 v1 v2 v3 _ h=>k v0 v1 v2 v3 h) q h
theorem gd {C:Expr->Prop}{pe:Expr}{f:Expr->Str->Pos->Bool}(h:k9 pe f=rg)(k:∀ a n p,f a n p=rg->C (.Attribute a n p)):C pe:=
 (bb h).elim λq h=>
 Expr.Attribute.elim (motive_1:=λpe=>∀ q:pe.ctorIdx=20,Expr.Attribute.elim (motive_1:=λ_=>Bool) pe q (λa n p=>f a n p)=rg->C pe) pe q (λv0 v1 v2 _ h=>k v0 v1 v2 h) q h
theorem j4 {C:Expr->Prop}{pe:Expr}{f:Expr->List Expr->List PySem.Keyword->Pos->Bool}(h:lO pe f=rg)(k:∀ g as ks p,f g as ks p=rg->C (.Call g as ks p)):C pe:=
 (bb h).elim λq h=>
 Expr.Call.elim (motive_1:=λpe=>∀ q:pe.ctorIdx=16,Expr.Call.elim (motive_1:=λ_=>Bool) pe q (λg as ks p=>f g as ks p)=rg->C pe) pe q (λv0 v1 v2 v3 _ h=>k v0 v1 v2 v3 h) q h
theorem gQ {C:Expr->Prop}{pe:Expr}{f:Expr->Expr->Bool}(h:lR pe f=rg)(k:∀ a i p,f a i=rg->C (.Subscript a i p)):C pe:=
 (bb h).elim λq h=>
 Expr.Subscript.elim (motive_1:=λpe=>∀ q:pe.ctorIdx=21,Expr.Subscript.elim (motive_1:=λ_=>Bool) pe q (λa i _=>f a i)=rg->C pe) pe q (λv0 v1 v2 _ h=>k v0 v1 v2 h) q h
theorem kc {C:Expr->Prop}{pe:Expr}{f:Option Expr->Option Expr->Option Expr->Bool}(h:ly pe f=rg)(k:∀ a b d p,f a b d=rg->C (.Slice a b d p)):C pe:=
 (bb h).elim λq h=>
 Expr.Slice.elim (motive_1:=λpe=>∀ q:pe.ctorIdx=26,Expr.Slice.elim (motive_1:=λ_=>Bool) pe q (λa b d _=>f a b d)=rg->C pe) pe q (λv0 v1 v2 v3 _ h=>k v0 v1 v2 v3 h) q h
theorem z9Z {C:Expr->Prop}{pe:Expr}{f:List Expr->Bool}(h:zaI pe f=rg)(k:∀ es p,f es=rg->C (.List es p)):C pe:=
 (bb h).elim λq h=>
 Expr.List.elim (motive_1:=λpe=>∀ q:pe.ctorIdx=24,Expr.List.elim (motive_1:=λ_=>Bool) pe q (λes _=>f es)=rg->C pe) pe q (λv0 v1 _ h=>k v0 v1 h) q h
theorem lz {C:Expr->Prop}{pe:Expr}{f:List Expr->Bool}(h:nW pe f=rg)(k:∀ es i p,f es=rg->C (.Tuple es i p)):C pe:=
 (bb h).elim λq h=>
 Expr.Tuple.elim (motive_1:=λpe=>∀ q:pe.ctorIdx=25,Expr.Tuple.elim (motive_1:=λ_=>Bool) pe q (λes _ _=>f es)=rg->C pe) pe q (λv0 v1 v2 _ h=>k v0 v1 v2 h) q h
theorem z5E {C:Expr->Prop}{pe:Expr}{f:List (Option Expr)->List Expr->Bool}(h:nV pe f=rg)(k:∀ ks vs p,f ks vs=rg->C (.Dict ks vs p)):C pe:=
 (bb h).elim λq h=>
 Expr.Dict.elim (motive_1:=λpe=>∀ q:pe.ctorIdx=6,Expr.Dict.elim (motive_1:=λ_=>Bool) pe q (λks vs _=>f ks vs)=rg->C pe) pe q (λv0 v1 v2 _ h=>k v0 v1 v2 h) q h
theorem j5 {C:Expr->Prop}{pe:Expr}{f:Expr->List PySem.Comprehension->Scope->Pos->Bool}(h:lP pe f=rg)(k:∀ el gs sc p,f el gs sc p=rg->C (.ListComp el gs sc p)):C pe:=
 (bb h).elim λq h=>
 Expr.ListComp.elim (motive_1:=λpe=>∀ q:pe.ctorIdx=8,Expr.ListComp.elim (motive_1:=λ_=>Bool) pe q (λel gs sc p=>f el gs sc p)=rg->C pe) pe q (λv0 v1 v2 v3 _ h=>k v0 v1 v2 v3 h) q h
theorem zbA {C:Expr->Prop}{pe:Expr}{f:Arguments->Expr->Scope->Bool}(h:zcY pe f=rg)(k:∀ a b s p,f a b s=rg->C (.Lambda a b s p)):C pe:=
 (bb h).elim λq h=>
 Expr.Lambda.elim (motive_1:=λpe=>∀ q:pe.ctorIdx=4,Expr.Lambda.elim (motive_1:=λ_=>Bool) pe q (λa b s _=>f a b s)=rg->C pe) pe q (λv0 v1 v2 v3 _ h=>k v0 v1 v2 v3 h) q h
theorem fF {C:Expr->Prop}{pe:Expr}{f:Str->Pos->Bool}(h:ir pe f=rg)(k:∀ n p,f n p=rg->C (.Name n p)):C pe:=
 (bb h).elim λq h=>
 Expr.Name.elim (motive_1:=λpe=>∀ q:pe.ctorIdx=23,Expr.Name.elim (motive_1:=λ_=>Bool) pe q (λn p=>f n p)=rg->C pe) pe q (λv0 v1 _ h=>k v0 v1 h) q h
theorem cY {Y:Type}{l:List Y}(h:l0 l=rg):l=[]:=by induction l with | nil=>rfl | cons _ _=>cases h
theorem cZ {Y:Type}{C:List Y->Prop}{l:List Y}{f:Y->Bool}(h:l1 l f=rg)(k:∀ a,f a=rg->C [a]):C l:=by
 induction l with
 | nil=>cases h
 | cons a r=>have h2:=aj h;obtain rfl:=cY (ae h);exact k a h2
theorem gX {Y:Type}{C:List Y->Prop}{l:List Y}{f:Y->Y->Bool}(h:l2 l f=rg)(k:∀ a b,f a b=rg->C [a,b]):C l:=by
 induction l with
 | nil=>cases h
 | cons a r=>exact cZ (C:=λr=>C (a:: r)) h λb=>k a b
theorem zcr {Y:Type}{C:List Y->Prop}{l:List Y}{f:Y->Y->Y->Bool}(h:l3 l f=rg)(k:∀ a b d,f a b d=rg->C [a,b,d]):C l:=by
 induction l with
 | nil=>cases h
 | cons a r=>exact gX (C:=λr=>C (a:: r)) h λb d=>k a b d
theorem cP {Y:Type}{C:Option Y->Prop}{o:Option Y}{f:Y->Bool}(h:so o f=rg)(k:∀ a,f a=rg->C (rc a)):C o:=by
 induction o with
 | none=>cases h
 | some a=>exact k a h
theorem ig {Y:Type}{o:Option Y}(h:no o=rg):o=none:=by induction o with | none=>rfl | some _=>cases h
theorem zbb {v:Const}{i:Int}(h:zcp v i=rg):v = .int i:=by cases v <;> first | exact congrArg _ (cf h).symm | cases h
theorem kZ {v:Const}{i:Str}(h:nG v i=rg):v = .str i:=by cases v <;> first | exact congrArg _ (cF h).symm | cases h
theorem z99 {v:Const}(h:zap v=rg):v = .none:=by cases v <;> first | rfl | cases h
theorem z98 {v:Const}{i:Bool}(h:zao v i=rg):v = .bool i:=by cases v <;> first | exact congrArg _ (qL h).symm | cases h
theorem zba {v:Const}(h:zco v=rg):v = .bytes []:=by cases v <;> first | exact congrArg _ (cY h) | cases h
theorem lQ {C:Expr->Prop}{pe:Expr}{sc:Scope}{f:Str->List Expr->Bool}(h:xNm pe sc f=rg)(k:∀ n p as q,sc.names.lookup n=rc .globalImplicit->f n as=rg->C (.Call (.Name n p) as [] q)):C pe:=
 j4 h λg as ks q h=>by
  obtain rfl:=cY (ae h);exact cK (C:=λg=>C (.Call g as [] q)) (aj h) λn p h=>k n p as q (i8 (ae h)) (aj h)
theorem nT {C:Expr->Prop}{pe:Expr}{sc:Scope}{b:Str}{f:List Expr->Bool}(h:xB pe sc b f=rg)(k:∀ p as q,sc.names.lookup b=rc .globalImplicit->au as=rg->f as=rg->C (.Call (.Name b p) as [] q)):C pe:=
 lQ h λn p as q hg h=>by
  obtain rfl:=cF (aL2 h);exact k p as q hg (aM1 h) (aj h)
theorem zbl {a:Arguments}(h:zcz a=rg):a=⟨[],[],re,[],[],re,[]⟩:=by
 obtain⟨a1,a2,a3,a4,a5,a6,a7⟩:=a;obtain rfl:=cY (aj h);obtain rfl:=ig (aM1 h);obtain rfl:=cY (aM2 h);obtain rfl:=cY (aM3 h);obtain rfl:=ig (aM4 h);obtain rfl:=cY (aM5 h);obtain rfl:=cY (aL6 h);rfl
theorem z2M {sc:Scope}{x:Str}(h:kY sc x=rg):sc.names.lookup x=rc .cell:=jx h
theorem z7R {sc:Scope}{i:Nat}(h:zar sc i=rg):lA sc i:=⟨z2M (ae h),dN (aj h)⟩
theorem zc2 {P:E->Expr->Prop}{T:Tb}{es:Es}{pes:List Expr}(r:EsR P es pes):∀ {ks:List Nat}{keys:List (Option Expr)},mn T ks keys pes=rg->DiR P T.nm ks es keys pes:=by
 induction r with
 | nil=>intro ks keys h;cases ks <;> cases keys <;> first | exact .nil | exact pY h
 | @cons e es pe pes a _ ih=>intro ks keys h;cases ks with
  | nil=>cases keys <;> exact pY h
  | cons k ks=>cases keys with
   | nil=>exact pY h
   | cons o keys=>
    exact cP (C:=λo=>DiR P T.nm (k:: ks) (.cons e es) (o:: keys) (pe:: pes)) (ae h) λq hq=>cQ (C:=λq=>DiR P T.nm (k:: ks) (.cons e es) (rc q:: keys) (pe:: pes)) hq λv i p hv=>by
     obtain rfl:=kZ hv;exact .cons a (ih (aj h))
structure Facts (c:Cfg)(T:Tb):Prop where
 C:CfgOk c
 Wk:WOk c
 I:bZ c
 nm:c.nm=T.nm
 fnNm:c.fnNm=T.fnNm
 clsNm:c.clsNm=T.clsNm
 can:c.P.can=T.can
 lamOk:∀ k sc pe,T.lam k sc pe=rg->c.lamOk k sc pe
 tab:∀ k,c.P.tab k=T.tab k+1
 L:∀ i,LamOk c i
noncomputable def cL (t:Bool)(c:Cfg)(n:Nat)(cx:Cx)(sc:Scope)(e:Mine.Internal.E)(pe:Expr):Prop:=match t with
 | true=>f6 c n cx sc e pe
 | false=>ar c n cx sc e pe
section
variable {c:Cfg}{T:Tb}{n:Nat}{cx:Cx}
theorem cL.plain {t:Bool}{sc:Scope}{e:Mine.Internal.E}{pe:Expr}(hp:z8a pe=rg)(h:ar c n cx sc e pe):cL t c n cx sc e pe:=by
 induction t with
 | true=>exact z9M h λenv whole=>z6j hp env whole
 | false=>exact h
theorem cL.not {t:Bool}{sc:Scope}{e:Mine.Internal.E}{pe:Expr}(ht:(!t)=rg)(h:ar c n cx sc e pe):cL t c n cx sc e pe:=by
 induction t with
 | true=>cases ht
 | false=>exact h
theorem z6C {t:Bool}{sc:Scope}{pe:Expr}:cL t c n cx sc .never pe:=by
 cases t with
 | true=>exact λA fs _ env X U J l s _ _=>ap
 | false=>exact λA fs _ env X U J l s _ _=>ap
theorem ic (F:Facts c T){x:Nat}{n:Str}(h:sEq (T.nm x) n=rg):c.nm x=n:=by rw[F.nm];exact cF h
mutual
theorem am (F:Facts c T)(K:CxOk c n cx):∀ (e:Mine.Internal.E)(t:Bool)(sc:Scope)(pe:Expr),aO T t sc e pe=rg->cL t c n cx sc e pe
 | .loc x=>λt sc pe h=>cK h λm p h=>.plain rfl (z9C (ic F (aL2 h)) (dN (aM1 h)) (cq (aj h)))
 | .cel x=>λt sc pe h=>cK h λm p h=>.plain rfl (z9w (ic F (aL3 h)) (md (aM2 h)) (cq (aM1 h)) (z48 (aj h)))
 | .gint x=>λt sc pe h=>cK h λm p h=>.plain rfl (z8r F.Wk K.P (ic F (aL2 h)) (i8 (aM1 h)) (cq (aj h)))
 | .cint i=>λt sc pe h=>cQ h λv k p h=>by obtain rfl:=zbb h;exact .plain rfl z8n
 | .cstr k=>λt sc pe h=>cQ h λv k p h=>by obtain rfl:=kZ h;exact .plain rfl (z4j (by rw[F.nm]))
 | .cnone=>λt sc pe h=>cQ h λv k p h=>by obtain rfl:=z99 h;exact .plain rfl z6x
 | .cbool b=>λt sc pe h=>cQ h λv k p h=>by obtain rfl:=z98 h;exact .plain rfl z6v
 | .cbytes=>λt sc pe h=>cQ h λv k p h=>by obtain rfl:=zba h;exact .plain rfl z4Y
 | .bin op a b=>λt sc pe h=>zbz (aj h) λpa o pb p h'=>by
  obtain rfl:=cf (aL2 h');exact .not (ae h) (z9v (am F K a rj sc _ (aM1 h')) (am F K b rj sc _ (aj h')))
 | .cmp op a b=>λt sc pe h=>z8H h λpa os pbs p h=>cZ (C:=λos=>cL t c n cx sc (.cmp op a b) (.Compare pa os pbs p)) h λo h=>cZ (C:=λpbs=>cL t c n cx sc (.cmp op a b) (.Compare pa [o] pbs p)) h λpb h=>by
  obtain rfl:=cf (aL3 h);have ha:=am F K a rj sc _ (aM2 h);have hb:=am F K b rj sc _ (aM1 h);have hq:=bG (aj h);cases t
  ·exact z9x F.C ha hb hq
  ·exact z8p F.C ha hb hq
 | .cmp2 o q a b d=>λt sc pe h=>z8H h λpa os pbs p h=>gX (C:=λos=>cL t c n cx sc (.cmp2 o q a b d) (.Compare pa os pbs p)) h λo' p' h=>gX (C:=λpbs=>cL t c n cx sc (.cmp2 o q a b d) (.Compare pa [o',p'] pbs p)) h λpb pd h=>by
  obtain rfl:=cf (aL5 h);obtain rfl:=cf (aM4 h);have ha:=am F K a rj sc _ (aM3 h);have hb:=am F K b rj sc _ (aM2 h);have hd:=am F K d rj sc _ (aM1 h);have hq:=bG (aj h);cases t
  ·exact z8o F.C ha hb hd hq
  ·exact z6w F.C ha hb hd hq
 | .and es=>λt sc pe h=>z5D h λo pes p h=>by
  obtain rfl:=cf (ae h);have:=chkEs_ok F K es t sc _ (aj h);cases t
  ·exact z8i this
  ·exact z8j this
 | .or es=>λt sc pe h=>z5D h λo pes p h=>by
  obtain rfl:=cf (ae h);have:=chkEs_ok F K es t sc _ (aj h);cases t
  ·exact z9G this
  ·exact z9H this
 | .not a=>λt sc pe h=>zcZ h λo pa p h=>by
  obtain rfl:=cf (ae h);have:=am F K a t sc _ (aj h);cases t
  ·exact z9F this
  ·exact z8v this
 | .ite k a b=>λt sc pe h=>zcX (aj h) λpk pa pb p h'=>.not (ae h) (z9A (am F K k rg sc _ (aL2 h')) (am F K a rj sc _ (aM1 h')) (am F K b rj sc _ (aj h')))
 | .attr o f=>λt sc pe h=>gd h λpo m p h=>.plain rfl (z8k F.Wk K.P (ic F (aL2 h)) (aM1 h) (am F K o rj sc _ (aj h)))
 | .call f as=>λt sc pe h=>lQ h λx p pas q hg h=>.plain rfl (z6u F.Wk K (by rw[F.fnNm];exact jN (aL3 h)) (chkEs_ok F K as rj sc _ (aM2 h)) (aM1 h) hg (cq (aj h)))
 | .new k as=>λt sc pe h=>lQ h λx p pas q hg h=>.plain rfl (z9E F.Wk K (by rw[F.clsNm];exact jN (aL3 h)) (chkEs_ok F K as rj sc _ (aM2 h)) (aM1 h) hg (cq (aj h)))
 | .dyn f=>λt sc pe h=>j4 h λg as ks q h=>by
  obtain rfl:=cY (aL2 h);obtain rfl:=cY (aM1 h);exact fF (C:=λg=>cL t c n cx sc (.dyn f) (.Call g [] [] q)) (aj h) λm p h=>.plain rfl (z9y K (am F K f rj sc _ h))
 | .meth o m b as=>λt sc pe h=>j4 h λg pas ks pos h=>by
  obtain rfl:=cY (ae h);refine gd (C:=λg=>cL t c n cx sc (.meth o m b as) (.Call g pas [] pos)) (aj h) λpo x apos h=>?_
  refine .plain rfl (z8t F.C F.Wk F.I K (ic F (aL7 h)) (λy e=>?_) (aM5 h) (am F K o rj sc _ (aM4 h)) (chkEs_ok F K as rj sc _ (aM3 h)) (aM2 h) (cf (aM1 h)) (aj h));subst e;exact cF (aM6 h)
 | .b0=>λt sc pe h=>nT (aj h) λp as q hg hs h'=>by
  obtain rfl:=cY h';exact .not (ae h) (zbp F.Wk hg)
 | .b1 b a=>by
  intro t sc pe h;by_cases hb:b = .isint
  ·subst hb
   refine lQ (sc:=sc) (f:=λx pas=>sEq x "isinstance" && l2 pas λpa py=>eZ py λy=>sEq y "int" && aO T rj sc a pa&&aR pa&&isG sc y) h λx p pas q hg h=>?_
   obtain rfl:=cF (ae h);refine gX (C:=λpas=>cL t c n cx sc (.b1 .isint a) (.Call (.Name "isinstance" p) pas [] q)) (aj h) λpa py h=>?_
   refine cK (C:=λpy=>cL t c n cx sc (.b1 .isint a) (.Call (.Name "isinstance" p) [pa,py] [] q)) h λy p' h=>?_
   obtain rfl:=cF (aL3 h);exact .plain rfl (z6A F.C F.Wk (am F K a rj sc _ (aM2 h)) (aM1 h) hg (i8 (aj h)))
  ·refine nT (b:=f8 b) (sc:=sc) (f:=λpas=>l1 pas λpa=>aO T rj sc a pa) (by cases b <;> first | exact h | exact absurd rfl hb) λp as q hg hs h=>?_
   refine cZ (C:=λas=>au as=rg->cL t c n cx sc (.b1 b a) (.Call (.Name (f8 b) p) as [] q)) h (λpa h hs=>?_) hs;exact .plain rfl (zbq F.C F.Wk hb (am F K a rj sc _ h) hs hg)
 | .min a b=>λt sc pe h=>nT h λp as q hg hs h=>gX (C:=λas=>au as=rg->cL t c n cx sc (.min a b) (.Call (.Name "min" p) as [] q)) h (λpa pb h hs=>.plain rfl (z8u F.Wk (am F K a rj sc _ (ae h)) (am F K b rj sc _ (aj h)) hs hg)) hs
 | .idx o i=>λt sc pe h=>gQ h λpo pi p h=>.plain rfl (z9z F.C (aL2 h) (am F K o rj sc _ (aM1 h)) (am F K i rj sc _ (aj h)))
 | .upto o a=>λt sc pe h=>gQ h λpo pi p h=>kc (C:=λpi=>cL t c n cx sc (.upto o a) (.Subscript po pi p)) h λx y z q h=>cP (C:=λy=>cL t c n cx sc (.upto o a) (.Subscript po (.Slice x y z q) p)) h λpa h=>by
  obtain rfl:=ig (aL3 h);obtain rfl:=ig (aM2 h);exact .plain rfl (z8y (am F K o rj sc _ (aM1 h)) (am F K a rj sc _ (aj h)))
 | .part o a b=>λt sc pe h=>gQ h λpo pi p h=>kc (C:=λpi=>cL t c n cx sc (.part o a b) (.Subscript po pi p)) h λx y z q h=>cP (C:=λx=>cL t c n cx sc (.part o a b) (.Subscript po (.Slice x y z q) p)) h λpa h=>cP (C:=λy=>cL t c n cx sc (.part o a b) (.Subscript po (.Slice (rc pa) y z q) p)) h λpb h=>by
  obtain rfl:=ig (aL3 h);exact .plain rfl (z8w (am F K o rj sc _ (aM2 h)) (am F K a rj sc _ (aM1 h)) (am F K b rj sc _ (aj h)))
 | .list es=>λt sc pe h=>z9Z (aj h) λpes p h'=>.not (ae h) (z8s (chkEs_ok F K es rj sc _ (ae h')) (aj h'))
 | .t2 a b=>λt sc pe h=>lz (aj h) λpes i p h'=>gX (C:=λpes=>cL t c n cx sc (.t2 a b) (.Tuple pes i p)) h' λpa pb h'=>.not (ae h) (z8x (am F K a rj sc _ (aL2 h')) (am F K b rj sc _ (aM1 h')) (aj h'))
 | .dict0=>λt sc pe h=>z5E (aj h) λks vs p h'=>by
  obtain rfl:=cY (ae h');obtain rfl:=cY (aj h');exact .not (ae h) z6y
 | .dictS ks vs=>λt sc pe h=>z5E (aj h) λkeys pes p h'=>.not (ae h) (z6z F.C (F.nm▸zc2 (chkEs_ok F K vs rj sc _ (aj h')) (ae h')))
 | .comp el tg it=>λt sc pe h=>j5 (aj h) λpel gs csc p h'=>cZ (C:=λgs=>cL t c n cx sc (.comp el tg it) (.ListComp pel gs csc p)) h' λg h'=>by
  obtain⟨pt,pi,ifs,ia⟩:=g;obtain rfl:=cY (aL7 h');obtain rfl:=cf (aM6 h');exact .not (ae h) (z8q (fH (aM5 h')) (chkIt_ok F K it sc _ (aM4 h')) (fu (aM3 h')) (chkTg_ok F K tg _ _ (aM2 h')) (am F K el rj _ _ (aM1 h')) (dW (aj h')))
 | .compIf el tg it k=>λt sc pe h=>j5 (aj h) λpel gs csc p h'=>cZ (C:=λgs=>cL t c n cx sc (.compIf el tg it k) (.ListComp pel gs csc p)) h' λg h'=>by
  obtain⟨pt,pi,ifs,ia⟩:=g;refine cZ (C:=λifs=>cL t c n cx sc (.compIf el tg it k) (.ListComp pel [⟨pt,pi,ifs,ia⟩] csc p)) h' λpk h'=>?_
  obtain rfl:=cf (aL7 h');exact .not (ae h) (z4Z (fH (aM6 h')) (chkIt_ok F K it sc _ (aM5 h')) (fu (aM4 h')) (chkTg_ok F K tg _ _ (aM3 h')) (am F K el rj _ _ (aM2 h')) (am F K k rg _ _ (aM1 h')) (dW (aj h')))
 | .lam k=>λt sc pe h=>zbA (aj h) λps pb csc p h'=>.not (ae h) (z9B F.Wk (F.L _) K.P (F.tab k) (z7R (aj h')) (F.lamOk _ _ _ (aM2 h')) (i6 (aM1 h')) (zbl (aL3 h')))
 | .never=>λt sc pe h=>z6C
termination_by structural e=>e
theorem chkEs_ok (F:Facts c T)(K:CxOk c n cx):∀ (es:Es)(t:Bool)(sc:Scope)(pes:List Expr),chkEs T t sc es pes=rg->EsR (cL t c n cx sc) es pes
 | .nil,t,sc,pes=>by intro h;obtain rfl:=cY h;exact .nil
 | .cons e es,t,sc,[]=>λh=>pY h
 | .cons e es,t,sc,pe:: pes=>λh=>.cons (am F K e t sc _ (ae h)) (chkEs_ok F K es t sc _ (aj h))
termination_by structural es=>es
theorem chkIt_ok (F:Facts c T)(K:CxOk c n cx):∀ (it:Ite)(sc:Scope)(pe:Expr),chkIt T sc it pe=rg->dH c n cx sc it (iF it) pe
 | .of e=>λsc pe h=>cV (am F K e rj sc _ h)
 | .by b a=>λsc pe h=>nT h λp as q hg hs h=>cZ (C:=λas=>au as=rg->dH c n cx sc (.by b a) (iF (.by b a)) (.Call (.Name (zcj b) p) as [] q)) h (λpa h hs=>by
   have ha:=am F K a rj sc _ h;cases b
   ·exact z60 F.Wk ha hs hg
   ·exact z96 F.Wk ha hs hg
   ·exact zb8 F.Wk ha hs hg) hs
 | .range3 a b d=>λsc pe h=>nT h λp as q hg hs h=>zcr (C:=λas=>au as=rg->dH c n cx sc (.range3 a b d) (iF (.range3 a b d)) (.Call (.Name "range" p) as [] q)) h (λpa pb pd h hs=>z61 F.Wk (am F K a rj sc _ (aL2 h)) (am F K b rj sc _ (aM1 h)) (am F K d rj sc _ (aj h)) hs hg) hs
termination_by structural it=>it
theorem chkTg_ok (F:Facts c T)(K:CxOk c n cx):∀ (tg:Tg)(sc:Scope)(pe:Expr),chkTg T sc tg pe=rg->cj c n cx sc tg pe
 | .loc x=>λsc pe h=>cK h λm p h=>zbv F.C (ic F (ae h)) (dN (aj h))
 | .cel x=>λsc pe h=>cK h λm p h=>zbu (ic F (ae h)) (md (aj h))
 | .pair a b=>λsc pe h=>lz h λpes i p h=>gX (C:=λpes=>cj c n cx sc (.pair a b) (.Tuple pes i p)) h λpa pb h=>z9N (chkTg_ok F K a sc _ (aL2 h)) (chkTg_ok F K b sc _ (aM1 h)) (aj h)
 | .sub o i=>λsc pe h=>gQ h λpo pi p h=>zbw F.C (am F K o rj sc _ (ae h)) (am F K i rj sc _ (aj h))
termination_by structural tg=>tg
end
end
end
section
noncomputable abbrev mW (k:Value)(d:Option Addr)(a0:Value):Obj:={ cls:=k,dict:=d,data:=.fields #[a0,.none,.none,.none,.bool rj,.none] }
noncomputable def z6R (c:Cfg)(j:Nat)(u:Value):Prop:=(j=4/\∃ i t,u = .int i t/\small i=rg)∨(j≠4/\∃ k t,u = .str (c.nm k) t)
structure RaiseOk (c:Cfg)(j:Nat)(x:Str):Prop where
 W:ExcW c j x
 make:∀ (A:qZ)(fs:List Env)(s:Shared)(u:Value)(Q:VP)(E:VP),c.base.StaysIn s.heap->Room 0 A fs->z6R c j u->
  (∀ h' tk e d a0,s.heap.StaysIn h'->s.heap.get? e=re->h'.get? e=rc (mW (.ref (c.cls j)) d a0)->Q (.ref e) { s with heap:=h',toks:=tk })->wpAny (model c.prog c.w) A (call (.ref (c.cls j)) [u]) Q E s
theorem z1z {b b' h:Heap}:∀ {l:List Env},h.FunFrames b l->(∀ env∈l,∀ a,env.frame=rc a->b'.get? a=re)->h.FunFrames b' l:=by
 intro l
 induction l with
 | nil=>exact λ_ _=>trivial
 | cons env l ih=>
  intro f hin;refine gh f λhk hz2 hr=>?_;obtain⟨L,o,hf,_,ho,hd⟩:=hz2
  exact⟨hk,⟨L,o,hf,hin env (.head _) L hf,ho,hd⟩,ih hr λe he=>hin e (.tail _ he)⟩
section
variable {c:Cfg}{n:Nat}{cx:Cx}{sc:Scope}{fs:List Env}{X U:List Addr}{J:MH}{h h':Heap}
theorem z92 {k:Nat}{e:Addr}{d:Option Addr}{a0:Value}(S:St c fs U J h)(keep:h.StaysIn h')(hn:h.get? e=re)(he:h'.get? e=rc (mW (.ref (c.cls k)) d a0)):Fly c fs X U h k J U (.ref e) h':=by
 have get:∀ {b o},h.get? b=rc o->b∉frs fs->(hideAll h (frs fs)).get? b=rc o:=λe n=>hideAll_get _ e n
 have back:∀ {b o},(hideAll h (frs fs)).get? b=rc o->h.get? b=rc o:=λe=>of_hideAll _ e
 have nofr:∀ {b o},h.get? b=rc o->aG o->b∉frs fs:=λ{b o} e f m=>by
  obtain⟨_,_,o',es,k,e',d'⟩:=S.fr.mem m;exact cB d' (qb (e.symm.trans e')▸f)
 have nin:∀ b∈frs fs,b∉U:=λb m=>(S.fr.mem m).out
 have S':St c [] U J (hideAll h (frs fs)):=by
  refine⟨S.len,S.nodup,S.tot,λa o q=>?_,λb o q=>get (S.base b o q) λm=>?_,⟨λ_ m=>by cases m⟩⟩
  ·refine(S.obj a o q).go λx ob e1 e2 r n=>?_
   exact .mk x ob e1 (get e2 λm=>nin _ m (pv e1)) (r.mono (λ_ _ z=>z) (λb o z f=>get z (nofr z f))) n
  ·have:=(S.fr.mem m).base
   replace this:=q▸this;cases this
 refine⟨e,hideAll h (frs fs),a0,rfl,.new he rfl rfl rfl rfl,λb o q=>keep _ _ (back q),?_,?_,S',nin,⟨[],by simp⟩,λ_ m=>.inl m,λb o q _ _ nf=>get q nf,λb o q _ _=>⟨o.slots,keep _ _ q⟩,λb o q nf=>⟨o,get q nf⟩,λb o q f=>get q (nofr q f)⟩
 ·cases q:(hideAll h (frs fs)).get? e with
  | none=>rfl
  | some o=>replace hn:=(back q)▸hn;cases hn
 ·exact z1z (S.fr.keeps keep).fun λenv he a ha=>hideAll_none _ (List.mem_filterMap.mpr ⟨env,he,ha⟩)
end
section
variable {M:Model}{A:qZ}{E:VP}{s:Shared}{env:Env}
variable {nm q:Str}{C N:Addr}{bs bm:List Value}{hdct:Bool}{sn:List Str}{sub:List Value}{ab:Bool}{col:Option Bool}{dd:Option Addr}{k0 k1 k2 k3 k5:Option Value}{newId:String}
theorem z4S {e:Addr}{d:Option Addr}{a0:Value}{Q:Flow->Shared->Prop}(hbase:bm.contains (.type "BaseException")=rg)(hh:A.handled=re)(hC:XO s.heap C bm newId)(he:s.heap.get? e=rc (mW (.ref C) d a0))(hE:E (.ref e) s):
  wpAny M A (raiseStmt env (rc (pure (.ref e))) re) Q E s:=by
 obtain⟨nm,q,N,bs,hdct,sn,sub,ab,col,dd,k0,k1,k2,k3,k5,hC⟩:=hC;have hcB:(qN C:: bm).contains (.type "BaseException")=true:=by rw[pI,hbase,Bool.or_true]
 unfold raiseStmt;obtain⟨hp,g,dr,tk,os⟩:=s;repeat (first | with_reducible refine pP he ?_ | with_reducible refine pP hC ?_ | (with_reducible refine pD hC ?_;rw[hcB]) | wp_step)
 exact wpAny_raiseNew_none hh hE
theorem z7M {Q:Keeper->Shared->Prop}(hC:XO s.heap C bm newId)(hq:Q .machine s):wpAny M A (keeperOf (.ref C)) Q E s:=by
 obtain⟨nm,q,N,bs,hdct,sn,sub,ab,col,dd,k0,k1,k2,k3,k5,hC⟩:=hC;exact wpAny_keeperOf_exc hC hq
theorem z4c {x:Sem Value}:raiseStmt env (rc x) re=x >>= λv=>raiseStmt env (rc (pure v)) none:=by
 rfl
end
theorem z5T {c:Cfg}{j:Nat}{U:List Addr}{h:Heap}{v:V}{u:Value}(r:VR c U h v u)(e:jP j [v]=rg):z6R c j u:=by
 have e:(v.isS&&j != 4)=true:=e
 induction r with
 | str k t=>exact .inr ⟨by simpa using aj e,k,t,rfl⟩
 | _=>exact pY (ae e)
section
variable {c:Cfg}{n:Nat}{cx:Cx}{sc:Scope}
theorem z9r (Wk:WOk c)(hP:cx.P=c.P){j:Nat}{x:Str}{a:Mine.Internal.E}{pa:Expr}{p1 p2 p3:Pos}(R:RaiseOk c j x)(h:ar c n cx sc a pa)(hn:au [pa]=rg)(hl:sc.names.lookup x=rc .globalImplicit)(hd:(x==("__debug__" : Str))=rj):
  aK c n cx sc (.raise j (.cons a .nil)) (.Raise (rc (.Call (.Name x p1) [pa] [] p2)) re p3):=by
 intro A fs Rm env X U J l s hA hX F Q E S nb ok ex;generalize hr:exS cx (.raise j (.cons a .nil)) l J=r at nb ok ex
 replace hr:(M.guard (cx.P.can j) >>= λ_=>evEs cx (.cons a .nil) l >>= λvs=>M.guard (jP j vs) >>= λ_=>(λJ=>.exc j J:M (Fl×Loc))) J=r:=hr;have g:cx.P.can j=true:=eq_true_of_ne_false λq=>nb (hr.symm.trans (jw q))
 replace hr:=(kU g).symm.trans hr;simp only[arm_exec_Raise];refine bH (λh=>aF h) ?_;show wpF _ A (raiseStmt env (rc (eval (.Call (.Name x p1) [pa] [] p2) env >>= λv=>standAt p3 >>= λ_=>pure v)) re) Q E s;rw[z4c];refine kQ R.W.cls λbm newId hC hbase _=>?_
 refine a9 (a9 ?_);show wpF _ A (eval (.Name x p1) env >>= λg=>qU p2 g [] (r9 p2 (qT [pa] env)) []) _ E s;refine a9 (.of (fT Wk S F hl hd R.W.glob ?_));refine db (cE hn) ((jX (.cons h .nil) hn A fs Rm env [] U J l s (by simp) F) _ _ S (λq=>nb (hr.symm.trans (iN q))) (λvs J1 U1 vals s1 q1 S1 E1 r1 O1=>?_) (λk J1 U1 e s1 q1 F1 O1=>ex k J1 U1 e s1 (hr.symm.trans (lD q1)) (F1.wider (by simp)) O1));replace hr:=(bnd q1).symm.trans hr;have one:jP j vs=true:=eq_true_of_ne_false λz=>nb (hr.symm.trans (jw z))
 replace hr:=(kU one).symm.trans hr;refine aw λ_ Z9=>?_
 obtain⟨hp,g1,dr,tk,os⟩:=s1;refine Z9 ?_;refine⟨⟨.machine,.inl rfl,λQ E hq=>z7M (hC.keeps S1.base) hq⟩,.of ?_⟩;refine aw λ_ Z9=>?_
 induction r1 with
 | nil=>cases one
 | cons rv rr=>
 induction rr with
 | cons _ _=>exact pY one
 | nil=>
  refine Z9 ?_;have ea:=z5T rv one;refine R.make A fs _ _ _ _ S1.base (Rm.le (qB _)) ea λh' tk' e d a0 k1 k2 k3=>?_
  refine a9 (aF (ac ?_));refine .of (z4S hbase Rm.handled ((hC.keeps S1.base).keeps k1) k3 ?_);exact ex j J1 U1 _ _ hr.symm ((z92 S1 k1 k2 k3).before (E1.wider (by simp))) (O1.trans ⟨rfl,rfl⟩)
end
end
section
section
variable {prog:qW}{w:World}{A:qZ}{E:VP}{h:Heap}{g:Array GenState}{d:Drawn}{t:Nat}{os:OsState}
variable {nm q:Str}{C N:Addr}{bs bm:List Value}{hdct:Bool}{sn:List Str}{sub:List Value}{ab:Bool}{col:Option Bool}{dd:Option Addr}{k0 k1 k2 k3 k5:Option Value}
structure ExcMro (bm:List Value):Prop where
 v:bm.contains (.type "ValueError")=rg
 a:bm.contains (.type "AttributeError")=rj
 n:bm.contains (.type "NameError")=rj
theorem z91 {R:r6->Shared->Prop}(m:ExcMro bm){rest:List Value}(hC:h.get? C=rc (excClassObj nm q C N bs bm hdct sn sub ab col dd k0 k1 k2 k3 k5 "ValueError.__new__"))
  (hq:R (.ok (.ret (.ref (h.objs.size+1)))) ⟨(h.push { cls:=.type "tuple",data:=.seq rest.toArray }).push (mW (.ref C) re (.ref h.objs.size)),g,d,t,os⟩)(hrest:rest.length<=1000):
  codeAny (model prog w) A (.builtin "ValueError.__new__" ⟨.ref C:: rest,[]⟩) R ⟨h,g,d,t,os⟩:=by
 have F:=oN;have hends:=F.ends;have hz:rest.length<=qS:=by simp only[qx];exact qt hrest (by decide)
 have c1:(qN C:: bm).contains (.type "ValueError")=true:=by simp only[pI,m.v,Bool.or_true]
 have c2:(qN C:: bm).contains (.type "AttributeError")=false:=by simp only[pI,m.a];rfl
 have c3:(qN C:: bm).contains (.type "NameError")=false:=by simp only[pI,m.n];rfl
 refine codeAny_builtinAt F.entry ?_;unfold Builtin.«BaseException.__new__»;refine _root_.PySem.wpAt_bind ?_;show _root_.PySem.wpAt _ _ _ (stack >>= _) _ _ _;refine _root_.PySem.wpAt_bind (_root_.PySem.wpAt_stack λp below=>_root_.PySem.wpAt_of_wpAny ?_)
 wp_walk
 refine _root_.PySem.wpAt_of_wpAny ?_;refine F.owner▸?_;repeat (first | with_reducible refine wpAny_madeHere_exc F.canon hC ?_ | with_reducible refine pP hC ?_ | (with_reducible refine pD hC ?_;first | rw[c1] | rw[c2] | rw[c3]) | wp_step)
 show R _ _;rw[Heap.size_push];exact hq
theorem z2C (m:ExcMro bm){M:Model}{rest:List Value}{Q:Unit->Shared->Prop}(hC:h.get? C=rc (excClassObj nm q C N bs bm hdct sn sub ab col dd k0 k1 k2 k3 k5 "ValueError.__new__"))(hq:Q () ⟨h,g,d,t,os⟩):
  wpAny M A (pW "ValueError.__new__" ⟨.ref C:: rest,[]⟩) Q E ⟨h,g,d,t,os⟩:=by
 have F:=oN;have c1:(qN C:: bm).contains (.type "ValueError")=true:=by rw[pI,m.v,Bool.or_true]
 rw[pW,F.newKind,F.newSplit,F.newRow];repeat (first | refine pP hC ?_ | (refine pD hC ?_;rw[c1]) | refine wpAny_staticBase_exc hC ?_ | refine wpAny_madeBy_exc hC ?_ | rw[bne_self_eq_false,pG,if_false] | wp_step)
 exact hq
theorem z7s {rest:List Value}:Heap.MadeExcOf h ((h.push { cls:=.type "tuple",data:=.seq rest.toArray }).push (mW (.ref C) re (.ref h.objs.size))) (h.objs.size+1) (.ref C) rest:=
 ⟨λb o hb=>oS _ (oS _ hb),Heap.get?_none_of_le (Nat.le_succ _),h.objs.size,by heap_get,Heap.get?_none_of_le (qC _),oS _ (Heap.get?_push_at rfl rfl)⟩
theorem z7q {rest:List Value}{fI:Addr}{oI:Obj}{Q:VP}(m:ExcMro bm)
  (hC:XO h C bm "ValueError.__new__")(hi:Looks (model prog w) h (qH (.ref C) "__init__") (rc (.ref fI)))
  (hfI:h.get? fI=rc oI)(hfc:oI.cls = .type "function")(hrest:rest.length<=1000)
  (hq:∀ h' e,Heap.MadeExcOf h h' e (.ref C) rest->
   wpAny (model prog w) (A.under (.builtin "type.__call__" ⟨.ref C:: rest,[]⟩)) (call (.ref fI) (.ref e:: rest)) (λr s'=>r = .none/\Q (.ref e) s') E ⟨h',g,d,t,os⟩):
  wpAny (model prog w) A (call (.ref C) rest) Q E ⟨h,g,d,t,os⟩:=by
 obtain⟨nm,q,N,bs,hdct,sn,sub,ab,col,dd,k0,k1,k2,k3,k5,hC⟩:=hC;have F:=oN;have f1:=tc_lookup;have f2:=tc_bind (.ref C);have hT:(⟨h,g,d,t,os⟩:Shared).TypeIs (.ref C) "type":=⟨_,hC,rfl⟩
 refine wpAny_call (codeAny_of_tree ?_);show wpAny _ _ (callAny (.ref C) _) _ _ _;repeat (any_goals (first | assumption | with_reducible refine pP hC ?_ | wp_step))
 refine⟨rfl,?_⟩;refine codeAny_call_builtin_at (Code.quiet_builtin _ (by decide +kernel)) entry_typeCall (wpAny_check_type_call_sub hC ?_);repeat (first | with_reducible refine pP hC ?_ | with_reducible refine wpAny_madeBy_exc hC ?_ | wp_step)
 refine codeAny_call_builtin_code (Code.quiet_builtin _ F.quiet) (z2C m hC ?_);refine z91 m hC ?_ hrest;show wpAny _ _ _ _ _ _;have M:=z7s (h:=h) (C:=C) (rest:=rest);have hC₁:=M.keeps _ _ hC;have hfI₁:=M.keeps _ _ hfI;have hi₁:=hi.keeps M.keeps;have hget:((h.push { cls:=.type "tuple",data:=.seq rest.toArray }).push { cls:=.ref C,data:=.fields #[.ref h.objs.size,.none,.none,.none,.bool rj,.none] }).get? (h.objs.size+1)=rc { cls:=.ref C,data:=.fields #[.ref h.objs.size,.none,.none,.none,.bool rj,.none] }:=by heap_get
 have hcC:(qN C:: bm).contains (.ref C)=true:=by simp
 unfold isInstance;repeat (first | (with_reducible refine pP hget ?_;dsimp only) | (refine pD hC₁ ?_;rw[hcC]) | wp_step)
 show wpAny _ _ (qH (.ref C) _) _ _ _;refine hi₁.here ?_;refine qm (qE ?_);unfold bindSpecial;refine bQ (λh=>wpAny_typeOf (T:="function") ⟨_,hfI₁,hfc⟩ h) ?_;rw[if_pos (by decide)];refine qF (qE (wpAny_mono (hq _ (h.objs.size+1) M) (λr s' hr=>?_) λ_ _ x=>x));obtain⟨rfl,hQ⟩:=hr
 wp_walk
 exact hQ
end
end
section
section
theorem z0U {csc:Scope}{nm:Str}(h:fV csc nm=rg):(csc.names.any λ(n,k)=>n==nm&&(k==.local||k==.cell))=false:=by
 unfold fV at h
 rw[Bool.not_eq_true'] at h
 simpa only[j0] using h
theorem z5F {C:Stmt->Prop}{pe:Stmt}{f:Expr->Bool}(h:nX pe f=rg)(k:∀ a p,f a=rg->C (.Expr a p)):C pe:=
 (bb h).elim λq h=>
 Stmt.Expr.elim (motive_2:=λpe=>∀ q:pe.ctorIdx=24,Stmt.Expr.elim (motive_2:=λ_=>Bool) pe q (λa _=>f a)=rg->C pe) pe q (λv0 v1 _ h=>k v0 v1 h) q h
theorem iu {C:Stmt->Prop}{pe:Stmt}{f:List Expr->Expr->Bool}(h:mC pe f=rg)(k:∀ ts a p,f ts a=rg->C (.Assign ts a p)):C pe:=
 (bb h).elim λq h=>
 Stmt.Assign.elim (motive_2:=λpe=>∀ q:pe.ctorIdx=5,Stmt.Assign.elim (motive_2:=λ_=>Bool) pe q (λts a _=>f ts a)=rg->C pe) pe q (λv0 v1 v2 _ h=>k v0 v1 v2 h) q h
theorem z8J {C:Stmt->Prop}{pe:Stmt}{f:Expr->Operator->Expr->Bool}(h:oJ pe f=rg)(k:∀ t o a p,f t o a=rg->C (.AugAssign t o a p)):C pe:=
 (bb h).elim λq h=>
 Stmt.AugAssign.elim (motive_2:=λpe=>∀ q:pe.ctorIdx=7,Stmt.AugAssign.elim (motive_2:=λ_=>Bool) pe q (λt o a _=>f t o a)=rg->C pe) pe q (λv0 v1 v2 v3 _ h=>k v0 v1 v2 v3 h) q h
theorem zd2 {C:Stmt->Prop}{pe:Stmt}{f:Expr->List Stmt->List Stmt->Bool}(h:yIf pe f=rg)(k:∀ k a b p,f k a b=rg->C (.If k a b p)):C pe:=
 (bb h).elim λq h=>
 Stmt.If.elim (motive_2:=λpe=>∀ q:pe.ctorIdx=12,Stmt.If.elim (motive_2:=λ_=>Bool) pe q (λk a b _=>f k a b)=rg->C pe) pe q (λv0 v1 v2 v3 _ h=>k v0 v1 v2 v3 h) q h
theorem zbH {C:Stmt->Prop}{pe:Stmt}{f:Expr->Expr->List Stmt->List Stmt->Bool}(h:zd1 pe f=rg)(k:∀ t i a b p,f t i a b=rg->C (.For t i a b p)):C pe:=
 (bb h).elim λq h=>
 Stmt.For.elim (motive_2:=λpe=>∀ q:pe.ctorIdx=9,Stmt.For.elim (motive_2:=λ_=>Bool) pe q (λt i a b _=>f t i a b)=rg->C pe) pe q (λv0 v1 v2 v3 v4 _ h=>k v0 v1 v2 v3 v4 h) q h
theorem mE {C:Stmt->Prop}{pe:Stmt}{f:Option Expr->Bool}(h:oa pe f=rg)(k:∀ a p,f a=rg->C (.Return a p)):C pe:=
 (bb h).elim λq h=>
 Stmt.Return.elim (motive_2:=λpe=>∀ q:pe.ctorIdx=3,Stmt.Return.elim (motive_2:=λ_=>Bool) pe q (λa _=>f a)=rg->C pe) pe q (λv0 v1 _ h=>k v0 v1 h) q h
theorem z8L {C:Stmt->Prop}{pe:Stmt}{f:Option Expr->Option Expr->Bool}(h:z8K pe f=rg)(k:∀ a b p,f a b=rg->C (.Raise a b p)):C pe:=
 (bb h).elim λq h=>
 Stmt.Raise.elim (motive_2:=λpe=>∀ q:pe.ctorIdx=16,Stmt.Raise.elim (motive_2:=λ_=>Bool) pe q (λa b _=>f a b)=rg->C pe) pe q (λv0 v1 v2 _ h=>k v0 v1 v2 h) q h
theorem zbI {C:Stmt->Prop}{pe:Stmt}{f:List Stmt->List ExceptHandler->List Stmt->List Stmt->Bool}(h:zd3 pe f=rg)(k:∀ a hs b d p,f a hs b d=rg->C (.Try a hs b d p)):C pe:=
 (bb h).elim λq h=>
 Stmt.Try.elim (motive_2:=λpe=>∀ q:pe.ctorIdx=17,Stmt.Try.elim (motive_2:=λ_=>Bool) pe q (λa hs b d _=>f a hs b d)=rg->C pe) pe q (λv0 v1 v2 v3 v4 _ h=>k v0 v1 v2 v3 v4 h) q h
theorem zbU {C:Mine.Internal.E->Prop}{e:Mine.Internal.E}{f:Nat->Bool}(h:cS e f=rg)(k:∀ i,f i=rg->C (.cstr i)):C e:=by
 cases e <;> first | exact k _ h | exact pY h
theorem zbG {C:Stmt->Prop}{pe:Stmt}{f:List Expr->Bool}(h:zd0 pe f=rg)(k:∀ ts p,f ts=rg->C (.Delete ts p)):C pe:=
 (bb h).elim λq h=>
 Stmt.Delete.elim (motive_2:=λpe=>∀ q:pe.ctorIdx=4,Stmt.Delete.elim (motive_2:=λ_=>Bool) pe q (λts _=>f ts)=rg->C pe) pe q (λv0 v1 _ h=>k v0 v1 h) q h
theorem mw {C:List Stmt->Prop}{ps:List Stmt}{f:Expr->Bool}(h:o8 ps f=rg)(k:∀ e p,f e=rg->C [.Return (rc e) p]):C ps:=
 cZ h λp h=>mE (C:=λs=>C [s]) h λo p h=>cP (C:=λo=>C [.Return o p]) h λe h=>k e p h
theorem zal {C:ExceptHandler->Prop}{h:ExceptHandler}{f:Expr->List Stmt->Bool}(e:hnd h f=rg)(k:∀ t b p,f t b=rg->C (.ExceptHandler (rc t) re b p)):C h:=by
 obtain⟨t,n,b,p⟩:=h;have e:(no n&&so t λt=>f t b)=true:=e;obtain rfl:=ig (ae e);exact cP (C:=λt=>C (.ExceptHandler t re b p)) (aj e) λt h=>k t b p h
theorem e0_e {es:Es}(h:e0 es=rg):es = .nil:=by cases es with | nil=>rfl | cons _ _=>exact pY h
theorem e1_e {C:Es->Prop}{es:Es}{f:Mine.Internal.E->Bool}(h:e1 es f=rg)(k:∀ a,f a=rg->C (.cons a .nil)):C es:=by
 cases es with
 | nil=>exact pY h
 | cons a r=>have h2:=aj h;obtain rfl:=e0_e (ae h);exact k a h2
theorem e2_e {C:Es->Prop}{es:Es}{f:Mine.Internal.E->Mine.Internal.E->Bool}(h:e2 es f=rg)(k:∀ a b,f a b=rg->C (.cons a (.cons b .nil))):C es:=by
 cases es with
 | nil=>exact pY h
 | cons a r=>exact e1_e (C:=λr=>C (.cons a r)) h λb=>k a b
structure Facts2 (c:Cfg)(T:Tb):Prop where
 F:Facts c T
 rz:∀ j x,T.exc j=rc x->RaiseOk c j x
 sub:∀ k j,c.P.sub k j=(k==j)
section
variable {c:Cfg}{T:Tb}{n:Nat}{cx:Cx}
theorem z7k (G:Facts2 c T)(K:CxOk c n cx){sc:Scope}{t:Tg}{e:Mine.Internal.E}{pt pe:Expr}{p:Pos}(h:zag T sc t e pt pe=rg):aK c n cx sc (.assign t e) (.Assign [pt] pe p):=by
 cases t with
 | loc x=>
  cases e with
  | comp el tg it=>
   refine fF (C:=λpt=>aK c n cx sc (.assign (.loc x) (.comp el tg it)) (.Assign [pt] pe p)) h λnm p2 h=>?_
   refine j5 (C:=λpe=>aK c n cx sc (.assign (.loc x) (.comp el tg it)) (.Assign [.Name nm p2] pe p)) h λpel gs csc pos h=>?_
   refine cZ (C:=λgs=>aK c n cx sc (.assign (.loc x) (.comp el tg it)) (.Assign [.Name nm p2] (.ListComp pel gs csc pos) p)) h λg h=>?_
   obtain⟨pt,pi,ifs,ia⟩:=g;obtain rfl:=cY (ae h);obtain rfl:=cf (zbN h);exact z3l G.F.C (ic G.F (aM9 h))  (dN (aM8 h))  (aM7 h)  (z0U (aM6 h))  (fH (aM5 h))  (chkIt_ok G.F K it sc _ (aM4 h)) (fu (aM3 h)) (chkTg_ok G.F K tg _ _ (aM2 h)) (am G.F K el rj _ _ (aM1 h)) (dW (aj h))
  | compIf el tg it k=>
   refine fF (C:=λpt=>aK c n cx sc (.assign (.loc x) (.compIf el tg it k)) (.Assign [pt] pe p)) h λnm p2 h=>?_
   refine j5 (C:=λpe=>aK c n cx sc (.assign (.loc x) (.compIf el tg it k)) (.Assign [.Name nm p2] pe p)) h λpel gs csc pos h=>?_
   refine cZ (C:=λgs=>aK c n cx sc (.assign (.loc x) (.compIf el tg it k)) (.Assign [.Name nm p2] (.ListComp pel gs csc pos) p)) h λg h=>?_
   obtain⟨pt,pi,ifs,ia⟩:=g;refine cZ (C:=λifs=>aK c n cx sc (.assign (.loc x) (.compIf el tg it k)) (.Assign [.Name nm p2] (.ListComp pel [⟨pt,pi,ifs,ia⟩] csc pos) p)) h λpk h=>?_
   have hk:=aj h;have h:=ae h;obtain rfl:=cf (zbN h);exact z2f G.F.C (ic G.F (aM9 h))  (dN (aM8 h))  (aM7 h)  (z0U (aM6 h))  (fH (aM5 h))  (chkIt_ok G.F K it sc _ (aM4 h)) (fu (aM3 h)) (chkTg_ok G.F K tg _ _ (aM2 h)) (am G.F K el rj _ _ (aM1 h)) (am G.F K k rg _ _ hk) (dW (aj h))
  | _=>exact pY h
 | _=>exact pY h
theorem z8C (G:Facts2 c T){sc:Scope}{t1 t2:Tg}{e1 e2:Mine.Internal.E}{p1 p2 q1 q2:Expr}{k k2:Nat}{pos pp pq:Pos}(h:zaB T sc t1 t2 p1 p2 q1 q2=rg)(g1:ar c n cx sc e1 q1)(g2:ar c n cx sc e2 q2):
  aK c n cx sc (.tupL [t1,t2] (.cons e1 (.cons e2 .nil))) (.Assign [.Tuple [p1,p2] k pp] (.Tuple [q1,q2] k2 pq) pos):=by
 cases t1 with
 | loc a=>
  cases t2 with
  | loc b=>
   refine fF (C:=λp1=>aK c n cx sc (.tupL [.loc a,.loc b] (.cons e1 (.cons e2 .nil))) (.Assign [.Tuple [p1,p2] k pp] (.Tuple [q1,q2] k2 pq) pos)) h λna pa h=>?_
   refine fF (C:=λp2=>aK c n cx sc (.tupL [.loc a,.loc b] (.cons e1 (.cons e2 .nil))) (.Assign [.Tuple [.Name na pa,p2] k pp] (.Tuple [q1,q2] k2 pq) pos)) h λnb pb h=>?_
   have ne:=bG (aM3 h);exact z9s G.F.C (ic G.F (aL8 h)) (ic G.F (aM7 h)) (dN (aM6 h)) (dN (aM5 h)) (aM4 h) (λq=>by rw[q,hF] at ne;cases ne) (aM2 h) (bG (aM1 h)) (bG (aj h)) g1 g2
  | _=>exact pY h
 | _=>exact pY h
theorem z5P (F:Facts c T)(K:CxOk c n cx){sc:Scope}{ts:List Tg}:∀ {ps:List Expr},lY T sc ts ps=rg->All2 (cj c n cx sc) ts ps:=by
 induction ts with
 | nil=>intro b h;cases b with
  | nil=>exact .nil
  | cons=>cases h
 | cons t ts ih=>intro b h;cases b with
  | nil=>cases h
  | cons p ps=>exact .cons (chkTg_ok F K t sc p (ae h)) (ih (aj h))
theorem orE {a b:Bool}{C:Prop}(h:(a||b)=rg)(k1:a=rg->C)(k2:b=rg->C):C:=by
 induction a with
 | true=>exact k1 rfl
 | false=>exact k2 h
mutual
theorem z8V (G:Facts2 c T)(K:CxOk c n cx):∀ (t:Mine.Internal.S)(sc:Scope)(ps:Stmt),zbX T sc t ps=rg->aK c n cx sc t ps
 | .expr e=>λsc ps h=>z5F h λpe p h=>av (am G.F K e rj sc _ (ae h)) (aj h)
 | .assign tg e=>λsc ps h=>iu h λts pe p h=>cZ (C:=λts=>aK c n cx sc (.assign tg e) (.Assign ts pe p)) h λpt h=>orE h (λh=>z7k G K h) λh=>
   aq (chkTg_ok G.F K tg sc _ (aL4 h)) (aM3 h) (am G.F K e rj sc _ (aM2 h)) (aM1 h) (aj h)
 | .attr o f e=>λsc ps h=>iu h λts pe p h=>cZ (C:=λts=>aK c n cx sc (.attr o f e) (.Assign ts pe p)) h λpt h=>gd (C:=λpt=>aK c n cx sc (.attr o f e) (.Assign [pt] pe p)) h λpo nm q h=>
   dC G.F.C G.F.Wk K.P (ic G.F (aL3 h)) (am G.F K o rj sc _ (aM2 h)) (am G.F K e rj sc _ (aM1 h)) (aj h)
 | .all o e=>λsc ps h=>iu h λts pe p h=>cZ (C:=λts=>aK c n cx sc (.all o e) (.Assign ts pe p)) h λpt h=>gQ (C:=λpt=>aK c n cx sc (.all o e) (.Assign [pt] pe p)) h λpo pi q h=>kc (C:=λpi=>aK c n cx sc (.all o e) (.Assign [.Subscript po pi q] pe p)) h λx y z r h=>by
  obtain rfl:=ig (aL3 h);obtain rfl:=ig (aM2 h);obtain rfl:=ig (aM1 h);exact nM (am G.F K o rj sc _ (aL3 h)) (am G.F K e rj sc _ (aM2 h)) (aM1 h) (aj h)
 | .tupE tg e=>λsc ps h=>iu h λts pe p h=>cZ (C:=λts=>aK c n cx sc (.tupE tg e) (.Assign ts pe p)) h λpt h=>
   mA (chkTg_ok G.F K tg sc _ (aL4 h)) (aM3 h) (am G.F K e rj sc _ (aM2 h)) (aM1 h) (aj h)
 | .tupL ts es=>λsc ps h=>iu h λpts pe p h=>cZ (C:=λpts=>aK c n cx sc (.tupL ts es) (.Assign pts pe p)) h λpt h=>lz (C:=λpt=>aK c n cx sc (.tupL ts es) (.Assign [pt] pe p)) h λpts i q h=>lz (C:=λpe=>aK c n cx sc (.tupL ts es) (.Assign [.Tuple pts i q] pe p)) h λqs i' q' h=>by
  refine orE h (λh=>?_) λh=>?_
  ·refine gX (C:=λts=>aK c n cx sc (.tupL ts es) (.Assign [.Tuple pts i q] (.Tuple qs i' q') p)) h λt1 t2 h=>?_
   refine e2_e (C:=λes=>aK c n cx sc (.tupL [t1,t2] es) (.Assign [.Tuple pts i q] (.Tuple qs i' q') p)) h λe1 e2 h=>?_
   refine gX (C:=λpts=>aK c n cx sc (.tupL [t1,t2] (.cons e1 (.cons e2 .nil))) (.Assign [.Tuple pts i q] (.Tuple qs i' q') p)) h λp1 p2 h=>?_
   refine gX (C:=λqs=>aK c n cx sc (.tupL [t1,t2] (.cons e1 (.cons e2 .nil))) (.Assign [.Tuple [p1,p2] i q] (.Tuple qs i' q') p)) h λq1 q2 h=>?_
   have g1:=am G.F K e1 rj sc _ (aL2 h);have g2:=am G.F K e2 rj sc _ (aM1 h);exact z8C G (aj h) g1 g2
  ·exact dR (z5P G.F K (aL6 h)) (aM5 h) (chkEs_ok G.F K es rj sc _ (aM4 h)) (aM3 h) (aM2 h) (oX (aM1 h)) (Nat.le_of_ble_eq_true (aj h))
 | .augAttr o f op e=>λsc ps h=>z8J h λpt op' pe p h=>gd (C:=λpt=>aK c n cx sc (.augAttr o f op e) (.AugAssign pt op' pe p)) h λpo nm q h=>by
  obtain rfl:=cf (aL3 h);exact z6r G.F.C G.F.Wk K.P (ic G.F (aM2 h)) (am G.F K o rj sc _ (aM1 h)) (am G.F K e rj sc _ (aj h))
 | .augIdx o i op e=>λsc ps h=>z8J h λpt op' pe p h=>gQ (C:=λpt=>aK c n cx sc (.augIdx o i op e) (.AugAssign pt op' pe p)) h λpo pi q h=>by
  obtain rfl:=cf (aL4 h);exact z8g G.F.C (aM3 h) (am G.F K o rj sc _ (aM2 h)) (am G.F K i rj sc _ (aM1 h)) (am G.F K e rj sc _ (aj h))
 | .del o i=>λsc ps h=>zbG h λts p h=>cZ (C:=λts=>aK c n cx sc (.del o i) (.Delete ts p)) h λpt h=>gQ (C:=λpt=>aK c n cx sc (.del o i) (.Delete [pt] p)) h λpo pi q h=>lM (am G.F K o rj sc _ (ae h)) (am G.F K i rj sc _ (aj h))
 | .cond k a b=>λsc ps h=>zd2 h λpk pa pb p h=>s_if (am G.F K k rg sc _ (aL2 h)) (chkSs_ok G K a sc _ (aM1 h)) (chkSs_ok G K b sc _ (aj h))
 | .loop tg it body=>λsc ps h=>zbH h λpt pi pb pe p h=>by
  obtain rfl:=cY (ae h);exact zcI (chkIt_ok G.F K it sc _ (aL4 h)) (fu (aM3 h)) (chkTg_ok G.F K tg sc _ (aM2 h)) (chkSs_ok G K body sc _ (aM1 h)) (dW (aj h))
 | .ret e=>λsc ps h=>mE h λo p h=>cP (C:=λo=>aK c n cx sc (.ret e) (.Return o p)) h λpe h=>aX (am G.F K e rj sc _ h)
 | .ret0=>λsc ps h=>mE h λo p h=>by obtain rfl:=ig h;exact jU
 | .raise j as=>λsc ps h=>orE h (λh=>z4W (by rw[K.P,G.F.can];exact bG h)) λh=>by
  cases as with
  | nil=>exact pY h
  | cons a as=>
  cases as with
  | cons _ _=>exact pY h
  | nil=>
   refine z8L (C:=λps=>aK c n cx sc (.raise j (.cons a .nil)) ps) h λo d p h=>?_
   obtain rfl:=ig (ae h);refine cP (C:=λo=>aK c n cx sc (.raise j (.cons a .nil)) (.Raise o re p)) (aj h) λpe h=>?_
   refine lQ (C:=λpe=>aK c n cx sc (.raise j (.cons a .nil)) (.Raise (rc pe) re p)) h λx p1 pas q hg h=>?_
   refine cZ (C:=λpas=>aK c n cx sc (.raise j (.cons a .nil)) (.Raise (rc (.Call (.Name x p1) pas [] q)) re p)) h λpa h=>?_
   exact z9r G.F.Wk K.P (G.rz j _ (jN (aL3 h))) (am G.F K _ rj sc _ (aM2 h)) (aM1 h) hg (cq (aj h))
 | .tryRet e hs=>λsc ps h=>gX (C:=λhs=>aK c n cx sc (.tryRet e hs) ps) h λp1 p2 h=>by
  obtain⟨j1,v1⟩:=p1;obtain⟨j2,v2⟩:=p2;refine zbU (C:=λv1=>aK c n cx sc (.tryRet e [(j1,v1),(j2,v2)]) ps) h λi1 h=>zbU (C:=λv2=>aK c n cx sc (.tryRet e [(j1,.cstr i1),(j2,v2)]) ps) h λi2 h=>      zbI h λbs phs o f p h=>?_
  obtain rfl:=cY (aL2 h);obtain rfl:=cY (aM1 h);refine mw (C:=λbs=>aK c n cx sc _ (.Try bs phs [] [] p)) (aj h) λpe p1 h=>?_
  refine gX (C:=λphs=>aK c n cx sc _ (.Try [.Return (rc pe) p1] phs [] [] p)) h λph1 ph2 h=>?_
  refine zal (C:=λph1=>aK c n cx sc _ (.Try [.Return (rc pe) p1] [ph1,ph2] [] [] p)) h λpx1 pb1 q4 h=>?_
  refine zal (C:=λph2=>aK c n cx sc _ (.Try [.Return (rc pe) p1] [.ExceptHandler (rc px1) re pb1 q4,ph2] [] [] p)) h λpx2 pb2 r4 h=>?_
  refine mw (C:=λpb1=>aK c n cx sc _ (.Try [.Return (rc pe) p1] [.ExceptHandler (rc px1) re pb1 q4,.ExceptHandler (rc px2) re pb2 r4] [] [] p)) h λpv1 q3 h=>?_
  refine mw (C:=λpb2=>aK c n cx sc _ (.Try [.Return (rc pe) p1] [.ExceptHandler (rc px1) re [.Return (rc pv1) q3] q4,.ExceptHandler (rc px2) re pb2 r4] [] [] p)) h λpv2 r3 h=>?_
  refine cK (C:=λpx1=>aK c n cx sc _ (.Try [.Return (rc pe) p1] [.ExceptHandler (rc px1) re [.Return (rc pv1) q3] q4,.ExceptHandler (rc px2) re [.Return (rc pv2) r3] r4] [] [] p)) h λx1 q1 h=>?_
  refine cK (C:=λpx2=>aK c n cx sc _ (.Try [.Return (rc pe) p1] [.ExceptHandler (rc (.Name x1 q1)) re [.Return (rc pv1) q3] q4,.ExceptHandler (rc px2) re [.Return (rc pv2) r3] r4] [] [] p)) h λx2 r1 h=>?_
  refine cQ (C:=λpv1=>aK c n cx sc _ (.Try [.Return (rc pe) p1] [.ExceptHandler (rc (.Name x1 q1)) re [.Return (rc pv1) q3] q4,.ExceptHandler (rc (.Name x2 r1)) re [.Return (rc pv2) r3] r4] [] [] p)) (aj h) λc1 kk1 q2 h2=>?_
  refine cQ (C:=λpv2=>aK c n cx sc _ (.Try [.Return (rc pe) p1] [.ExceptHandler (rc (.Name x1 q1)) re [.Return (rc (.Constant c1 kk1 q2)) q3] q4,.ExceptHandler (rc (.Name x2 r1)) re [.Return (rc pv2) r3] r4] [] [] p)) h2 λc2 kk2 r2 h2=>?_
  have h:=ae h;obtain rfl:=kZ (ae h2);obtain rfl:=kZ (aj h2);have W1:=(G.rz j1 _ (jN (aL8 h))).W;have W2:=(G.rz j2 _ (jN (aM7 h))).W;have ne:j1≠j2:=oR (bG (aM5 h));refine G.F.nm▸?_;exact zcJ G.F.Wk K.P W1 W2 (by rw[G.F.can];exact aM6 h) ne G.sub (i8 (aM4 h)) (i8 (aM3 h)) (cq (aM2 h)) (cq (aM1 h)) (am G.F K e rj sc _ (aj h))
 | .stop=>λsc ps h=>zbo
termination_by structural s=>s
theorem chkSs_ok (G:Facts2 c T)(K:CxOk c n cx):∀ (t:Ss)(sc:Scope)(ps:List Stmt),chkSs T sc t ps=rg->iw c n cx sc t ps
 | .nil,sc,ps=>by intro h;obtain rfl:=cY h;exact zbs
 | .cons s ss,sc,[]=>λh=>pY h
 | .cons s ss,sc,p:: ps=>λh=>z9K (z8V G K s sc _ (ae h)) (chkSs_ok G K ss sc _ (aj h))
termination_by structural s=>s
end
end
end
end
section
theorem kx {C:Value->Prop}{v:Value}{f:String->Bool}(h:vTy v f=rg)(k:∀ a,f a=rg->C (.type a)):C v:=
 (bb h).elim λq h=>
 Value.type.elim (motive:=λv=>∀ q:v.ctorIdx=8,Value.type.elim (motive:=λ_=>Bool) v q f=rg->C v) v q (λa _ h=>k a h) q h
theorem k8 {C:Value->Prop}{v:Value}{f:Addr->Bool}(h:vRf v f=rg)(k:∀ a,f a=rg->C (.ref a)):C v:=
 (bb h).elim λq h=>
 qN.elim (motive:=λv=>∀ q:v.ctorIdx=10,qN.elim (motive:=λ_=>Bool) v q f=rg->C v) v q (λa _ h=>k a h) q h
theorem nQ {C:Value->Prop}{v:Value}(h:vNo v=rg)(k:C .none):C v:=(bb h).elim λq _=>qI.elim (motive:=C) v q k
theorem zaE {C:Value->Prop}{v:Value}{f:String->Bool}(h:vBl v f=rg)(k:∀ a,f a=rg->C (.builtin a)):C v:=
 (bb h).elim λq h=>
 Value.builtin.elim (motive:=λv=>∀ q:v.ctorIdx=9,Value.builtin.elim (motive:=λ_=>Bool) v q f=rg->C v) v q (λa _ h=>k a h) q h
theorem zcQ {C:Value->Prop}{v:Value}{f:Int->Bool}(h:vIn v f=rg)(k:∀ a t,f a=rg->C (.int a t)):C v:=
 (bb h).elim λq h=>
 Value.int.elim (motive:=λv=>∀ q:v.ctorIdx=4,Value.int.elim (motive:=λ_=>Bool) v q (λi _=>f i)=rg->C v) v q (λa t _ h=>k a t h) q h
theorem zbZ {C:Data->Prop}{v:Data}{f:ClassData->Bool}(h:dCl v f=rg)(k:∀ a,f a=rg->C (.cls a)):C v:=
 (bb h).elim λq h=>
 Data.cls.elim (motive:=λv=>∀ q:v.ctorIdx=8,Data.cls.elim (motive:=λ_=>Bool) v q f=rg->C v) v q (λa _ h=>k a h) q h
theorem zc0 {C:Data->Prop}{v:Data}{f:Array DictEntry->Bool}(h:dDi v f=rg)(k:∀ a n,f a=rg->C (.dict a n)):C v:=
 (bb h).elim λq h=>
 Data.dict.elim (motive:=λv=>∀ q:v.ctorIdx=3,Data.dict.elim (motive:=λ_=>Bool) v q (λes _=>f es)=rg->C v) v q (λa n _ h=>k a n h) q h
theorem zai {C:Data->Prop}{v:Data}{f:Array Value->Bool}(h:dSq v f=rg)(k:∀ a n,f a=rg->C (.seq a n)):C v:=
 (bb h).elim λq h=>
 Data.seq.elim (motive:=λv=>∀ q:v.ctorIdx=2,Data.seq.elim (motive:=λ_=>Bool) v q (λes _=>f es)=rg->C v) v q (λa n _ h=>k a n h) q h
theorem nj {C:Data->Prop}{v:Data}{f:qR->Bool}(h:dFn v f=rg)(k:∀ a,f a=rg->C (.func a)):C v:=
 (bb h).elim λq h=>
 Data.func.elim (motive:=λv=>∀ q:v.ctorIdx=7,Data.func.elim (motive:=λ_=>Bool) v q f=rg->C v) v q (λa _ h=>k a h) q h
theorem nH {Y:Type}{C:List Y->Prop}{l:List Y}{f:Y->List Y->Bool}(h:lc l f=rg)(k:∀ a r,f a r=rg->C (a:: r)):C l:=by
 induction l with
 | nil=>cases h
 | cons a r=>exact k a r h
theorem bS {x:Option (Option Value)}{a:Addr}(h:bA x a=rg):x=rc (rc (.ref a)):=
 cP (C:=λx=>x=rc (rc (.ref a))) h λo h=>cP (C:=λo=>rc o=rc (rc (.ref a))) h λv h=>k8 (C:=λv=>rc (rc v)=rc (rc (.ref a))) h λb h=>by rw[oX h]
theorem dj {x:Option (Option Value)}{a:String}(h:gG x a=rg):x=rc (rc (.builtin a)):=
 cP (C:=λx=>x=rc (rc (.builtin a))) h λo h=>cP (C:=λo=>rc o=rc (rc (.builtin a))) h λv h=>zaE (C:=λv=>rc (rc v)=rc (rc (.builtin a))) h λb h=>by rw[qL h]
theorem ch {x:Option (Option Value)}(h:cX x=rg):x=rc none:=cP (C:=λx=>x=rc re) h λo h=>by rw[ig h]
theorem z5X {x:Option (Option Value)}{a:Int}(h:mh x a=rg):∃ t,x=rc (rc (.int a t)):=
 cP (C:=λx=>∃ t,x=rc (rc (.int a t))) h λo h=>cP (C:=λo=>∃ t,rc o=rc (rc (.int a t))) h λv h=>zcQ (C:=λv=>∃ t,rc (rc v)=rc (rc (.int a t))) h λi t h=>⟨t,by rw[of_decide_eq_true h]⟩
theorem gq {K:Frag}{h:Heap}(X:K.In h){a:Addr}{m:Str->Option Value}(N:h.Ns a m){x:Str}{r:Option Value}(e:nsIn K a x=rc r):m x=r:=by
 refine np N λo es ep ho hd _ hf=>?_
 cases hl:K.lookup a with
 | none=>unfold nsIn at e;replace e:=hl▸e;cases e
 | some ob=>
  cases ho.symm.trans (X _ _ hl)
  obtain⟨c,d,data,sl⟩:=o;subst hd;have e:(match es.toList.find? (·.key.isStr x) with | some e=>rc (rc e.val) | none=>if es.toList.any (·.refKey) then re else rc re)=rc r:=by unfold nsIn at e;rw[hl] at e;exact e
  refine(hf x)▸?_;unfold nsFind findBy;refine(Array.find?_toList)▸?_;cases he:es.toList.find? (·.key.isStr x) with
  | some en=>rw[he] at e;cases e;rfl
  | none=>
   rw[he] at e
   by_cases z:es.toList.any (·.refKey)=rg
   ·cases(if_pos z).symm.trans e
   ·cases(if_neg z).symm.trans e;rfl
theorem zcR {C:Value->Prop}{v:Value}(h:vSt v=rg)(k:∀ n t,C (.str n t)):C v:=(bb h).elim λq _=>Value.str.elim (motive:=C) v q k
theorem z2G:∀ {l:List DictEntry},lS l=rg->∀ e∈l,∃ n t,e.key = .str n t
 | []=>by intro _ e m;cases m
 | x:: r=>by
  intro h e m;have h1:=ae h;have h2:=aj h
  rcases List.mem_cons.mp m with rfl | m
  ·exact zcR (C:=λv=>∃ n t,v = .str n t) h1 λn t=>⟨n,t,rfl⟩
  ·exact z2G h2 e m
theorem z84 {K:Frag}{h:Heap}(X:K.In h){N:Addr}(e:zax K N=rg):∃ m,h.Ns N m:=by
 refine cP (C:=λx=>K.lookup N=x->∃ m,h.Ns N m) e (λo e hl=>?_) rfl;refine zc0 (C:=λd=>o.data=d->∃ m,h.Ns N m) e (λes n e hd=>?_) rfl;exact⟨_,o,es,n,X _ _ hl,hd,λen m=>z2G e en (Array.mem_toList_iff.mpr m),λ_=>rfl⟩
theorem z7h {G:Obj->Prop}{C:Addr}{o:Obj}{f:List Value->Addr->String->Bool}(h:om C o f=rg)
  (k:∀ bm N newId nm q bs hdct sn sub ab col dd k0 k1 k2 k3 k5,f bm N newId=rg->G (excClassObj nm q C N bs bm hdct sn sub ab col dd k0 k1 k2 k3 k5 newId)):G o:=by
 obtain⟨cls,dd,data,⟨sl⟩⟩:=o;refine kx (C:=λcls=>G ⟨cls,dd,data,⟨sl⟩⟩) h λt h=>zbZ (C:=λdata=>G ⟨.type t,dd,data,⟨sl⟩⟩) h λcd h=>?_
 obtain⟨d1,d2,mro,d4,d5,d6,d7,d8,d9,d10,d11⟩:=cd;refine nH (C:=λmro=>G ⟨.type t,dd,.cls ⟨d1,d2,mro,d4,d5,d6,d7,d8,d9,d10,d11⟩,⟨sl⟩⟩) h λv bm h=>k8 (C:=λv=>G ⟨.type t,dd,.cls ⟨d1,d2,v:: bm,d4,d5,d6,d7,d8,d9,d10,d11⟩,⟨sl⟩⟩) h λc h=>?_
 refine nH (C:=λsl=>G ⟨.type t,dd,.cls ⟨d1,d2,.ref c:: bm,d4,d5,d6,d7,d8,d9,d10,d11⟩,⟨sl⟩⟩) h λk0 r h=>nH (C:=λr=>G ⟨.type t,dd,.cls ⟨d1,d2,.ref c:: bm,d4,d5,d6,d7,d8,d9,d10,d11⟩,⟨k0:: r⟩⟩) h λk1 r h=>nH (C:=λr=>G ⟨.type t,dd,.cls ⟨d1,d2,.ref c:: bm,d4,d5,d6,d7,d8,d9,d10,d11⟩,⟨k0:: k1:: r⟩⟩) h λk2 r h=>
  zcr (C:=λr=>G ⟨.type t,dd,.cls ⟨d1,d2,.ref c:: bm,d4,d5,d6,d7,d8,d9,d10,d11⟩,⟨k0:: k1:: k2:: r⟩⟩) h λk3 k4 k5 h=>cP (C:=λk4=>G ⟨.type t,dd,.cls ⟨d1,d2,.ref c:: bm,d4,d5,d6,d7,d8,d9,d10,d11⟩,⟨[k0,k1,k2,k3,k4,k5]⟩⟩) h λv h=>zaE (C:=λv=>G ⟨.type t,dd,.cls ⟨d1,d2,.ref c:: bm,d4,d5,d6,d7,d8,d9,d10,d11⟩,⟨[k0,k1,k2,k3,rc v,k5]⟩⟩) h λnewId h=>?_
 obtain rfl:=qL (aL3 h);obtain rfl:=oX (aM2 h);have h3:=bG (aM1 h);dsimp only at h3
 subst h3;exact k _ _ _ _ _ _ _ _ _ _ _ _ _ _ _ _ _ (aj h)
theorem z0S {Y β:Type}{f g:Y->Option β}:∀ {l:List Y},(∀ x∈l,f x=g x)->l.filterMap f=l.filterMap g
 | []=>λ_=>rfl
 | x:: r=>by intro h;rw[pC,pC,h x (.head _),z0S λy m=>h y (.tail _ m)]
theorem ib {x p:Str}{v:Value}{l:List (Str×Value)}(h:(x==p)=rj):((p,v):: l).lookup x=l.lookup x:=by
 rw[qa,h]
theorem z6f {n p:Str}{ps:List Str}(n1:p∉ps)(m:n∈ps):(n==p)=false:=by
 cases q:n==p with
 | false=>rfl
 | true=>exact absurd (qL q▸m) n1
theorem cT {n:Str}:∀ {ps:List Str}{vs:List Value},vs.length=ps.length->n∈ps->∃ v,(ps.zip vs).lookup n=rc v
 | p:: ps,[],hl,_=>by cases hl
 | p:: ps,v:: vs,hl,m=>by
  rw[List.zip_cons_cons];by_cases q:n=p
  ·subst q
   exact⟨v,by rw[qa,beq_self_eq_true]⟩
  ·have ne:(n==p)=false:=by simpa using q
   rw[ib ne]
   rcases List.mem_cons.mp m with z | z
   ·exact absurd z q
   ·exact cT (by simpa using hl) z
theorem cu:∀ {ps:List Str}{vs:List Value},ps.Nodup->vs.length=ps.length->ps.filterMap (λn=>((ps.zip vs).lookup n).map (n,·))=ps.zip vs
 | [],_=>λ_ _=>rfl
 | p:: ps,[]=>by intro _ hl;cases hl
 | p:: ps,v:: vs=>by
  intro nd hl;obtain⟨n1,n2⟩:=List.nodup_cons.mp nd;rw[List.zip_cons_cons,pC];have e:((p,v):: ps.zip vs).lookup p=rc v:=by rw[qa,beq_self_eq_true]
  rw[e];simp only[Option.map_some]
  congr 1
  refine Eq.trans (z0S λn m=>?_) (cu n2 (by simpa using hl))
  rw[ib (z6f n1 m)]
theorem fm {ps qs:List Str}{vs:List Value}(hl:vs.length=ps.length)(hq:∀ n∈qs,n∈ps):(qs.filter λn=>((ps.zip vs).lookup n).isNone)=[]:=by
 rw[List.filter_eq_nil_iff];intro n m q;obtain⟨v,e⟩:=cT hl (hq n m);rw[e] at q;cases q
theorem z3C {fd:qR}{ps:List Str}{vals:List Value}{as:List Arg}{kd:List (Option Expr)}{dd:List Expr}(h1:fd.params=⟨[],as,re,[],kd,re,dd⟩)(h2:as.map (·.arg)=ps)(hd:fd.defaults = .none)
  (hl:decide (vals.length > ps.length)=rj)(hm:(ps.take (ps.length-0)).filter (λn=>((ps.zip vals).lookup n).isNone)=[])(hb:(ps++[]).filterMap (λn=>((ps.zip vals).lookup n).map (n,·))=ps.zip vals):bindArgs fd ⟨vals,[]⟩=pure (ps.zip vals):=by
 obtain⟨q1,q2,q3,q4,q5,q6,q7,q8,q9,q10,q11,q12,q13,q14,q15⟩:=fd;dsimp only at h1 hd
 subst h1 hd h2;unfold bindArgs;dsimp only;refine(if_neg (c:=(decide (vals.length > (as.map (·.arg)).length)&&rg)=rg) ?_).trans ?_
 ·rw[hl];exact pE
 have hn:∀ n,List.drop n ((re:Option (Array Value)).getD #[]).toList=[]:=λn=>List.drop_nil
 rw[hn];refine(if_neg ?_).trans ?_
 ·exact λq=>pE ((congrArg (λl=>!List.isEmpty l) hm).symm.trans q)
 rw[List.zip_nil_right];exact congrArg (λl=>(pure l:Sem (List (Str×Value)))) hb
theorem z5K {M:Model}{A:qZ}{s:Shared}{Q:List (Str×Value)->Shared->Prop}{E:VP}{fd:qR}{ps:List Str}{q:Str}{T:Addr}{o:Obj}{d:Value}{k:Nat}{vals:List Value}{as:List Arg}{kd:List (Option Expr)}{dd:List Expr}{sl bs:List (Str×Value)}
  (h1:fd.params=⟨[],as,re,[],kd,re,dd⟩)(h2:as.map (·.arg)=ps)(hd:fd.defaults = .ref T)(ho:s.heap.get? T=rc o)(hs:o.data = .seq #[d] k)
  (hl:decide (vals.length > ps.length)=rj)(h0:1-ps.length=0)(hm:(ps.take (ps.length-1)).filter (λn=>((ps.zip vals).lookup n).isNone)=[])(hz:(ps.drop (ps.length-1)).zip [d]=[(q,d)])
  (hi:(if((ps.zip vals).lookup q).isNone=rg then ps.zip vals++[(q,d)] else ps.zip vals)=sl)(hb:(ps++[]).filterMap (λn=>(sl.lookup n).map (n,·))=bs)(hq:Q bs s):wpAny M A (bindArgs fd ⟨vals,[]⟩) Q E s:=by
 obtain⟨q1,q2,q3,q4,q5,q6,q7,q8,q9,q10,q11,q12,q13,q14,q15⟩:=fd;dsimp only at h1 hd
 subst h1 hd h2;unfold bindArgs;refine qE (m:=forIn [] _ _) (qF ?_);refine bQ (λh=>wpAny_seqItems ho hs h) ?_;refine qy (a:=bs) ?_ hq;dsimp only;refine(if_neg (c:=(decide (vals.length > (as.map (·.arg)).length)&&rg)=rg) ?_).trans ?_
 ·refine hl▸?_;exact pE
 rw[show List.drop _ ((rc #[d]:Option (Array Value)).getD #[]).toList=[d] from by
  show List.drop (1-(as.map (·.arg)).length) [d]=[d]
  refine h0▸?_;rfl]
 refine(if_neg ?_).trans ?_
 ·exact λq=>pE ((congrArg (λl=>!List.isEmpty l) hm).symm.trans q)
 rw[show(List.drop ((List.map (λx:Arg=>x.arg) ([]:List Arg)++List.map (λx=>x.arg) as).length-[d].length) (List.map (λx:Arg=>x.arg) ([]:List Arg)++List.map (λx=>x.arg) as)).zip [d]=[(q,d)] from hz];rw[List.forIn_cons,<-hb,<-hi];dsimp only;cases e:((as.map (·.arg)).zip vals).lookup q with
 | none=>rw[show List.lookup q ((List.map (λx:Arg=>x.arg) ([]:List Arg)++List.map (λx=>x.arg) as).zip vals)=re from e];rfl
 | some v=>rw[show List.lookup q ((List.map (λx:Arg=>x.arg) ([]:List Arg)++List.map (λx=>x.arg) as).zip vals)=rc v from e];rfl
theorem z2e {a:Arguments}(h1:a.posonlyargs=[])(h3:a.vararg=re)(h4:a.kwonlyargs=[])(h5:a.kwarg=re):a=⟨[],a.args,re,[],a.kw_defaults,re,a.defaults⟩:=by
 obtain⟨p,q,v,k,d,w,e⟩:=a;dsimp only at h1 h3 h4 h5
 subst h1 h3 h4 h5;rfl
theorem z1X {fd:qR}{ps:List Str}(h1:fd.params.posonlyargs=[])(h2:fd.params.args.map (·.arg)=ps)(h3:fd.params.vararg=re)(h4:fd.params.kwonlyargs=[])(h5:fd.params.kwarg=re)(hd:fd.defaults = .none)(nd:ps.Nodup){vals:List Value}
  (hl:vals.length=ps.length):bindArgs fd ⟨vals,[]⟩=pure (ps.zip vals):=
 z3C (z2e h1 h3 h4 h5) h2 hd (decide_eq_false (by rw[hl];exact Nat.lt_irrefl _)) (by rw[Nat.sub_zero,List.take_length];exact fm (qs:=ps) hl λ_ m=>m) (by rw[qh];exact cu nd hl)
theorem z8M {qs:List Str}{q:Str}{vals:List Value}{d:Value}(h:vals.length=qs.length):(qs++[q]).zip (vals++[d])=qs.zip vals++[(q,d)]:=List.zip_append h.symm
theorem z5G {qs:List Str}{q:Str}{vals:List Value}(h:vals.length=qs.length):(qs++[q]).zip vals=qs.zip vals:=by
 have:=List.zip_append (l₁:=qs) (r₁:=[q]) (l₂:=vals) (r₂:=[]) h.symm
 rwa [qh,List.zip_nil_right,qh] at this
theorem z04 {n:Str}:∀ {ps:List Str}{vs:List Value},n∉ps->(ps.zip vs).lookup n=re
 | [],_=>λ_=>rfl
 | p:: ps,[]=>λ_=>rfl
 | p:: ps,v:: vs=>by
  intro m;rw[List.zip_cons_cons];have ne:(n==p)=false:=by
   cases q:n==p with
   | false=>rfl
   | true=>exact absurd (qL q▸List.Mem.head _) m
  rw[ib ne];exact z04 λz=>m (.tail _ z)
theorem ja {M:Model}{A:qZ}{s:Shared}{Q:List (Str×Value)->Shared->Prop}{E:VP}{fd:qR}{qs:List Str}{q:Str}{T:Addr}{o:Obj}{d:Value}{k:Nat}
  (h1:fd.params.posonlyargs=[])(h2:fd.params.args.map (·.arg)=qs++[q])(h3:fd.params.vararg=re)(h4:fd.params.kwonlyargs=[])(h5:fd.params.kwarg=re)(hd:fd.defaults = .ref T)(ho:s.heap.get? T=rc o)(hs:o.data = .seq #[d] k)(nd:(qs++[q]).Nodup){vals vals':List Value}
  (hl:vals.length=qs.length+1/\vals'=vals∨vals.length=qs.length/\vals'=vals++[d])(hq:Q ((qs++[q]).zip vals') s):wpAny M A (bindArgs fd ⟨vals,[]⟩) Q E s:=by
 have nq:q∉qs:=λm=>(List.nodup_append.mp nd).2.2 q m q (List.mem_singleton_self q) rfl
 have l1:(qs++[q]).length=qs.length+1:=pF;have hk:(qs++[q]).length-1=qs.length:=by rw[l1];rfl
 have e1:((qs++[q]).take ((qs++[q]).length-1)).filter (λn=>(((qs++[q]).zip vals).lookup n).isNone)=[]:=by
  rw[hk,List.take_left]
  rcases hl with ⟨h,_⟩ | ⟨h,_⟩
  ·exact fm (h.trans l1.symm) λn m=>pz _ m
  ·refine(z5G h)▸?_;exact fm h λn m=>m
 have e2:((qs++[q]).drop ((qs++[q]).length-1)).zip [d]=[(q,d)]:=by rw[hk,List.drop_left];rfl
 have hle:vals.length<=qs.length+1:=hl.elim (λh=>qu h.1) λh=>h.1▸Nat.le_succ _
 have e3:decide (vals.length > (qs++[q]).length)=false:=decide_eq_false (by refine l1▸?_;exact Nat.not_lt.mpr hle);have go:=λsl=>z5K (M:=M) (A:=A) (Q:=Q) (E:=E) (sl:=sl) (bs:=(qs++[q]).zip vals') (z2e h1 h3 h4 h5) h2 hd ho hs e3 (by refine l1▸?_;exact Nat.sub_eq_zero_of_le (Nat.le_add_left 1 _)) e1 e2
 rcases hl with ⟨h,rfl⟩ | ⟨h,rfl⟩
 ·refine fk (cT (n:=q) (h.trans l1.symm) (ph _ (List.mem_singleton_self q))) λv e=>?_
  exact go ((qs++[q]).zip vals') (by refine e▸?_;rfl) (by rw[qh];exact cu nd (h.trans l1.symm)) hq
 ·have e9:=cu (vs:=vals++[d]) nd (by simp only[pF,pF,h];rfl)
  exact go ((qs++[q]).zip (vals++[d])) (by rw[z5G h,z04 nq,z8M h];rfl) (by rw[qh];exact e9) hq
end
section
section
variable {prog:qW}{w:World}{A:qZ}{E:VP}{h:Heap}{g:Array GenState}{d:Drawn}{t:Nat}{os:OsState}{K:Frag}
variable {nm q:Str}{C N:Addr}{bs bm:List Value}{hdct:Bool}{sn:List Str}{sub:List Value}{ab:Bool}{col:Option Bool}{dd:Option Addr}{k0 k1 k2 k3 k5:Option Value}{newId:String}
theorem z25 (m:ExcMro bm){M:Model}{e:Addr}{oe:Obj}{rest:List Value}{Q:Unit->Shared->Prop}
  (hC:h.get? C=rc (excClassObj nm q C N bs bm hdct sn sub ab col dd k0 k1 k2 k3 k5 newId))(he:h.get? e=rc oe)(hcls:oe.cls = .ref C)(hq:Q () ⟨h,g,d,t,os⟩):
  wpAny M A (pW "ValueError.__init__" ⟨.ref e:: rest,[]⟩) Q E ⟨h,g,d,t,os⟩:=by
 have F:=oN;have c1:(qN C:: bm).contains (.type "ValueError")=true:=by rw[pI,m.v,Bool.or_true]
 have hshort:=F.noStar;simp only[pW,F.initKind,F.initSplit,F.initRow];repeat (first | (with_reducible refine pP he ?_;rw[hcls]) | with_reducible refine pP hC ?_ | (with_reducible refine pD hC ?_;rw[c1]) | wp_step)
 refine wpAny_onRaise ?_;rw[show ∀ (a b:String)(n:Nat),Bind.check ⟨.positional,"*","ValueError",.self,[⟨"args",.varPos,rj⟩]⟩ a b n (List.map (λx=>x.fst) ({ pos:=qN e:: rest }:Args).kw)=pure () from
  λa b n=>check_star_args _ _ _ _ _ _]
 exact qF hq
theorem z7r (m:ExcMro bm){e T0:Addr}{dx:Option Addr}{x:Value}{Q:VP}
  (hC:XO h C bm newId)(he:h.get? e=rc { cls:=.ref C,dict:=dx,data:=.fields #[.ref T0,.none,.none,.none,.bool rj,.none] })
  (hq:∀ h' T,(∀ b o,b≠e->h.get? b=rc o->h'.get? b=rc o)->h'.get? e=rc { cls:=.ref C,dict:=dx,data:=.fields #[.ref T,.none,.none,.none,.bool rj,.none] }->Q .none ⟨h',g,d,t,os⟩):
  wpAny (model prog w) A (call (.builtin "ValueError.__init__") [.ref e,x]) Q E ⟨h,g,d,t,os⟩:=by
 obtain⟨nm,q,N,bs,hdct,sn,sub,ab,col,dd,k0,k1,k2,k3,k5,hC⟩:=hC;have F:=oN;refine wpAny_call (codeAny_call_builtin F.init.plain F.initEntry (z25 m hC he rfl ?_))
 wp_walk
 refine hq _ h.objs.size (λb o n hb=>?_) ?_
 ·rw[oU _ _ (qY n)]
  exact oS _ hb
 ·rw[oY _ (oS _ he) rfl]
  rfl
theorem z4N {T:String}{name:Str}{s:Shared}{pl:Sem Bool}{Q:Value×List Value->Shared->Prop}(X:K.In s.heap)(ht:typeOf (.type T)=pure (.type "type"))(hga:r8 K (.type "type") "__getattribute__" = rc (rc (.builtin "type.__getattribute__")))
  (h:wpAny (model prog w) A (PySem.getAttr (.type T) name) (λv=>Q (v,[])) E s):wpAny (model prog w) A (getMethod (.type T) name pl) Q E s:=by
 unfold getMethod;have L:Looks (model prog w) s.heap (specialOf (.type T) "__getattribute__") (rc (.builtin "type.__getattribute__")):=(Looks.of_pure ht).andThen (looks_findIn X hga);refine qE (L.here ?_);dsimp only;rw[if_pos canon_tga];exact qE (wpAny_mono h (λ_ _ z=>qF z) λ_ _ z=>z)
theorem z6I {T:String}{name:Str}{v:Value}{s:Shared}{expr:Bool}{Q:VP}(X:K.In s.heap)(ho:opaqueClassAbove (.type T)=pure re)(ht:typeOf (.type T)=pure (.type "type"))
  (hga:r8 K (.type "type") "__getattribute__" = rc (rc (.builtin "type.__getattribute__")))(hi:subIn K (.type "type") (.type "type")=rc rg)(e:findCls K (.type T) (.type "type") name=rc (.val v))(hh:handedIn v=rg)
  (h:Q v { s with toks:=s.toks+1 }):wpAny (model prog w) A (PySem.getAttr (.type T) name expr) Q E s:=
 cls_open (prog:=prog) (w:=w) (A:=A) (E:=E) X (.of_pure ho) (.of_pure ht) hga (looks_hook (r:=re) X (by rfl)) hi e (qF (by show wpAny _ _ (handedOut v) _ _ _;rw[handedOut_of hh];exact qF h))
theorem zbx {s:List String}:∀ {r:List Value},tys s r=rg->r=s.map .type:=by
 induction s with
 | nil=>exact λe=>List.isEmpty_iff.mp e
 | cons b s ih=>exact λe=>nH (C:=λr=>r=(b:: s).map .type) e λv r e=>kx (C:=λv=>v:: r=(b:: s).map .type) (ae e) λa q=>by rw[qL q,ih (aj e)];rfl
theorem z4a {P:List Value->Prop}(h1:P [.type "ValueError",.type "Exception",.type "BaseException",.type "object"])(h2:∀ c r,fX r=rg->P r->P (.ref c:: r)):∀ {l:List Value},fX l=rg->P l:=by
 intro l
 induction l with
 | nil=>exact λe=>pY e
 | cons v r ih=>
  intro e
  rcases Bool.or_eq_true_iff.mp e with e | e
  ·rw[zbx e];exact h1
  ·exact k8 (C:=λv=>P (v:: r)) (ae e) λc _=>h2 c r (aj e) (ih (aj e))
theorem z4T (self:Value){l:List Value}:fX l=rg->refuseLoop self "__setattr__" l=pure ():=
 z4a (P:=λl=>refuseLoop self "__setattr__" l=pure ()) (PySem.F.store_ValueError.passes self) λc r _ h=>by rw[refuseLoop_ref];exact h
theorem z88 {l:List Value}:fX l=rg->l.contains (.type "object")=true:=
 z4a (P:=λl=>l.contains (.type "object")=rg) (by decide +kernel) λc r _ h=>by rw[pI,h,Bool.or_true]
open _root_.PySem.Builtin _root_.PySem.Builtin.ObjectAttr in
theorem z9l {x:Addr}{ox:Obj}{od:Option Obj}{name:Str}{tk:Tok}{v:Value}{s:Shared}{R:r6->Shared->Prop}(X:K.In s.heap)(I:InstAt s.heap x ox C od)(hp:j3 K C=rg)(ht:r8 K (.ref C) name=rc re)
  (h:∀ b,wpAny (model prog w) A.in1 (storeInOwnDict (.ref x) (.ref C) (.str name tk) name v b)
   (λfin s'=>match fin with | .done f=>R (.ok f) s' | .again c'=>c'.quiet=rg/\codeAny (model prog w) A c' R s') (λe s'=>R (.error e) s') s):
  codeAny (model prog w) A (.call (.builtin "object.__setattr__") ⟨[.ref x,.str name tk,v],[]⟩) R s:=by
 have SF:=PySem.F.store_object;refine el12 (any_some hp) λcd hc ho=>?_
 have ne:cd.mro.isEmpty=false:=by cases q:cd.mro with | nil=>replace ho:=q▸ho;cases ho | cons _ _=>rfl
 have sub:Looks (model prog w) s.heap (isInstance (.ref x) (.type "object")) true:=I.type.andThen (looks_mroIn X (by unfold mroIn;rw[hc,Option.bind_some,if_neg (by rw[ne];decide),z88 ho]));refine codeAny_call_builtin SF.slot.plain SF.entry (@check_slot (model prog w) _ _ s "object.__setattr__" "object" "__setattr__" (.ref x) [.str name tk,v] [] _ SF.kind SF.split sub (SF.args (.ref x) (.str name tk) v) ?_);have hm:Looks (model prog w) s.heap (mroOf (.ref C)) cd.mro:=(looks_clsIn X hc).andThen .now;simp only[osa_eq,refuse_eq];refine qE (qE (I.type.here (qE (hm.here ?_))));refine(z4T _ ho)▸?_;refine qF (qE (I.type.here (qE ((looks_findIn X ht).here (qE (qF ?_))))));exact h _
open _root_.PySem.Builtin _root_.PySem.Builtin.ObjectAttr in
theorem z4D {x:Addr}{name:Str}{v:Value}{vs:Array Value}{Q:Unit->Shared->Prop}{s:Shared}(X:K.In s.heap)(hst:r8 K (.ref C) "__setattr__" = rc (rc (.builtin "object.__setattr__")))(hp:j3 K C=rg)(ht:r8 K (.ref C) name=rc re)(hh:(clsIn K C).any (·.hasDict)=rg)
  (hx:s.heap.get? x=rc { cls:=.ref C,data:=.fields vs })
  (hq:∀ h' tk D od m,(∀ b o,b≠x->s.heap.get? b=rc o->h'.get? b=rc o)->s.heap.get? D=re->h'.get? x=rc { cls:=.ref C,dict:=rc D,data:=.fields vs }->h'.get? D=rc od->iJ od m 1->Q () { s with heap:=h',toks:=tk }):
  wpAny (model prog w) A (PySem.setAttr (.ref x) name v) Q E s:=by
 have I:InstAt s.heap x { cls:=.ref C,data:=.fields vs } C none:=⟨hx,rfl,rfl,trivial⟩
 obtain⟨cd,hc,hdd⟩:=any_some hh;refine set_plain X I hst (z9l (s:={ s with toks:=s.toks+1 }) X I hp ht λb=>?_);obtain⟨hp',g',d',t',os'⟩:=s;dsimp only at X hx hq I ⊢
 refine qE (qF (qE (qE (wpAny_loadPart hx (qE (looks_clsIn (M:=model prog w) (h:=hp') X hc _ _ _ _ (λ_ _ e=>e) ?_))))));rw[hdd];have xs:x≠hp'.objs.size:=qq (qp hx);have hx1:(hp'.push { cls:=.type "dict",data:=.dict #[] }).get? x=rc { cls:=.ref C,data:=.fields vs }:=oS _ hx;refine qE (wpAny_alloc' ?_);refine qE (wpAny_update' hx1 ?_);refine qF (qE ?_);have hD:((hp'.push { cls:=.type "dict",data:=.dict #[] }).update x λo=>{ cls:=o.cls,dict:=rc hp'.objs.size,data:=o.data,slots:=o.slots }).get? hp'.objs.size=rc { cls:=.type "dict",data:=.dict #[] }:=
  (Heap.get?_update_ne _ _ _ _ xs.symm).trans (Heap.get?_push_at rfl rfl)
 have hX':((hp'.push { cls:=.type "dict",data:=.dict #[] }).update x λo=>{ cls:=o.cls,dict:=rc hp'.objs.size,data:=o.data,slots:=o.slots }).get? x=rc { cls:=.ref C,dict:=rc hp'.objs.size,data:=.fields vs }:=
  oY _ hx1 rfl
 have N0:iJ { cls:=.type "dict",data:=.dict #[] } (λ_=>re) 0:=⟨#[],_,rfl,λe he=>absurd he (by simp),λ_=>rfl,rfl⟩
 refine qF (qE ?_);refine z0W hD N0 λh' ob' hs e N'=>?_
 obtain⟨es',ep',hd',_,_,hz⟩:=id N';refine qE (wpAny_lookBehind e (by rw[hd'];exact pastItsLine_dict (by rw[hz,qx];simp)) ?_);refine qF (hq h' _ hp'.objs.size ob' _ (λb o n hb=>?_) (aZ _) ((hs.2 x xs).trans hX') e N');exact(hs.2 b (qq (qp hb))).trans ((Heap.get?_update_ne _ _ _ _ n).trans (oS _ hb))
end
structure Fn2 (base:Heap)(f:Addr)(fd:qR)(p1 p2:Str)(body:List Stmt):Prop where
 obj:∃ o,base.get? f=rc o/\o.data = .func fd/\o.cls = .type "function"
 co:fd.scope.isCoroutine=rj
 gen:fd.scope.isGenerator=rj
 bod:fd.body = .stmts body
 code:base.CodeRec fd.code fd.qualname
 clo:fd.closure=[]
 glob:fd.globals=qw
 blt:fd.builtins=qD
 kind:fd.scope.kind = .function
 cells:fd.scope.names.filter (·.2==.cell)=[]
 l1:fd.scope.names.lookup p1=rc .local
 l2:fd.scope.names.lookup p2=rc .local
 ne:p2≠p1
 bind:∀ v1 v2 (M:Model)(A:qZ)(s:Shared)(Q:List (Str×Value)->Shared->Prop)(E:VP),base.StaysIn s.heap->Q [(p1,v1),(p2,v2)] s->wpAny M A (bindArgs fd ⟨[v1,v2],[]⟩) Q E s
theorem z0c:∀ {names:List (Str×qV)}{h:Heap},names.filter (·.2==.cell)=[]->pushCells h names=h
 | [],_,_=>rfl
 | (x,k):: r,h,e=>by
  unfold pushCells;by_cases hk:(k==qn)=rg
  ·rw[pS,if_pos hk] at e;cases e
  ·rw[if_neg hk]
   rw[pS,if_neg hk] at e
   exact z0c e
theorem zbV {prog:qW}{w:World}{A:qZ}{base:Heap}{f:Addr}{fd:qR}{p1 p2:Str}{body:List Stmt}(G:Fn2 base f fd p1 p2 body)(hlim:base.NoLimit){s:Shared}(hb:base.StaysIn s.heap)(hroom:A.depth<recursionLimit){v1 v2:Value}{Q:VP}
  (h:∀ env h1 tk m,env.scope.kind = .function->(∀ n k,fd.scope.names.lookup n=rc k->env.kindOf n=rc k)->env.globals=qw->env.builtins=qD->s.heap.StaysIn h1->s.heap.get? env.locals=re->h1.Ns env.locals m->m p1=rc v1->m p2=rc v2->
   wpAny (model prog w) (A.deeper env) (execs body env) (λfl s'=>Q (match fl with | .ret v=>v | _=>.none) s') (λ_ _=>False) { s with heap:=h1,toks:=tk }):
  wpAny (model prog w) A (call (.ref f) [v1,v2]) Q (λ_ _=>False) s:=by
 refine el13 G.obj λo ho hdat _=>?_
 refine wpAny_call (codeAny_call_function hroom (hb _ _ ho) hdat G.co G.gen G.bod (G.code.keeps hb) (G.bind v1 v2 _ _ _ _ _ hb ?_));refine G.clo▸?_;simp only[newFunctionEnv,Option.isSome_none,pG,if_false];obtain⟨hp,g,dr,tk,os⟩:=s;refine bQ (λhh=>wpAny_alloc hh) ?_;refine qE (wpAny_layCells _ (λname kind cells=>by cases hkc:kind==qn <;> simp[hkc]) _ _ _ _ ?_);refine(z0c G.cells)▸?_;have hns:(hp.push { cls:=.type "frame",data:=.dict #[] }).Ns hp.objs.size (λ_=>re):=Heap.Ns.new hp (.type "frame");generalize hE:({ scope:=fd.scope,locals:=hp.objs.size,globals:=fd.globals,cells:=cellsFrom (hp.push { cls:=.type "frame",data:=.dict #[] }).objs.size fd.scope.names [],qual:=fd.qualname ++ ".<locals>.",func:=rc f,code:=fd.code,frame:=rc hp.objs.size,builtins:=fd.builtins }:Env)=env;have eL:env.locals=hp.objs.size:=by rw[<-hE]
 have eK:∀ n k,fd.scope.names.lookup n=rc k->env.kindOf n=rc k:=λn k e=>by refine hE▸?_;exact e
 have eS:env.scope.kind = .function:=by refine hE▸?_;exact G.kind
 simp only[List.forIn_cons,List.forIn_nil,qJ,qO];refine qE (pf (eK _ _ G.l1) (eL▸hns) (λh1 n1 s1=>?_) (by refine eS▸?_;rfl));refine qE (pf (eK _ _ G.l2) n1 (λh2 n2 s2=>?_) (by refine eS▸?_;rfl));have st:hp.StaysIn h2:=λb o e=>by
  have hne:b≠env.locals:=by simp only[eL];exact qq (qp e)
  exact s2.extBut b o hne (s1.extBut b o hne (oS _ e))
 refine qF ⟨hlim.keeps λb o e=>st b o (hb b o e),codeAny_func ?_⟩;refine wpAny_mono (h env h2 _ _ eS eK (by rw[<-hE];exact G.glob) (by rw[<-hE];exact G.blt) st (by refine eL▸?_;exact aZ hp) n2 ?_ ?_) (λfl s' z=>z) λ_ _ z=>z.elim
 ·show(if p1=p2 then rc v2 else if p1=p1 then rc v1 else re)=rc v1
  rw[if_neg (λe=>G.ne e.symm),if_pos rfl]
 ·show(if p2=p2 then rc v2 else _)=rc v2
  rw[if_pos rfl]
end
section
section
variable {prog:qW}{w:World}{A:qZ}{E:VP}{s:Shared}
theorem z8z {a b:Expr}{env:Env}{pos:Pos}{Q:List Value->Shared->Prop}(ha:aR a=rg)(hb:aR b=rg)
  (h:wpAny (model prog w) A (eval a env) (λv s1=>wpAny (model prog w) A (eval b env) (λu s2=>Q [v,u] s2) E s1) E s):wpAny (model prog w) A (spliced (r9 pos (qT [a,b] env))) Q E s:=by
 rw[bK ha,bK hb];exact spliced_cons (wpAny_mono h (λv s1 h1=>spliced_cons (wpAny_mono h1 (λu s2 h2=>spliced_nil h2) λ_ _ z=>z)) λ_ _ z=>z)
theorem z5S {f:Value}{a b:Expr}{env:Env}{pos:Pos}{Q:Args->Shared->Prop}(ha:aR a=rg)(hb:aR b=rg)
  (h:wpAny (model prog w) A (eval a env) (λv s1=>wpAny (model prog w) A (eval b env) (λu s2=>Q ⟨[v,u],[]⟩ s2) E s1) E s):wpAny (model prog w) A (evalArgs f rg (r9 pos (qT [a,b] env)) []) Q E s:=by
 have e:r9 pos (qT [a,b] env)=(rj,eval a env):: r9 pos (qT [b] env):=by rw[bK ha];rfl
 have:=z8z (pos:=pos) (Q:=λvs s'=>Q ⟨vs,[]⟩ s') ha hb h;rw[e] at this ⊢
 exact evalArgs_plain this
theorem z3S {po a b:Expr}{nm:Str}{env:Env}{apos pos:Pos}{Q:VP}(hs:fW po=rg)(hn:au [a,b]=rg)(hl:(apos.endLine==pos.line)=rg)
  (h:wpAny (model prog w) A (eval po env) (λov s1=>wpAny (model prog w) A (getMethod ov nm (do return (<-importBound po env).getD rg)) (λr s2=>r.2=[]/\wpAny (model prog w) A (qU pos r.1 [] (r9 pos (qT [a,b] env)) []) Q E s2) E s1) E s):
  wpAny (model prog w) A (eval (.Call (.Attribute po nm apos) [a,b] [] pos) env) Q E s:=by
 show wpAny _ _ (attributeBase po nm env (eval po env) >>= λov=>standAt apos.atName >>= λ_=>(do
   let (f,first)<-holding [ov] (calleeOf (methodCallForm (2+0) (r9 pos (qT [a,b] env)) (backToKw pos [])) po env ov nm)
   let callPos<-methodCallPos (methodCallForm (2+0) (r9 pos (qT [a,b] env)) (backToKw pos [])) po env apos pos
   qU callPos f first (r9 pos (qT [a,b] env)) (backToKw pos []))) _ _ _
 have ff:=z3U (pes:=[a,b]) (pos:=pos) (env:=env) hn (by simp);dsimp only[pT,List.length_nil,qr] at ff
 rw[kC hs,ff];refine qE (wpAny_mono h (λov s1 h1=>bQ (λh=>wpAny_standAt h) (qE (qm (wpAny_mono h1 (λr s2 h2=>?_) λ_ _ z=>z)))) λ_ _ z=>z);obtain⟨f,first⟩:=r;obtain⟨rfl,h2⟩:=h2;refine(eH hl)▸?_;exact qE (qF h2)
end
structure ExcCls (K:Frag)(base:Heap)(C:Addr)(ds:List Addr):Prop where
 obj:∃ bm,XO base C bm "ValueError.__new__"/\ExcMro bm/\bm.contains (.type "BaseException")=rg/\∀ d∈ds,(qN C:: bm).contains (.ref d)=rj
 st:r8 K (.ref C) "__setattr__" = rc (rc (.builtin "object.__setattr__"))
 po:j3 K C=rg
 hd:(clsIn K C).any (·.hasDict)=rg
 r:r8 K (.ref C) "reason" = rc re
structure ExcWld (K:Frag)(base:Heap)(mg mb:Str->Option Value)(B fB:Addr):Prop where
 X:K.In base
 hg:base.Ns qw mg
 hb:base.Ns qD mb
 lim:base.NoLimit
 noV:mg "ValueError" = re
 bV:mb "ValueError" = rc (.type "ValueError")
 tga:r8 K (.type "type") "__getattribute__" = rc (rc (.builtin "type.__getattribute__"))
 tt:subIn K (.type "type") (.type "type")=rc rg
 iV:findCls K (.type "ValueError") (.type "type") "__init__" = rc (.val (.builtin "ValueError.__init__"))
 gB:mg "BoardError" = rc (.ref B)
 gaB:specialIn K (.ref B) "__getattribute__" = rc (rc (.builtin "type.__getattribute__"))
 rB:readsIn K B (.type "type")=rg
 iB:findCls K (.ref B) (.type "type") "__init__" = rc (.val (.ref fB))
theorem z8F:typeOf (.type "ValueError")=pure (.type "type"):=by kernel_rfl
theorem z87:opaqueClassAbove (.type "ValueError")=pure none:=by kernel_rfl
section
variable {prog:qW}{w:World}{A:qZ}{K:Frag}{base:Heap}{mg mb:Str->Option Value}{B fB:Addr}{s:Shared}
noncomputable abbrev zcb (C:Addr)(d:Option Addr)(T:Addr):Obj:={ cls:=.ref C,dict:=d,data:=.fields #[.ref T,.none,.none,.none,.bool rj,.none] }
noncomputable def de (p1 p2 p3 p4 p5 p6 p7 p8 p9 p10:Pos):List Stmt:=
 [.Expr (.Call (.Attribute (.Name "ValueError" p1) "__init__" p2) [.Name "self" p3,.Name "reason" p4] [] p5) p6,
  .Assign [.Attribute (.Name "self" p7) "reason" p8] (.Name "reason" p9) p10]
theorem z4x (Wd:ExcWld K base mg mb B fB){C:Addr}{ds:List Addr}(EC:ExcCls K base C ds){fd:qR}{p1 p2 p3 p4 p5 p6 p7 p8 p9 p10:Pos}(G:Fn2 base fB fd "self" "reason" (de p1 p2 p3 p4 p5 p6 p7 p8 p9 p10))(hp:(p2.endLine==p5.line)=rg)
  (hl:fd.scope.names.lookup ("ValueError" : Str)=rc .globalImplicit)(hroom:A.depth<recursionLimit)(hb:base.StaysIn s.heap){e T0:Addr}{x:Value}{Q:VP}(hne:base.get? e=re)
  (he:s.heap.get? e=rc (zcb C re T0))
  (hq:∀ h' tk D od m T,(∀ b o,b≠e->s.heap.get? b=rc o->h'.get? b=rc o)->s.heap.get? D=re->h'.get? e=rc (zcb C (rc D) T)->h'.get? D=rc od->iJ od m 1->Q .none { s with heap:=h',toks:=tk }):
  wpAny (model prog w) A (call (.ref fB) [.ref e,x]) Q (λ_ _=>False) s:=by
 refine zbV G Wd.lim hb hroom λenv h1 tk m ek eK eg eb st hL ns m1 m2=>?_
 refine aw λ_ Z9=>?_
 obtain⟨bm,hC,hm,_⟩:=EC.obj;have b1:base.StaysIn h1:=λb o z=>st _ _ (hb _ _ z)
 have intr:interactive env=false:=by unfold interactive;rw[ek];rfl
 obtain⟨hp0,g,dr,tk0,os⟩:=s;refine Z9 ?_;dsimp only at st hL he hq hb ⊢
 have X1:K.In h1:=λb o z=>b1 _ _ (Wd.X b o z)
 have hg1:h1.Ns qw mg:=Wd.hg.keeps b1;have hb1:h1.Ns qD mb:=Wd.hb.keeps b1;have self1:∀ {h2:Heap}{p:Pos}{tk:Nat}{A:qZ}{Q:VP}{E:VP},h2.Ns env.locals m->Q (.ref e) ⟨h2,g,dr,tk,os⟩->wpAny (model prog w) A (eval (.Name "self" p) env) Q E ⟨h2,g,dr,tk,os⟩:=λn z=>
  wpAny_Name (wpAny_loadName_local ek (eK _ _ G.l1) n m1 z) (by decide +kernel)
 have reas1:∀ {h2:Heap}{p:Pos}{tk:Nat}{A:qZ}{Q:VP}{E:VP},h2.Ns env.locals m->Q x ⟨h2,g,dr,tk,os⟩->wpAny (model prog w) A (eval (.Name "reason" p) env) Q E ⟨h2,g,dr,tk,os⟩:=λn z=>
  wpAny_Name (wpAny_loadName_local ek (eK _ _ G.l2) n m2 z) (by decide +kernel)
 unfold de;rw[arm_execs_cons,exec_Expr env _ _ intr (cJ rfl)];refine qE (bQ (λh=>wpAny_standAt h) (qE (z3S rfl rfl hp ?_)));refine oM ek (eK _ _ hl) (Calls.loadGlobal_builtin (eg▸hg1) Wd.noV (eb▸hb1) Wd.bV ?_) (by decide +kernel);refine z4N (K:=K) X1 z8F Wd.tga (z6I (K:=K) X1 z87 z8F Wd.tga Wd.tt Wd.iV rfl ⟨rfl,?_⟩);refine callWith_builtin (cE rfl) (z5S rfl rfl (self1 ns (reas1 ns ?_)));refine z7r hm (hC.keeps b1) (st _ _ he) λh2 T k2' e2=>?_
 have ne2:env.locals≠e:=λz=>by rw[z,he] at hL;cases hL
 have ns2:h2.Ns env.locals m:=by obtain⟨o,es,ep,e1,r⟩:=ns;exact⟨o,es,ep,k2' _ _ ne2 e1,r⟩
 have b2:base.StaysIn h2:=λb o z=>k2' _ _ (λq=>by rw[q,hne] at z;cases z) (b1 _ _ z)
 have X2:K.In h2:=λb o z=>b2 _ _ (Wd.X b o z)
 refine wpAny_dropValue ?_;show wpAny _ _ (execs _ env) _ _ _;rw[arm_execs_cons,arm_exec_Assign];refine qE (qE (wpAny_standAt ?_));rw[bY rfl];show wpAny _ _ (eval (.Name "reason" p9) env >>= λv=>swappedStores [.Attribute (.Name "self" p7) "reason" p8] (.Name "reason" p9) env >>= λsw=>assignStores env v sw ((assignEach [.Attribute (.Name "self" p7) "reason" p8] env).map (·.2))) _ _ _;refine qE (reas1 ns2 ?_);show wpAny _ _ (assign (.Attribute (.Name "self" p7) "reason" p8) env x >>= λ_=>pure Flow.next) _ _ _;rw[arm_assign_Attribute];refine qE ?_;refine qE (qm (self1 ns2 ?_));refine qE (wpAny_standAt (qE (qm ?_)));refine z4D (K:=K) (s:=⟨h2,g,dr,_,os⟩) X2 EC.st EC.po EC.r EC.hd e2 λh3 tk3 D od mD k3' nD e3 o3 N3=>?_
 refine wpAny_release (qF ?_);show wpAny _ _ (execs [] env) _ _ _;refine qF ?_;refine hq h3 _ D od mD T (λb o n z=>k3' _ _ n (k2' _ _ n (st _ _ z))) ?_ e3 o3 N3;cases z:hp0.get? D with
 | none=>rfl
 | some o=>
  by_cases n:D=e
  ·subst n;rw[e2] at nD;cases nD
  ·rw[k2' _ _ n (st _ _ z)] at nD;cases nD
end
end
section
section
variable {prog:qW}{w:World}{A:qZ}{K:Frag}{base:Heap}{mg mb:Str->Option Value}{B fB:Addr}{s:Shared}
theorem z6G (Wd:ExcWld K base mg mb B fB){C:Addr}{ds:List Addr}(EC:ExcCls K base C ds){fdB:qR}{b1 b2 b3 b4 b5 b6 b7 b8 b9 b10:Pos}(GB:Fn2 base fB fdB "self" "reason" (de b1 b2 b3 b4 b5 b6 b7 b8 b9 b10))(hpB:(b2.endLine==b5.line)=rg)
  (hlB:fdB.scope.names.lookup ("ValueError" : Str)=rc .globalImplicit)(hiC:r8 K (.ref C) "__init__" = rc (rc (.ref fB)))(hroom:A.depth<=900)(hb:base.StaysIn s.heap){x:Value}{Q:VP}{E:VP}
  (hq:∀ h' tk e d a0,s.heap.StaysIn h'->s.heap.get? e=re->h'.get? e=rc (mW (.ref C) d a0)->Q (.ref e) { s with heap:=h',toks:=tk }):
  wpAny (model prog w) A (call (.ref C) [x]) Q E s:=by
 refine aw λ_ Z9=>?_
 refine el13 EC.obj λbm hC hm _=>?_
 refine el13 GB.obj λoB hoB _ hcB=>?_
 obtain⟨hp0,g,dr,tk0,os⟩:=s;refine Z9 ?_;dsimp only at hb hq
 have X1:K.In hp0:=λb o z=>hb _ _ (Wd.X b o z)
 have w1:(Code.builtin "type.__call__" ⟨.ref C:: [x],[]⟩).weight=1:=by kernel_rfl
 refine z7q hm (hC.keeps hb) (looks_findIn X1 hiC) (hb _ _ hoB) hcB (by simp) λh1 e M=>?_
 refine el13 M.there λT0 he _ _=>?_
 have c1:base.StaysIn h1:=λb o z=>M.keeps _ _ (hb _ _ z)
 have hne:base.get? e=none:=by
  cases z:base.get? e with
  | none=>rfl
  | some o=>have:=hb _ _ z;replace this:=M.new▸this;cases this
 refine wpAny_mono (z4x (s:=⟨h1,g,dr,tk0,os⟩) Wd EC GB hpB hlB ?_ c1 hne he λh2 tk2 D od mD T k2' nD e2 _ _=>⟨rfl,?_⟩) (λ_ _ z=>z) λ_ _ z=>z.elim
 ·show A.depth+(Code.builtin "type.__call__" ⟨.ref C:: [x],[]⟩).weight<1000
  refine w1▸?_;exact pJ (Nat.succ_le_succ hroom) (by decide)
 ·exact hq h2 tk2 e (rc D) (.ref T) (λb o z=>k2' _ _ (λq=>by simp only[q,M.new] at z;cases z) (M.keeps _ _ z)) M.new e2
end
end
section
theorem iq {a:List Str}:∀ {b:List Str},jY a b=rg->a=b:=by
 induction a with
 | nil=>intro b h;cases b with
  | nil=>rfl
  | cons=>cases h
 | cons x a ih=>intro b h;cases b with
  | nil=>cases h
  | cons y b=>rw[cF (ae (a:=sEq x y) h),ih (aj (a:=sEq x y) h)]
theorem z49 {a:Str}:∀ {l},lJ a l=rg->a∉l
 | []=>by intro _ m;cases m
 | b:: r=>by
  intro h m;obtain⟨h1,h2⟩:=Bool.and_eq_true_iff.mp (show(!(sEq a b)&&lJ a r)=rg from h)
  rcases List.mem_cons.mp m with rfl | m
  ·rw[hF] at h1;cases h1
  ·exact z49 h2 m
theorem ij:∀ {l:List Str},gL l=rg->l.Nodup
 | []=>λ_=>List.nodup_nil
 | a:: r=>by
  intro h;obtain⟨h1,h2⟩:=Bool.and_eq_true_iff.mp (show(lJ a r&&gL r)=rg from h);exact List.nodup_cons.mpr ⟨z49 h1,ij h2⟩
theorem z4P {K:Frag}{h:Heap}(X:K.In h){t:Addr}(e:iW K t=rg):∃ o k,h.get? t=rc o/\o.data = .seq #[.none] k:=
 cP (C:=λx=>K.lookup t=x->∃ o k,h.get? t=rc o/\o.data = .seq #[.none] k) e (λo e hl=>zai (C:=λd=>o.data=d->∃ o k,h.get? t=rc o/\o.data = .seq #[.none] k) e (λxs k e hd=>by
  obtain⟨xs⟩:=xs;refine cZ (C:=λxs=>o.data = .seq ⟨xs⟩ k->∃ o k,h.get? t=rc o/\o.data = .seq #[.none] k) e (λv e hd=>?_) hd;exact nQ (C:=λv=>o.data = .seq ⟨[v]⟩ k->∃ o k,h.get? t=rc o/\o.data = .seq #[.none] k) e (λhd=>⟨o,k,X _ _ hl,hd⟩) hd) rfl) rfl
theorem cN {Y:Type}{l:List Y}(h:eW l=rg):l=[]:=by induction l with | nil=>rfl | cons=>cases h
theorem iU {Y:Type}{l:Option Y}(h:nF l=rg):l=none:=by induction l with | none=>rfl | some=>cases h
theorem zbm {v:V}(h:V.none? v=rg):v = .none:=by cases v <;> first | rfl | exact pY h
theorem wd0 {n:Nat}{vs vs':List V}(h:bL n vs []=rc vs'):vs'=vs/\vs.length=n:=by
 obtain⟨⟨a,b⟩,rfl⟩:=iG h;exact⟨by rw[List.drop_nil,qh],Nat.le_antisymm a b⟩
theorem wd1 {n:Nat}{vs vs':List V}{d:V}(h:bL (n+1) vs [d]=rc vs'):(vs'=vs/\vs.length=n+1)∨(vs'=vs++[d]/\vs.length=n):=by
 obtain⟨⟨a,b⟩,rfl⟩:=iG h
 rcases Nat.lt_or_eq_of_le a with q | q
 ·have e:=Nat.le_antisymm (Nat.le_of_lt_succ q) (Nat.le_of_succ_le_succ b)
  have z:n+[d].length-(n+1)=0:=Nat.sub_self (n+1);exact .inr ⟨by rw[e,z];rfl,e⟩
 ·have z:n+1+[d].length-(n+1)=1:=Nat.add_sub_cancel_left (n+1) 1
  exact .inl ⟨by rw[q,z];exact qh _,q⟩
theorem z4y {c:Cfg}{T:Tb}(hn:c.nm=T.nm)(X:c.K.In c.base){fd:qR}{d:FnDef}(e:kJ c.K T fd.params fd.defaults d=rg):
  ∀ vs vs' U h vals,bL d.params.length vs d.dflts=rc vs'->VRs c U h vs vals->∃ vals',VRs c U h vs' vals'/\
  ∀ (A:qZ)(s:Shared)(Q:List (Str×Value)->Shared->Prop)(E:VP),c.base.StaysIn s.heap->Q ((d.params.map c.nm).zip vals') s->wpAny (model c.prog c.w) A (bindArgs fd ⟨vals,[]⟩) Q E s:=by
 unfold kJ at e
 simp only[pU] at e
 refine aw λ_ Z9=>?_
 obtain⟨⟨⟨⟨⟨⟨h1,h3⟩,h4⟩,h5⟩,h2⟩,nd⟩,hd⟩:=e;refine Z9 ?_;have h1:=cN h1;have h3:=iU h3;have h4:=cN h4;have h5:=iU h5;have h2:=iq h2;have nd:=ij nd;intro vs vs' U h vals hw r;unfold z56 at hd
 refine hn▸?_;refine Or.elim (Bool.or_eq_true_iff.mp hd) (λhd=>?_) (λhd=>?_)
 ·have q1:=cN (ae hd)
  have q2:fd.defaults = .none:=nQ (C:=λv=>v = .none) (aj hd) rfl;rw[q1] at hw
  refine bX (wd0 hw) λez2=>?_;subst ez2;intro e
  refine bf vals r (λA s Q E _ hq=>?_);rw[z1X h1 h2 h3 h4 h5 q2 nd (by simp only[<-r.length,qg,e])];exact qF hq
 ·have q1:d.dflts=[.none]:=cZ (C:=λl=>l=[.none]) (ae hd) λv h=>by rw[zbm h]
  obtain⟨t,q2,hd⟩:∃ t,fd.defaults = .ref t/\(!(eW d.params)&&iW c.K t)=true:=k8 (C:=λv=>∃ t,v = .ref t/\(!(eW d.params)&&iW c.K t)=rg) (aj hd) λt h=>⟨t,rfl,h⟩
  refine aw λ_ Z9=>?_
  obtain⟨g1,g2⟩:=Bool.and_eq_true_iff.mp hd;refine el22 (z4P X g2) λo k ho hs=>?_
  refine Z9 ?_;rw[q1] at hw
  have ne:d.params.map T.nm≠[]:=λq=>by
   rw[List.map_eq_nil_iff] at q
   replace g1:=q▸g1;cases g1
  refine aw λ_ Z9=>?_
  obtain⟨qs,q,hqs⟩:∃ qs q,d.params.map T.nm=qs++[q]:=⟨_,_,(List.dropLast_concat_getLast ne).symm⟩
  refine Z9 ?_;have hl:d.params.length=qs.length+1:=by
   have:=congrArg List.length hqs;simpa using this
  simp only[hqs] at h2 nd
  refine hqs▸?_;replace hw:=hl▸hw
  rcases wd1 hw with ⟨rfl,e⟩ | ⟨rfl,e⟩
  ·exact bf vals r (λA s Q E hb hq=>ja h1 h2 h3 h4 h5 q2 (hb _ _ ho) hs nd (.inl ⟨r.length.symm.trans e,rfl⟩) hq)
  ·exact bf (vals++[.none]) (r.append (.cons .none .nil)) (λA s Q E hb hq=>ja h1 h2 h3 h4 h5 q2 (hb _ _ ho) hs nd (.inr ⟨r.length.symm.trans e,rfl⟩) hq)
theorem eI:∀ l:List (Str×qV),(l.filter (·.2==.cell)).map (·.1)=dT l
 | []=>rfl
 | (x,k):: r=>by
  have ih:=eI r;cases k <;> first | exact ih | exact congrArg (x:: ·) ih
theorem z2Q:∀ {l:List (Str×qV)},lh l=rg->∀ x∈l,x.2≠.free
 | []=>by intro _ x m;cases m
 | (y,k):: r=>by
  intro h x m;have h2:lh r=rg/\k≠.free:=by cases k <;> first | exact⟨h,by simp⟩ | cases h
  rcases List.mem_cons.mp m with rfl | m
  ·exact h2.2
  ·exact z2Q h2.1 x m
theorem cD {a:Nat}:∀ {l},gF a l=rg↔a∈l
 | []=>⟨λh=>pY h,λh=>nomatch h⟩
 | b:: r=>(Bool.or_eq_true ..).to_iff.trans ((or_congr ⟨oX,λh=>h▸Nat.beq_refl _⟩ cD).trans List.mem_cons.symm)
theorem z1b {T:Tb}{sc:Scope}{cells:List Nat}:∀ {l},jj T sc cells l=rg->∀ p∈l,(p∉cells->sc.names.lookup (T.nm p)=rc .local)/\(p∈cells->sc.names.lookup (T.nm p)=rc .cell)
 | []=>by intro _ p m;cases m
 | q:: r=>by
  intro h p m;have h1:=ae h;have h2:=aj h
  rcases List.mem_cons.mp m with rfl | m
  ·cases z:gF p cells with
   | true=>
    rw[z] at h1
    refine⟨λn=>absurd (cD.mp z) n,λ_=>?_⟩;exact z2M h1
   | false=>
    rw[z] at h1
    refine⟨λ_=>dN h1,λn=>?_⟩;replace z:=(cD.mpr n)▸z;cases z
  ·exact z1b h2 p m
theorem z3K {fd:qR}{i:Nat}(h:ni fd i=rg):fd.code = .ref (cdA i)/\fd.qualname ++ ".<locals>." ++ "<lambda>" = cdQ i:=
 ⟨k8 (C:=λv=>v = .ref (cdA i)) (ae h) λa h=>by rw[oX h],cF (aj h)⟩
theorem z7I {sc:Scope}{x:Str}(h:sc.names.lookup x=rc .local):isL sc x=true:=decide_eq_true ((dY _).trans h)
theorem z7Q {fd:qR}(h:zaq fd=rg):∀ i,lA fd.scope i->fd.code = .ref (cdA i)/\fd.qualname ++ ".<locals>." ++ "<lambda>" = cdQ i:=by
 rintro i ⟨h1,h2⟩;have h:=fu h (decide_eq_true ((dY _).trans h1));cases i with
 | zero=>exact z3K (fu (ae h) (z7I h2))
 | succ i=>exact z3K (i:=1) (fu (aj h) (z7I h2))
theorem z7g {c:Cfg}{T:Tb}(G:Facts2 c T){f:Nat}{d:FnDef}(e:nh c.K T (c.fnA f) d=rg):∃ fd body,FnAt c f d fd body:=by
 have hn:=G.F.nm;have X:=G.F.Wk.K;refine cP (C:=λx=>c.K.lookup (c.fnA f)=x->∃ fd body,FnAt c f d fd body) e (λo e hl=>nj (C:=λq=>o.data=q->∃ fd body,FnAt c f d fd body) e (λfd e hd=>?_) rfl) rfl;have e12:=aj e;have e:=ae e;have eL:=aj e;have e:=ae e;have e11:=aj e;have e:=ae e;have e10:=aj e;have e:=ae e;have e9:=aj e;have e:=ae e;have e8:=aj e;have e:=ae e;have e7:=aj e;have e:=ae e;have e6:=aj e;have e:=ae e;have e5:=aj e;have e:=ae e;have e4:=aj e;have e:=ae e;have e3:=aj e;have e:=ae e;cases hb:fd.body with
 | stmts body=>
  rw[hb] at e12
  refine⟨fd,body,⟨o,X _ _ hl,hd⟩,bG (ae e),bG (aj e),hb,codeRec_of X e3,cN e4,oX e5,oX e6,?_,?_,z2Q e9,?_,z4y hn X e11,z7Q eL,λn cx K=>chkSs_ok G K _ _ _ e12⟩
  ·revert e7;cases fd.scope.kind <;> first | exact λ_=>rfl | exact λh=>by cases h
  ·simp only[eI,hn];exact iq e8
  ·refine hn▸?_;exact z1b e10
 | _=>replace e12:=hb▸e12;cases e12
end
section
noncomputable def jK:List Str->Bool
 | []=>rg
 | s:: r=>(match s.cps.toList with | 0:: _=>rj | _=>rg)&&jK r
theorem ie:∀ {l:List Str},jK l=rg->∀ s∈l,∀ i,s≠⟨#[0,i]⟩
 | []=>by intro _ s m _;cases m
 | x:: r=>by
  intro h s m i;have h1:=ae h;have h2:=aj h
  rcases List.mem_cons.mp m with rfl | m
  ·intro q;subst q;cases h1
  ·exact ie h2 s m i
theorem z82 {l:List Str}(h1:gL l=rg)(h2:jK l=rg):∀ i j,kf l i=kf l j->i=j:=by
 intro i j e;have nd:=ij h1;unfold kf at e
 cases hi:l[i]? with
 | some a=>
  rw[hi] at e
  cases hj:l[j]? with
  | some b=>
   rw[hj] at e
   dsimp only at e
   subst e;refine aw λ_ Z9=>?_
   obtain⟨li,gi⟩:=List.getElem?_eq_some_iff.mp hi;obtain⟨lj,gj⟩:=List.getElem?_eq_some_iff.mp hj;refine Z9 ?_;exact(List.getElem_inj nd).mp (gi.trans gj.symm)
  | none=>
   rw[hj] at e
   exact absurd e (ie h2 a (pv hi) j)
 | none=>
  rw[hi] at e
  cases hj:l[j]? with
  | some b=>
   rw[hj] at e
   exact absurd e.symm (ie h2 b (pv hj) i)
  | none=>
   rw[hj] at e
   simp only[Str.mk.injEq,Array.mk.injEq,List.cons.injEq,and_true,true_and] at e
   exact e
theorem gH {K:Frag}{a:Addr}(h:gV K a=rg):typeIn K (.ref a)=rc (.type "function")/\∃ o fd,K.lookup a=rc o/\o.data = .func fd:=
 cP (C:=λx=>K.lookup a=x->typeIn K (.ref a)=rc (.type "function")/\∃ o fd,K.lookup a=rc o/\o.data = .func fd) h (λo h hl=>⟨by
  show(K.lookup a).map (·.cls)=_;rw[hl];exact kx (C:=λv=>rc v=rc (.type "function")) (ae h) λt h=>by rw[qL h],nj (C:=λd=>o.data=d->∃ o fd,K.lookup a=rc o/\o.data = .func fd) (aj h) (λfd _ hd=>⟨o,fd,hl,hd⟩) rfl⟩) rfl
theorem gC {K:Frag}{C:Addr}(h:iO K C=rg):ClsOk K C:=by
 unfold iO at h
 simp only[pU] at h
 refine aw λ_ Z9=>?_
 obtain⟨⟨⟨⟨⟨h1,h2⟩,h3⟩,h4⟩,h5⟩,h6⟩:=h;refine Z9 ?_;exact⟨dj h1,ch h2,dj h3,h4,h5,h6⟩
theorem z2H {K:Frag}{C:Addr}{h:Heap}(X:K.In h)(e:lV K C=rg){x:Addr}{o:Obj}(hx:h.get? x=rc o)(hc:o.cls = .ref C):h.CmpInst x C [.type "object"]:=by
 refine cP (C:=λq=>K.lookup C=q->h.CmpInst x C [.type "object"]) e (λoc e hl=>z7h (G:=λoc=>K.lookup C=rc oc->h.CmpInst x C [.type "object"]) e (λbm N newId nm q bs hdct sn sub ab col dd k0 k1 k2 k3 k5 e hl=>?_) hl) rfl;refine cZ (C:=λbm=>K.lookup C=rc (excClassObj nm q C N bs bm hdct sn sub ab col dd k0 k1 k2 k3 k5 newId)->h.CmpInst x C [.type "object"]) e (λv e hl=>kx (C:=λv=>K.lookup C=rc (excClassObj nm q C N bs [v] hdct sn sub ab col dd k0 k1 k2 k3 k5 newId)->h.CmpInst x C [.type "object"]) e (λt e hl=>?_) hl) hl;obtain rfl:=qL (aL3 e);obtain⟨m,N1⟩:=z84 X (aM2 e);exact⟨o,nm,q,N,bs,hdct,sn,sub,ab,col,dd,k0,k1,k2,k3,k5,newId,m,hx,hc,X _ _ hl,N1,gq X N1 (ch (aM1 e)),gq X N1 (ch (aj e))⟩
theorem z3D:∀ p∈kD,p.1≠"__name__"/\bootBuiltins p.1=rc p.2:=by
 intro p m;simp only[kD,List.mem_cons,pZ,or_false] at m
 rcases m with rfl | rfl | rfl | rfl | rfl | rfl | rfl | rfl | rfl | rfl | rfl | rfl | rfl <;> exact⟨by decide +kernel,by dsimp only;boot_by_name⟩
structure WldOk (K:Frag)(W:Wt):Prop where
 nd:gL W.nm=rg
 nz:jK W.nm=rg
 fnO:W.fnL.all (λp=>gV K (W.fnA p.1))=rg
 fnG:W.fnL.all (λp=>bA (nsIn K qw p.2) (W.fnA p.1))=rg
 clsG:W.clsL.all (λp=>bA (nsIn K qw p.2) (W.cls p.1)&&(W.initL.lookup p.1).isSome)=rg
 gI:W.gintL.all (λp=>mh (nsIn K qw (kf W.nm p.1)) p.2)=rg
 blt:kD.all (λp=>cX (nsIn K qw p.1))=rg
 cls:W.insts.all (λk=>iO K (W.cls k))=rg
 eq:∀ k,5<=k->lV K (W.cls k)=rg
 init:W.initL.all (kI K W)=rg
 mth:W.mthL.all (lX K W)=rg
 fld:W.fldL.all (z57 K W)=rg
theorem bp {κ β:Type} [BEq κ] [LawfulBEq κ]{k:κ}{v:β}:∀ {l:List (κ×β)},l.lookup k=rc v->(k,v)∈l
 | []=>by intro h;cases h
 | (a,b):: r=>by
  intro h;simp only[qa] at h
  cases q:k==a with
  | true=>replace h:=q▸h;cases h;rw[qL q];exact .head _
  | false=>rw[q] at h;exact .tail _ (bp h)
section
variable {c:Cfg}{W:Wt}
theorem zby (O:WldOk c.K W)(X:c.K.In c.base)(hg:c.base.Ns qw c.mg)(hb:c.base.Ns qD c.mb)(boot:∀ x:Str,x≠"__name__"->c.mb x=bootBuiltins x)
  (e1:c.nm=kf W.nm)(e2:c.cls=W.cls)(e3:c.fnA=W.fnA)(e4:c.fnNm=λf=>W.fnL.lookup f)(e5:c.clsNm=λf=>W.clsL.lookup f)(e6:c.P.init=λk=>W.initL.lookup k)(e7:c.P.mth=λk m=>W.mthL.lookup (k,m))
  (e8:c.P.gint=λg=>W.gintL.lookup g)(e9:c.P.fld=λk f=>W.fldL.contains (k,f)):WOk c where
 K:=X
 hg:=hg
 hb:=hb
 fno:=λf x h=>by
  rw[e4] at h
  refine aw λ_ Z9=>?_
  obtain⟨_,o,fd,h1,h2⟩:=gH (List.all_eq_true.mp O.fnO _ (bp h));refine Z9 ?_;exact n4 o fd (by rw[e3];exact X _ _ h1) h2
 gfn:=λf x h=>by
  rw[e4] at h
  rw[e3];exact gq X hg (bS (List.all_eq_true.mp O.fnG _ (bp h)))
 gcls:=λk x h=>by
  rw[e5] at h
  obtain⟨h1,h2⟩:=Bool.and_eq_true_iff.mp (List.all_eq_true.mp O.clsG _ (bp h));rw[e2,e6];exact⟨gq X hg (bS h1),Option.isSome_iff_exists.mp h2⟩
 gint:=λx i h=>by
  rw[e8] at h
  obtain⟨t,q⟩:=z5X (List.all_eq_true.mp O.gI _ (bp h));rw[e1];exact⟨t,gq X hg q⟩
 blt:=λx v m=>by
  obtain⟨h1,h2⟩:=z3D (x,v) m;exact⟨gq X hg (ch (List.all_eq_true.mp O.blt _ m)),(boot _ h1).trans h2⟩
 fld:=λk f h=>by
  rw[e9] at h
  have:=List.all_eq_true.mp O.fld (k,f) (List.contains_iff_mem.mp h);refine aw λ_ Z9=>?_
  obtain⟨h1,h2⟩:=Bool.and_eq_true_iff.mp this;refine Z9 ?_;rw[e1,e2];exact⟨gC (List.all_eq_true.mp O.cls _ (cD.mp h1)),ch h2⟩
 mth:=λk m f h=>by
  rw[e7] at h
  have:=List.all_eq_true.mp O.mth _ (bp h);unfold lX at this
  simp only[pU] at this
  obtain⟨⟨h1,h2⟩,h3⟩:=this;rw[e1,e2,e3];refine aw λ_ Z9=>?_
  obtain⟨t,o,fd,l1,l2⟩:=gH h3;refine Z9 ?_;exact⟨gC (List.all_eq_true.mp O.cls _ (cD.mp h1)),bS h2,t,o,fd,X _ _ l1,l2⟩
 init:=λk f h=>by
  rw[e6] at h
  have:=List.all_eq_true.mp O.init _ (bp h);unfold kI at this
  simp only[pU] at this
  obtain⟨⟨h1,h2⟩,h3⟩:=this;rw[e2,e3];exact⟨gC (List.all_eq_true.mp O.cls _ (cD.mp h1)),bS h2,(gH h3).1⟩
theorem z4F (O:WldOk c.K W)(X:c.K.In c.base)(e2:c.cls=W.cls):bZ c:=by
 intro A s U a b k l dk dl x y ox oy gk gl hs hu hx hy rx ry ne E Q hq;refine aw λ_ Z9=>?_
 refine el12 rx.inst' λdx _ ez6=>?_;subst ez6
 refine el12 ry.inst' λdy _ ez7=>?_;subst ez7
 have X':c.K.In s.heap:=λb o e=>hs _ _ (X _ _ e)
 have I1:=z2H X' (by rw[e2];exact O.eq k gk) hx rfl;have I2:=z2H X' (by rw[e2];exact O.eq l gl) hy rfl;obtain⟨hp,g,d,tk,os⟩:=s;refine Z9 ?_;refine qm ?_;rw[if_neg (by simpa using λq=>ne q)];refine qE (PySem.richCompare_eq_other F.cmp_object F.cmp_object I1 I2 ne hu ?_);exact pL hq
end
end
section
theorem z6g {K:Frag}{h:Heap}(X:K.In h){t:Addr}(e:lm K t=rg):∃ o d k,h.get? t=rc o/\o.data = .seq #[d] k:=by
 refine cP (C:=λx=>K.lookup t=x->∃ o d k,h.get? t=rc o/\o.data = .seq #[d] k) e (λo e hl=>?_) rfl;refine zai (C:=λd=>o.data=d->∃ o d k,h.get? t=rc o/\o.data = .seq #[d] k) e (λxs k e hd=>?_) rfl;obtain⟨xs⟩:=xs;exact cZ (C:=λxs=>o.data = .seq ⟨xs⟩ k->∃ o d k,h.get? t=rc o/\o.data = .seq #[d] k) e (λv _ hd=>⟨o,v,k,X _ _ hl,hd⟩) hd
theorem z89 {K:Frag}{base:Heap}(X:K.In base){fd:qR}{p1 p2:Str}(ne:p2≠p1)(e:zay K fd.params fd.defaults p1 p2=rg):
  ∀ v1 v2 (M:Model)(A:qZ)(s:Shared)(Q:List (Str×Value)->Shared->Prop)(E:VP),base.StaysIn s.heap->Q [(p1,v1),(p2,v2)] s->wpAny M A (bindArgs fd ⟨[v1,v2],[]⟩) Q E s:=by
 have hd:=aj e;have e:=ae e;have h2:=iq (aj e);have e:=ae e;have h5:=iU (aj e);have e:=ae e;have h4:=cN (aj e);have e:=ae e;have h3:=iU (aj e);have h1:=cN (ae e);have nd:[p1,p2].Nodup:=by simp[qY ne]
 intro v1 v2 M A s Q E hb hq
 rcases Bool.or_eq_true_iff.mp hd with hd | hd
 ·rw[z1X h1 h2 h3 h4 h5 (nQ (C:=λv=>v = .none) hd rfl) nd rfl]
  exact qF hq
 ·obtain⟨t,q,hd⟩:∃ t,fd.defaults = .ref t/\lm K t=true:=k8 (C:=λv=>∃ t,v = .ref t/\lm K t=rg) hd λt h=>⟨t,rfl,h⟩
  refine aw λ_ Z9=>?_
  refine mV (z6g X hd) λo d k ho hs=>?_
  refine Z9 ?_;exact ja (qs:=[p1]) (q:=p2) (vals:=[v1,v2]) (vals':=[v1,v2]) h1 h2 h3 h4 h5 q (hb _ _ ho) hs nd (.inl ⟨by simp,rfl⟩) hq
theorem z41 {k:ScopeKind}(h:lI k=rg):k = .function:=by cases k <;> first | rfl | exact pY h
theorem z5O {K:Frag}{base:Heap}(X:K.In base){a:Addr}{p1 p2 g:Str}{okB:List Stmt->Bool}(e:lW K a p1 p2 g okB=rg):∃ fd body,Fn2 base a fd p1 p2 body/\fd.scope.names.lookup g=rc .globalImplicit/\okB body=true:=by
 refine cP (C:=λx=>K.lookup a=x->∃ fd body,Fn2 base a fd p1 p2 body/\fd.scope.names.lookup g=rc .globalImplicit/\okB body=rg) e (λo e hl=>?_) rfl;have ec:o.cls = .type "function":=kx (C:=λv=>v = .type "function") (ae e) λt h=>by rw[qL h]
 refine nj (C:=λq=>o.data=q->∃ fd body,Fn2 base a fd p1 p2 body/\fd.scope.names.lookup g=rc .globalImplicit/\okB body=rg) (aj e) (λfd e hd=>?_) rfl;have e15:=aj e;have e:=ae e;have e14:=aj e;have e:=ae e;have e13:=bG (aj e);have e:=ae e;have e12:=aj e;have e:=ae e;have e11:=aj e;have e:=ae e;have e10:=aj e;have e:=ae e;have e9:=aj e;have e:=ae e;have e8:=aj e;have e:=ae e;have e7:=aj e;have e:=ae e;have e6:=aj e;have e:=ae e;have e5:=aj e;have e:=ae e;have e4:=aj e;have e:=ae e;cases hb:fd.body with
 | stmts body=>
  rw[hb] at e15
  have ne:p2≠p1:=λq=>by rw[q,hF] at e13;cases e13
  refine zcf fd body ⟨⟨o,X _ _ hl,hd,ec⟩,bG (ae e),bG (aj e),hb,codeRec_of X e4,cN e5,oX e6,oX e7,z41 e8,?_,dN e10,dN e11,ne,z89 X ne e14⟩ (i8 e12) e15;have:=eI fd.scope.names;simp only[cN e9] at this
  exact List.map_eq_nil_iff.mp this
 | _=>replace e15:=hb▸e15;cases e15
theorem jy {s:Str}{pe:Expr}(h:isN s pe=rg):∃ p,pe = .Name s p:=cK (C:=λpe=>∃ p,pe = .Name s p) h λn p h=>⟨p,by rw[cF h]⟩
theorem zbt {C:Stmt->Prop}{s:Stmt}{a:Str}{f:Expr->Bool}(h:zcL s a f=rg)(k:∀ p1 p2 p3 d p5 p6,(p2.endLine==p5.line)=rg->f d=rg->C (.Expr (.Call (.Attribute (.Name a p1) "__init__" p2) [.Name "self" p3,d] [] p5) p6)):C s:=
 z5F h λpe p6 h=>j4 (C:=λpe=>C (.Expr pe p6)) h λg as ks p5 h=>by
  obtain rfl:=cY (ae h);refine gd (C:=λg=>C (.Expr (.Call g as [] p5) p6)) (aj h) λo b p2 h=>?_
  obtain⟨p1,rfl⟩:=jy (aL3 h);obtain rfl:=cF (aM2 h);have e:=aM1 h;refine gX (C:=λas=>C (.Expr (.Call (.Attribute (.Name a p1) "__init__" p2) as [] p5) p6)) (aj h) λc d h=>?_
  obtain⟨p3,rfl⟩:=jy (ae h);exact k p1 p2 p3 d p5 p6 e (aj h)
theorem z9t {s:Stmt}{f:Str}(h:zcK s f=rg):∃ p1 p2 p3 p4,s = .Assign [.Attribute (.Name "self" p1) f p2] (.Name f p3) p4:=
 iu (C:=λs=>∃ p1 p2 p3 p4,s = .Assign [.Attribute (.Name "self" p1) f p2] (.Name f p3) p4) h λts pe p4 h=>by
  obtain⟨p3,rfl⟩:=jy (ae h);refine cZ (C:=λts=>∃ p1 p2 p3' p4',Stmt.Assign ts (.Name f p3) p4 = .Assign [.Attribute (.Name "self" p1) f p2] (.Name f p3') p4') (aj h) λpt h=>?_
  refine gd (C:=λpt=>∃ p1 p2 p3' p4',Stmt.Assign [pt] (.Name f p3) p4 = .Assign [.Attribute (.Name "self" p1) f p2] (.Name f p3') p4') h λo n p2 h=>?_
  obtain⟨p1,rfl⟩:=jy (ae h);rw[cF (aj h)];exact⟨_,_,_,_,rfl⟩
theorem z4G {l:List Stmt}(h:kX l=rg):∃ p1 p2 p3 p4 p5 p6 p7 p8 p9 p10,l=de p1 p2 p3 p4 p5 p6 p7 p8 p9 p10/\(p2.endLine==p5.line)=true:=by
 refine gX (C:=λl=>∃ p1 p2 p3 p4 p5 p6 p7 p8 p9 p10,l=de p1 p2 p3 p4 p5 p6 p7 p8 p9 p10/\(p2.endLine==p5.line)=rg) h λs t h=>?_
 refine aw λ_ Z9=>?_
 refine el41 (z9t (aj h)) λq1 q2 q3 q4 ez5=>?_;subst ez5
 refine Z9 ?_;refine zbt (C:=λs=>∃ p1 p2 p3 p4 p5 p6 p7 p8 p9 p10,[s,_]=de p1 p2 p3 p4 p5 p6 p7 p8 p9 p10/\(p2.endLine==p5.line)=rg) (ae h) λp1 p2 p3 d p5 p6 e h=>?_
 obtain⟨p4,rfl⟩:=jy h;exact⟨_,_,_,_,_,_,_,_,_,_,rfl,e⟩
theorem z3b {K:Frag}{base:Heap}(X:K.In base){C:Addr}{ds:List Addr}(e:dg K C ds=rg):ExcCls K base C ds:=by
 have e5:=aj e;have e:=ae e;have e4:=aj e;have e:=ae e;have e3:=aj e;have e:=ae e;refine⟨?_,dj (aj e),e3,e4,ch e5⟩;refine cP (C:=λx=>K.lookup C=x->∃ bm,XO base C bm "ValueError.__new__"/\ExcMro bm/\bm.contains (.type "BaseException")=rg/\∀ d∈ds,(qN C:: bm).contains (.ref d)=rj) (ae e) (λoc e hl=>?_) rfl;refine z7h (G:=λoc=>K.lookup C=rc oc->∃ bm,XO base C bm "ValueError.__new__"/\ExcMro bm/\bm.contains (.type "BaseException")=rg/\∀ d∈ds,(qN C:: bm).contains (.ref d)=rj) e (λbm N newId nm q bs hdct sn sub ab col dd k0 k1 k2 k3 k5 e hl=>?_) hl;have e':=aj e;have e:=ae e;obtain rfl:=qL (aL4 e);exact oC bm ⟨nm,q,N,bs,hdct,sn,sub,ab,col,dd,k0,k1,k2,k3,k5,X _ _ hl⟩ ⟨aM3 e,bG (aM2 e),bG (aM1 e)⟩ (aj e) (λd m=>bG (List.all_eq_true.mp e' d m))
theorem z74:(("ValueError" : Str)≠"__name__")/\bootBuiltins ("ValueError" : Str)=rc (.type "ValueError"):=⟨by decide +kernel,by boot_by_name⟩
theorem z4r {r:Option CFound}{v:Value}(h:nR r=rc (rc v)):r=rc (.val v):=by
 cases r with
 | none=>cases h
 | some f=>cases f with
  | val u=>cases h;rfl
  | _=>cases h
theorem z3c {K:Frag}{base:Heap}{mg mb:Str->Option Value}{B fB:Addr}(X:K.In base)(hg:base.Ns qw mg)(hb:base.Ns qD mb)(boot:∀ x:Str,x≠"__name__"->mb x=bootBuiltins x)(lim:base.NoLimit)(e:fJ K B fB=rg):ExcWld K base mg mb B fB:=by
 unfold fJ at e
 simp only[pU] at e
 refine aw λ_ Z9=>?_
 obtain⟨⟨⟨⟨⟨⟨⟨e1,e4⟩,e5⟩,e6⟩,e7⟩,e8⟩,e9⟩,e10⟩:=e;refine Z9 ?_;refine⟨X,hg,hb,lim,gq X hg (ch e1),(boot _ z74.1).trans z74.2,dj e4,?_,z4r (dj e6),gq X hg (bS e7),dj e8,e9,z4r (bS e10)⟩;revert e5;cases subIn K (.type "type") (.type "type") with
 | none=>intro h;cases h
 | some b=>intro h;rw[show b=rg from h]
end
section
noncomputable def zcM:Nat->Addr
 | 1=>585
 | _=>592
noncomputable def tqA:Nat->Str
 | 1=>cdQ 0
 | _=>cdQ 1
theorem zah {C:Data->Prop}{v:Data}{f:Array Value->Bool}(h:dFl v f=rg)(k:∀ a,f a=rg->C (.fields a)):C v:=
 (bb h).elim λq h=>
 Data.fields.elim (motive:=λv=>∀ q:v.ctorIdx=9,Data.fields.elim (motive:=λ_=>Bool) v q f=rg->C v) v q (λa _ h=>k a h) q h
theorem zaF:gL nmA=true:=by decide +kernel
theorem zaG:jK nmA=true:=by decide +kernel
structure AllA (K0 K:Frag):Prop where
 w:WldOk K WA
 f:∀ f d,Afn f=rc d->nh K TA (nv f) d=rg
 e1:dg K 52 [76]=rg
 e2:dg K 76 [52]=rg
 e3:fJ K 39 36=rg
 e4:lW K 36 "self" "reason" "ValueError" kX=rg
 e5:bA (r8 K (.ref 52) "__init__") 36=rg
 e6:bA (r8 K (.ref 76) "__init__") 36=rg
 e7:bA (nsIn K qw ⟨#[66,97,100,65,114,103,117,109,101,110,116]⟩) 52=rg
 e8:bA (nsIn K qw ⟨#[78,111,82,111,111,109]⟩) 76=rg
 h1:gT K0 589 585=rg
 h2:gT K0 596 592=rg
 t1:nO K0 585=rg
 t2:nO K0 592=rg
theorem z8O {K0 K:Frag}(h:ol K0 K=rg):AllA K0 K:=by
 have z:=aj h;have h:=ae h;have y:=aj h;have h:=ae h;have hf:=aj h;have h:=ae h;have wfld:=aj h;have h:=ae h;have wmth:=aj h;have h:=ae h;have winit:=aj h;have h:=ae h;have weq:=List.all_eq_true.mp (aj h);have h:=ae h;have wcls:=aj h;have h:=ae h;have wblt:=aj h;have h:=ae h;have wgi:=aj h;have h:=ae h;have wclsG:=aj h;have h:=ae h;refine⟨⟨zaF,zaG,ae h,aj h,wclsG,wgi,wblt,wcls,λk h=>?_,winit,wmth,wfld⟩,λf d e=>List.all_eq_true.mp hf (f,d) (bp e),
  aL7 y,aM6 y,aM5 y,aM4 y,aM3 y,aM2 y,aM1 y,aj y,
  aL3 z,aM2 z,aM1 z,aj z⟩
 obtain rfl | rfl | rfl | ⟨j,rfl⟩:k=5∨k=6∨k=7∨∃ j,k=j+8:=by
  refine Or.elim (Nat.lt_or_ge k 8) (λg=>?_) (λg=>?_)
  ·lia
  ·exact .inr (.inr (.inr ⟨k-8,(Nat.sub_add_cancel g).symm⟩))
 ·exact weq 5 (by decide)
 ·exact weq 6 (by decide)
 ·exact weq 7 (by decide)
 ·exact weq 8 (by decide)
theorem z5A {K:Frag}{h:Heap}{P:Addr}(X:K.In h)(e:nO K P=rg):h.get? P=rc (tabObj #[]):=by
 refine cP (C:=λx=>K.lookup P=x->h.get? P=rc (tabObj #[])) e (λo e hl=>?_) rfl;refine(X _ _ hl)▸?_;obtain⟨oc,od,oda,osl⟩:=o;refine zah (C:=λd=>rc (⟨oc,od,d,osl⟩:Obj)=rc (tabObj #[])) (aj e) λvs hv=>?_
 have e:=ae e;obtain⟨osl⟩:=osl;obtain⟨vs⟩:=vs;obtain rfl:=cY hv;obtain rfl:=cY (aj e);obtain rfl:=ig (aM1 e);have:oc = .none:=by cases oc <;> first | rfl | exact pY e
 subst this;rfl
theorem z7J {v:Value}(h:isStr v=rg):∃ a t,v = .str a t:=by cases v <;> first | exact⟨_,_,rfl⟩ | exact pY h
theorem z3Y {v:Value}(h:mf v=rg):∃ a t,v = .int a t:=by cases v <;> first | exact⟨_,_,rfl⟩ | exact pY h
theorem z7H {v:Value}(h:zam v=rg):∃ a,v = .bool a:=by cases v <;> first | exact⟨_,rfl⟩ | exact pY h
theorem z21 {K:Frag}{h:Heap}{c P:Addr}(X:K.In h)(e:gT K c P=rg):CodeHd h c P:=by
 refine cP (C:=λx=>K.lookup c=x->CodeHd h c P) e (λo e hl=>?_) rfl;have ec:o.cls = .type "code":=kx (C:=λv=>v = .type "code") (ae e) λt h=>by rw[qL h]
 refine zah (C:=λd=>o.data=d->CodeHd h c P) (aj e) (λvs e hd=>?_) rfl;have hr:vs.getD 11 .none = .ref P:=k8 (C:=λv=>v = .ref P) (aL5 e) λb h=>by rw[oX h]
 refine kP (z7J (aM4 e)) λs ts h18=>?_
 refine kP (z3Y (aM3 e)) λi7 t7 h7=>?_
 obtain⟨b9,h9⟩:=z7H (aM2 e);refine kP (z3Y (aM1 e)) λi10 t10 h10=>?_
 have h11:vs[11]? = rc (.ref P):=by
  replace hr:=(Array.getD_eq_getD_getElem?)▸hr;cases q:vs[11]? with
  | none=>replace hr:=q▸hr;cases hr
  | some v=>rw[q] at hr;exact congrArg rc hr
 exact⟨o,vs,s,ts,i7,t7,b9,i10,t10,X _ _ hl,ec,hd,h11,hr,h18,h7,h9,h10,oR (bG (aj e))⟩
theorem z3N {K:Frag}{a:Addr}{o:Obj}(e:(cut K).lookup a=rc o):K.lookup a=rc o/\a∉[585,592]:=by
 induction K with
 | nil=>cases e
 | cons p r ih=>
  obtain⟨b,o'⟩:=p;unfold cut at e ih
  replace e:=pS▸e;simp only[qa];by_cases z:a=b
  ·subst z
   rw[beq_self_eq_true];cases q:(!(qX a 585||qX a 592)) with
   | true=>
    dsimp only at e
    rw[q,if_pos rfl,qa,beq_self_eq_true] at e
    refine⟨e,λm=>?_⟩;simp at m
    rcases m with rfl | rfl <;> cases q
   | false=>
    dsimp only at e
    rw[q,if_neg (by simp)] at e
    refine bX (ih e) λ_ n=>?_
    exfalso;cases q1:qX a 585 with
    | true=>exact n (by rw[oX q1];simp)
    | false=>cases q2:qX a 592 with
     | true=>exact n (by rw[oX q2];simp)
     | false=>rw[q1,q2] at q;cases q
  ·have ne:(a==b)=false:=by simpa using z
   refine ne▸?_;refine ih ?_
   split at e
   ·simp only[qa,ne] at e;exact e
   ·exact e
theorem zaX {K:Frag}{h:Heap}(X:K.In h):(cut K).In (hideAll h [585,592]):=λ_ _ e=>hideAll_get _ (X _ _ (z3N e).1) (z3N e).2
theorem z2P:∀ {l:List (Str×qV)},jI l=rg->∀ x∈l,x.2≠.cell
 | []=>by intro _ _ m;cases m
 | (y,k):: r=>by
  intro h x m
  rcases List.mem_cons.mp m with rfl | m
  ·intro q
   subst q;exact pY (ae (show((match qn with | .cell=>rj | _=>rg)&&jI r)=rg from h))
  ·exact z2P (by cases k <;> first | exact h | exact pY h) x m
theorem z9a {c:Cfg}(F:Facts c TA0){k:Nat}{e:E}{sc:Scope}{pe:Expr}(hl:ky k=rc e)(h:n5 k sc pe=rg):LamAt c e sc pe:=by
 unfold n5 at h
 rw[hl] at h
 have h:(!sc.isCoroutine && !sc.isGenerator&&lI sc.kind&&jI sc.names&&aO TA0 rj sc e pe)=true:=h;exact⟨bG (aL4 h),bG (aM3 h),z41 (aM2 h),z2P (aM1 h),λn cx K=>am F K e rj sc pe (aj h)⟩
end
section
theorem z5B {p:qW}{w:World}{n₀:Nat}{ann:Option Value}:∀ {n:Nat}{s s':SharedT}{t:Thread},nP p w n₀ ann n s t=rc s'->topRun treeTable p w n₀ ann n s.abs t=rc s'.abs
 | 0,_,_,_,h=>by cases h
 | n+1,s,s',t,h=>by
  unfold nP at h
  unfold topRun;cases ht:through t with
  | true=>rw[ht] at h;cases h;rfl
  | false=>
   rw[ht] at h
   cases ho:stepOk n₀ ann t with
   | false=>rw[ho] at h;cases h
   | true=>
    rw[ho] at h
    dsimp only at h ⊢
    cases hs:stepT (denote treeTable) p w s t with
    | none=>rw[hs] at h;cases h
    | some r=>
     obtain⟨s2,t2⟩:=r;rw[hs] at h
     dsimp only at h
     rw[stepT_spec hs];exact z5B h
noncomputable def nE:List Obj->Nat->BT->Bool
 | [],_,_=>rg
 | o:: r,n,t=>((t.ins n o).get n).isSome&&nE r (n+1) (t.ins n o)
theorem z29 (life:Life):∀ (os:List Obj)(n:Nat)(t:BT),nE os n t=rg->absHeap (kW os n t) (n+os.length) life=⟨(absHeap t n life).objs++os.toArray,life⟩
 | [],n,t,_=>by
  show absHeap t n life=_;simp only[List.append_toArray,Array.append_empty];rfl
 | o:: r,n,t,h=>by
  have h1:=ae h;have h2:=aj h;have e:=z29 life r (n+1) (t.ins n o) h2;rw[absHeap_ins h1] at e
  show absHeap (kW r (n+1) (t.ins n o)) (n+(r.length+1)) life=_;rw[show n+(r.length+1)=n+1+r.length by omega,e];show Heap.mk ((absHeap t n life).objs.push o++r.toArray) life=_
  congr 1
  apply Array.ext';simp
theorem z8Q (w:World):nE (km w) 0 BT.nil=true:=by kernel_rfl
theorem z5M (w:World)(os:OsState):(iy w os).abs=⟨qQ w.params,#[],boot_drawn,boot_toks,os⟩:=by
 have e:=z29 (qQ w.params).life (km w) 0 BT.nil (z8Q w);rw[qr] at e
 unfold iy SharedT.abs;dsimp only;rw[e];have e2:(absHeap BT.nil 0 (qQ w.params).life).objs++(km w).toArray=(qQ w.params).objs:=by
  apply Array.ext';simp[absHeap,BT.list,km]
 rw[e2]
theorem z7B (s:SharedT):(nx s).In s.abs.heap:=λa o e=>by
 obtain⟨b,_,h⟩:=List.mem_filterMap.mp (bp e);cases q:Nat.blt b s.n with
 | false=>rw[q] at h;cases h
 | true=>
  rw[q] at h
  obtain⟨x,hx,h⟩:=Option.bind_eq_some_iff.mp h;obtain⟨y,hy,h⟩:=Option.map_eq_some_iff.mp h;cases h;exact(abs_get (by simpa [Nat.blt_eq] using q) hx).trans hy
theorem jv {Y β:Type}:∀ (l:List Y)(k:List Y->β),mQ l k=k l
 | [],_=>rfl
 | x:: xs,k=>jv xs λys=>k (x:: ys)
noncomputable def YB (h:Heap):Prop:=∃ K:Frag,ol K (cut K)=rg/\K.In h
noncomputable def YfB (s:Shared):Bool:=@decide (YB s.heap) (Classical.propDecidable _)
theorem zaQ (w:World):((qQ w.params).isNs qw&&(#[]:Array GenState).size==0)=true:=by kernel_rfl
theorem zcA:opening pr=plainProg pr.main.scope.names:=by kernel_rfl
theorem zb2 (s:Shared):fenceModules? pr s=rc s:=by kernel_rfl
theorem topB {w:World}{os:OsState}{s':SharedT}(hr:topRun treeTable pr w (iy w os).n (mG w) 9000 ⟨qQ w.params,#[],boot_drawn,boot_toks,os⟩ (topStub pr)=rc s'.abs)
  (h1:(staticsOk mods (qQ w.params) s'.abs.heap&&namesBound pr s'.abs.heap&&gensDone s'.abs&&laidKept (qQ w.params) s'.abs.heap)=rg):topFrom treeTable pr w 9000 ⟨qQ w.params,#[],boot_drawn,boot_toks,os⟩=rc s'.abs:=by
 have hn:(iy w os).n=(qQ w.params).objs.size:=Array.length_toList ..;rw[hn] at hr
 unfold mG at hr
 unfold topFrom;dsimp only;rw[zaQ w];dsimp only;rw[hr,Option.bind_some,h1]
theorem zbc {w:World}{os:OsState}(hs:fencedOpening treeTable pr w 9000=rc ⟨qQ w.params,#[],boot_drawn,boot_toks,os⟩):(openEnds treeTable pr w 9000).map (λs=>(openSeen qv loose mods XtB rg s,YfB s))=rc (openGood qv loose,rg):=by
 obtain⟨s',ht,ho⟩:=Option.map_eq_some_iff.mp (obs1 w os);obtain⟨h1,h2⟩:=Prod.mk.inj ho;have h3:=obs2 w os;rw[ht,Option.map_some,jv,jv] at h3
 have h3:=qb h3;have hr:=z5B ht;rw[z5M] at hr
 have y:YfB s'.abs=true:=@decide_eq_true _ (Classical.propDecidable _) ⟨nx s',h3,z7B s'⟩;unfold openEnds;rw[hs,Option.bind_some,topB hr h1,Option.map_some,h2,y]
theorem zct:LeftO pr qv loose XtB YfB (λ_=>rg) 9000:=λw=>by
 obtain⟨s,hs,hv⟩:=Option.map_eq_some_iff.mp (boot_open (p:=pr) (N:=9000) zcA (by decide) zb2 w);obtain⟨heap,gens,drawn,toks,os⟩:=s;simp only[Prod.mk.injEq] at hv
 obtain⟨rfl,rfl,rfl,rfl⟩:=hv;exact zbc hs
theorem zcS:OpenLaw.wellSaid PySem.Challenge.rw_pf0217_01=true:=by kernel_rfl
theorem kN:(defOf qv nL.name).isSome=true:=by kernel_rfl
noncomputable def dB:DefRec:=((defOf qv nL.name).get kN).1
noncomputable def kwB:List (Str×Expr):=((defOf qv nL.name).get kN).2
theorem hdB (walk:za8 qv loose (XL qv []) (λ_=>YB) nL dB kwB):PySem.Challenge.rw_pf0217_01.Holds:=by
 refine holds_law zcS λsaid=>?_
 refine Mine.Internal.PySem.W.holds_open (q:=qv) (loose:=loose) (Xt:=XtB) (XP:=XL qv []) (Yf:=YfB) (Ya:=λ_=>rg) (YP:=λ_=>YB) (d:=dB) (kwd:=kwB) (N:=9000) zct (λw s e=>@of_decide_eq_true _ (Classical.propDecidable _) e) (λw h h' ⟨K,a,b⟩ k=>⟨K,a,b.keeps k⟩)
  (λs e=>xl_of s (Bool.and_eq_true_iff.mp e).1) XL.keeps (Option.some_get kN).symm (by kernel_rfl) (by kernel_rfl) (λs e=>recFacts_of (Bool.and_eq_true_iff.mp e).2) (by kernel_rfl) said (by decide +kernel) ⟨rfl,rfl,rfl,rfl,rfl,by decide +kernel⟩ ?hw walk
 case hw=>w_witness2
end
section
noncomputable def lx (xs:List Int):MH:=((MH.push ⟨0,λ_=>re⟩ (.clst (xs.map V.int))).push .tab).push .tab
theorem z2L {c:Cfg}{U:List Addr}{R:WRecords}{cl:Str->Option Addr}{h:Heap}:∀ {ds:List WData}{vs:List Value}{as:List Addr},WShape.hasItems R ds .int=rg->ReadsAllW R cl h vs ds as->
  ∃ xs:List Int,xs.length=ds.length/\VRs c U h (xs.map V.int) vs
 | [],vs,as,_,r=>by
  obtain⟨rfl,rfl⟩:=readsAllW_nil_inv r;exact bf ([]) rfl .nil
 | d:: ds,vs,as,hs,r=>by
  refine ou (readsAllW_cons_inv r) λv vs' a1 a2 ez12 ez13=>?_;subst ez12;subst ez13;intro r1 r2
  have hs':WShape.has R d .int=rg/\WShape.hasItems R ds .int=true:=by simpa [WShape.hasItems] using hs
  obtain⟨i,rfl⟩:=hasW_int hs'.1;refine el12 (readsW_int_inv r1) λt ez15 ez16=>?_;subst ez15;subst ez16
  refine el12 (z2L (c:=c) (U:=U) hs'.2 r2) λxs e q=>?_
  exact bf (i:: xs) (by simp[e]) (.cons (.int i t) q)
theorem zbi {r:OpenLaw}(hm:r.most=rc 63)(hb:r.bound=re){ds:List WData}(h:r.row.toRowW.claim.pre [.list ds]=rg):ds.length<=63:=by
 have hcond:=(pre_splitW h).2;change (OpenLaw.pre r).holds [] { args:=[.list ds] }=rg at hcond
 unfold OpenLaw.pre at hcond
 rw[hm,hb] at hcond
 have h1:=(holds_andW hcond).1;refine Or.elim (Nat.lt_or_ge 63 ds.length) (λg=>?_) (λg=>?_)
 ·have q:(((WTm.lit (WData.int (63:Nat))).lt (WTm.arg 0).len).not).value [] { args:=[.list ds] }=rc (.bool (!decide ((63:Int)<ds.length))):=rfl
  have q2:WTm.holds [] (((WTm.lit (WData.int (63:Nat))).lt (WTm.arg 0).len).not) { args:=[.list ds] }=false:=by
   unfold WTm.holds;rw[q,(decide_eq_true (Int.ofNat_lt.mpr g):decide ((63:Int)<ds.length)=rg)];rfl
  exact pY (h1.symm.trans q2)
 ·exact g
theorem z5t {h h':Heap}{P c1:Addr}{ps:Array Value}(hd:CodeHd h c1 P)(e:h.get? P=rc (tabObj #[]))(e':h'.get? P=rc (tabObj ps)){o:Obj}(ho:h.get? P=rc o):asItWas h h' P o:=by
 rw[e] at ho
 cases ho
 exact .inr (.inl ⟨(hd.tab e).isCodeTable,rfl,#[],ps,rfl,by rw[Array.empty_append];exact e'⟩)
theorem z8A {c:Cfg}{h:Heap}{a:Addr}{o:Obj}{ns:List Int}{vs:Array Value}{n:Nat}(ho:h.get? a=rc o)(hc:o.cls = .type "list")(hd:o.data = .seq vs n)(hv:VRs c [a,c.tabA 1,c.tabA 2] h (ns.map V.int) vs.toList)(stay:c.base.StaysIn h)
  (gone:∀ {P},P∈[c.tabA 1,c.tabA 2]->c.base.get? P=re)(t1:h.get? (c.tabA 1)=rc (tabObj #[]))(t2:h.get? (c.tabA 2)=rc (tabObj #[]))(hne:c.tabA 1≠c.tabA 2)(na:∀ {P},h.get? P=rc (tabObj #[])->a≠P):St c [] [a,c.tabA 1,c.tabA 2] (lx ns) h:=by
 refine⟨rfl,by simp[na t1,na t2,hne],λb hb=>?_,λb o' e=>?_,stay,⟨λ_ m=>by cases m⟩⟩
 ·cases b with
  | zero=>rfl
  | succ b=>cases b with
   | zero=>rfl
   | succ b=>cases b with
    | zero=>rfl
    | succ b=>exact absurd hb (Nat.not_lt_of_le (Nat.le_add_left 3 b))
 ·cases b with
  | zero=>
   cases(e:rc (O.clst (ns.map V.int))=rc o')
   obtain⟨oc,od,oda,osl⟩:=o;dsimp only at hc hd
   subst hc;subst hd;exact⟨a,_,rfl,ho,OR.clst (its:=vs.toList) hv,λq=>by cases q⟩
  | succ b=>cases b with
   | zero=>cases(show rc O.tab=rc o' from e);exact⟨_,_,rfl,t1,.tab rfl trivial (λ_ _ q=>by cases q),λ_=>gone (.head _)⟩
   | succ b=>cases b with
    | zero=>cases(show rc O.tab=rc o' from e);exact⟨_,_,rfl,t2,.tab rfl trivial (λ_ _ q=>by cases q),λ_=>gone (.tail _ (.head _))⟩
    | succ b=>cases(show re=rc o' from e)
theorem z7T {c:Cfg}{r:OpenLaw}{s₀ s₁:Shared}{args:List WData}{vals:List Value}{as:List Addr}(hm:r.most=rc 63)(hb:r.bound=re)(hpre:r.row.toRowW.claim.pre args=rg)(hrd:ReadsAllW r.row.records (classAt s₀.heap) s₁.heap vals args as){G:Prop}
  (k:∀ (ds:List WData)(a:Addr)(o:Obj)(vs:Array Value)(n:Nat)(ns:List Int),args=[.list ds]->vals=[.ref a]->s₁.heap.get? a=rc o->o.cls = .type "list"->o.data = .seq vs n->ns.length<=63->VRs c [a,c.tabA 1,c.tabA 2] s₁.heap (ns.map V.int) vs.toList->G):G:=by
 have hsh:=(pre_splitW hpre).1;change WShape.hasAll [] args [.list .int]=rg at hsh
 refine kQ (hasAllW_cons hsh) λd ds e1 h1 h2=>?_
 refine el12 (hasW_list h1) λxs e2 h3=>?_
 replace e1:args=[.list xs]:=by rw[e1,e2,hasAllW_nil h2]
 refine ou (readsAllW_cons_inv (e1▸hrd)) λv vs' a1 a2 e3 _ r1 r2=>?_
 replace e3:vals=[v]:=by rw[e3,(readsAllW_nil_inv r2).1]
 refine np (readsW_list_inv r1) λa vs _ e4 hl ri _=>el13 hl λo ho hc hd=>fk hd λn hd=>?_
 exact el12 (z2L (c:=c) (U:=[a,c.tabA 1,c.tabA 2]) h3 ri) λns hn hv=>k xs a o vs n ns e1 (by rw[e3,e4]) ho hc hd (hn▸zbi hm hb (e1▸hpre)) hv
theorem z7D {c:Cfg}{r:OpenLaw}{s₀ s₁ s2:Shared}{args:List WData}{a:Addr}(hbase:c.base=hideAll s₁.heap [c.tabA 1,c.tabA 2])(hg:s₁.gens = #[]){c1 c2:Addr}(d1:CodeHd s₁.heap c1 (c.tabA 1))(d2:CodeHd s₁.heap c2 (c.tabA 2))(t1:s₁.heap.get? (c.tabA 1)=rc (tabObj #[]))(t2:s₁.heap.get? (c.tabA 2)=rc (tabObj #[]))
  {J':MH}(m1:J'.get 1=rc .tab)(m2:J'.get 2=rc .tab){U2:List Addr}(S2:St c [] U2 J' s2.heap)(E2:Evo [] [] [a,c.tabA 1,c.tabA 2] s₁.heap U2 s2.heap)(O2:Oth s₁ s2):
  GoodWG r.row.toRowW.claim (classAt s₀.heap) (ExcName.means s₀.heap) args s₁ (.ok (.ret (.bool rg))) s2:=by
 have tb:∀ {i:Nat}{P:Addr},[a,c.tabA 1,c.tabA 2][i]? = rc P->J'.get i=rc .tab->∃ ps,s2.heap.get? P=rc (tabObj ps):=λ{i P} e m=>by
  refine(S2.obj _ _ m).go λx ob q1 q2 q3 _=>?_
  exact el14 q3.inv λps z _ _ _=>⟨ps,by rw[qb ((E2.get e).symm.trans q1),q2,z]⟩
 refine fk (tb (i:=1) rfl m1) λp1 u1=>?_
 refine fk (tb (i:=2) rfl m2) λp2 u2=>?_
 have keep:∀ b o,b≠c.tabA 1->b≠c.tabA 2->s₁.heap.get? b=rc o->s2.heap.get? b=rc o:=λb o n1 n2 e=>S2.base _ _ (by rw[hbase];exact hideAll_get _ e (by simp[n1,n2]))
 have three:∀ {b o}{P:Prop},s₁.heap.get? b=rc o->(b=c.tabA 1->P)->(b=c.tabA 2->P)->(s2.heap.get? b=rc o->P)->P:=λ{b o P} e h1 h2 h3=>
  (Decidable.em (b=c.tabA 1)).elim h1 λn1=>(Decidable.em (b=c.tabA 2)).elim h2 λn2=>h3 (keep b o n1 n2 e)
 refine⟨.inl ⟨_,.bool rg,[],rfl,λcls=>rfl,.bool rg,?_,λ_=>⟨List.nodup_nil,λ_ m=>by cases m⟩⟩,⟨λb o e=>three e (λq=>?_) (λq=>?_) .inl,λb o e=>three e (λq=>⟨_,q▸u1⟩) (λq=>⟨_,q▸u2⟩) λq=>⟨o,q⟩⟩,O2.os,.of_eq (O2.gens.trans hg)⟩
 ·refine postW_of ?_ (X:=rg) ?_ rfl
  ·rfl
  ·show WTm.value [] (.eq .res (.lit (.bool rg))) _=_
   simp[WTm.value,same_self]
 ·subst q;exact z5t d1 t1 u1 e
 ·subst q;exact z5t d2 t2 u2 e
theorem z5R {c:Cfg}{r:OpenLaw}{k f:Nat}{s₀ s₁:Shared}{args:List WData}{vals:List Value}{as:List Addr}(hm:r.most=rc 63)(hb:r.bound=re)(hbase:c.base=hideAll s₁.heap [c.tabA 1,c.tabA 2])(hg:s₁.gens = #[])
  {c1 c2:Addr}(d1:CodeHd s₁.heap c1 (c.tabA 1))(d2:CodeHd s₁.heap c2 (c.tabA 2))(t1:s₁.heap.get? (c.tabA 1)=rc (tabObj #[]))(t2:s₁.heap.get? (c.tabA 2)=rc (tabObj #[]))(hne:c.tabA 1≠c.tabA 2)
  {call:Fn->List V->M V}(hcall:cH c (3*k) call)(hk:k<=190)
  (hpre:r.row.toRowW.claim.pre args=rg)(hrd:ReadsAllW r.row.records (classAt s₀.heap) s₁.heap vals args as)
  (run:∀ xs:List Int,xs.length<=63->∃ J',call (.fn f) [.ref 0] (lx xs) = .ok (.bool rg) J'/\J'.get 1=rc .tab/\J'.get 2=rc .tab):
  wpF (model c.prog c.w) callerA (PySem.call (.ref (c.fnA f)) vals) (λv s'=>GoodWG r.row.toRowW.claim (classAt s₀.heap) (ExcName.means s₀.heap) args s₁ (.ok (.ret v)) s')
   (λe s'=>GoodWG r.row.toRowW.claim (classAt s₀.heap) (ExcName.means s₀.heap) args s₁ (.error e) s') s₁:=by
 refine z7T (c:=c) hm hb hpre hrd λds a o vs n ns e1 e2 ho hc hd hl hv=>?_
 subst e2;refine el13 (run ns hl) λJ' hr m1 m2=>?_
 have na:∀ {P},s₁.heap.get? P=rc (tabObj #[])->a≠P:=λe q=>by replace ho:=(q▸ho).symm.trans e;cases ho;cases hc
 have stay:c.base.StaysIn s₁.heap:=by rw[hbase];exact λ_ _ e=>of_hideAll _ e
 have gone:∀ {P},P∈[c.tabA 1,c.tabA 2]->c.base.get? P=none:=λm=>by rw[hbase];exact hideAll_none _ m
 have Rm:Room (3*k) callerA []:=⟨rfl,rfl,qt (Nat.add_le_add_left (Nat.mul_le_mul_left 3 hk) (1+300)) (by decide),qt (Nat.add_le_add_left (Nat.mul_le_mul_left 8 (Nat.mul_le_mul_left 3 hk)) 4) (by decide)⟩
 refine hcall callerA [] Rm (.fn f) _ [.ref 0] [.ref a] [] [a,c.tabA 1,c.tabA 2] (lx ns) s₁ (.fn f) (.cons (.ref rfl) .nil) _ _ (z8A ho hc hd hv stay gone t1 t2 hne na) (λq=>by cases hr.symm.trans q) (λb J2 U2 v s2 e S2 E2 r2 O2=>?_) (λj J2 U2 e s2 q F2 O2=>by cases hr.symm.trans q);cases hr.symm.trans e;cases r2;exact z7D hbase hg d1 d2 t1 t2 m1 m2 S2 E2 O2
end
section
noncomputable abbrev kH (w:World)(base:Heap)(mg mb:Str->Option Value)(K:Frag):Cfg where
 prog:=PySem.Challenge.rw_pf0217_01.prog
 w:=w
 K:=K
 base:=base
 nm:=kf nmA
 cls:=mK
 fnA:=nv
 P:=ah
 fnNm:=λf=>WA.fnL.lookup f
 clsNm:=λf=>WA.clsL.lookup f
 mg:=mg
 mb:=mb
 tq:=tqA
 tabA:=zcM
 lamOk:=λk sc pe=>n5 k sc pe=rg
structure FloorA (K0 K:Frag)(base:Heap)(mg mb:Str->Option Value):Prop where
 W:AllA K0 K
 X:K.In base
 hg:base.Ns qw mg
 hb:base.Ns qD mb
 boot:∀ x:Str,x≠"__name__"->mb x=bootBuiltins x
 mods:(base.get? sysModules).isSome
 lim:base.NoLimit
 d1:CodeHd base 589 585
 d2:CodeHd base 596 592
 blt:∃ bm ob,mg "__builtins__" = rc (.ref bm)/\bm≠qD/\bm≠qw/\base.get? bm=rc ob/\ob.cls = .type "module"/\ob.dict=rc qD/\ob.data = .plain
section
variable {w:World}{K0 K:Frag}{base b:Heap}{mg mb:Str->Option Value}
theorem FloorA.up (F:FloorA K0 K base mg mb)(k:base.StaysIn b):FloorA K0 K b mg mb:=
 ⟨F.W,F.X.keeps k,F.hg.keeps k,F.hb.keeps k,F.boot,by obtain⟨o,e⟩:=Option.isSome_iff_exists.mp F.mods;rw[k _ _ e];rfl,F.lim.keeps k,F.d1.keeps k,F.d2.keeps k,
  (by obtain⟨bm,ob,e1,e2,e3,e4,e5⟩:=F.blt;exact⟨bm,ob,e1,e2,e3,k _ _ e4,e5⟩)⟩
theorem z8b (F:FloorA K0 K base mg mb){j:Nat}{x:Str}{C:Addr}{ds:List Addr}(hj:mK j=C)(e1:dg K C ds=rg)(ei:bA (r8 K (.ref C) "__init__") 36=rg)(en:bA (nsIn K qw x) C=rg)(hds:∀ i,mT i=rg->i≠j->mK i∈ds):RaiseOk (kH w base mg mb K) j x:=by
 subst hj;have EC:=z3b F.X e1;have Wd:=z3c F.X F.hg F.hb F.boot F.lim F.W.e3;obtain⟨fdB,bB,GB,lB,q1⟩:=z5O F.X F.W.e4;obtain⟨b1,b2,b3,b4,b5,b6,b7,b8,b9,b10,rfl,hpB⟩:=z4G q1;refine⟨⟨gq F.X F.hg (bS en),?_⟩,λA fs s u Q E hbase Rm ea hq=>?_⟩
 ·obtain⟨bm,hC,_,hx,hno⟩:=EC.obj
  exact⟨bm,_,hC,hx,λi ci ne=>hno _ (hds i ci ne)⟩
 ·exact z6G Wd EC GB hpB lB (bS ei) (by have:=Rm.depth;omega) hbase hq
theorem zbW {i:Nat}(h:mT i=rg):i=1∨i=3:=by
 unfold mT at h
 simpa using h
theorem z7u (F:FloorA K0 K base mg mb){T:Tb}(hT:T.nm=TA0.nm/\T.fnNm=TA0.fnNm/\T.clsNm=TA0.clsNm/\T.can=TA0.can/\T.tab=TA0.tab)(hl:∀ k sc pe,T.lam k sc pe=rg->n5 k sc pe=rg):Facts (kH w base mg mb K) T:=by
 refine⟨⟨z82 zaF zaG,F.mods⟩,zby (W:=WA) F.W.w F.X F.hg F.hb F.boot rfl rfl rfl rfl rfl rfl rfl rfl rfl,z4F (W:=WA) F.W.w F.X rfl,hT.1.symm,hT.2.1.symm,hT.2.2.1.symm,hT.2.2.2.1.symm,hl,λk=>?_,λi=>?_⟩
 ·rw[hT.2.2.2.2]
  show(match qX k 0 with | true=>1 | false=>2)=(match qX k 0 with | true=>0 | false=>1)+1;cases qX k 0 <;> rfl
 ·cases i with
  | zero=>exact⟨F.d1,rfl,F.blt⟩
  | succ i=>exact⟨F.d2,rfl,F.blt⟩
theorem z5d (F:FloorA K0 K base mg mb):Facts2 (kH w base mg mb K) TA:=by
 refine⟨z7u F ⟨rfl,rfl,rfl,rfl,rfl⟩ λ_ _ _ h=>h,λj x e=>?_,λk j=>rfl⟩;have m:=bp (l:=WA.exc) e;simp only[WA,List.mem_cons,Prod.mk.injEq,pZ,or_false] at m
 rcases m with ⟨rfl,rfl⟩ | ⟨rfl,rfl⟩
 ·exact z8b F rfl F.W.e1 F.W.e5 F.W.e7 λi ci ne=>by
   rcases zbW ci with rfl | rfl
   ·exact absurd rfl ne
   ·exact List.mem_singleton.mpr rfl
 ·exact z8b F rfl F.W.e2 F.W.e6 F.W.e8 λi ci ne=>by
   rcases zbW ci with rfl | rfl
   ·exact List.mem_singleton.mpr rfl
   ·exact absurd rfl ne
theorem upA (F:FloorA K0 K base mg mb):CfgOk (kH w base mg mb K)/\(∀ k e sc pe,ky k=rc e->n5 k sc pe=rg->LamAt (kH w base mg mb K) e sc pe)/\∀ f d,Afn f=rc d->∃ fd body,FnAt (kH w base mg mb K) f d fd body:=
 ⟨(z5d F).F.C,λk e sc pe h1 h2=>z9a (z7u F ⟨rfl,rfl,rfl,rfl,rfl⟩ λ_ _ _ h=>pY h) h1 h2,λf d e=>z7g (z5d F) (F.W.f f d e)⟩
theorem zaS (F:FloorA K0 K base mg mb)(k:Nat):cH (kH w base mg mb K) (3*k) (al ah k):=
 z3G (c:=kH w base mg mb K) (λb hb=>upA (F.up hb)) F.lim k base λ_ _ e=>e
end
theorem z8Z:dB.name=⟨#[108,97,119]⟩:=by kernel_rfl
theorem z6b {k:Nat}(hk:k<=190)(run:∀ xs:List Int,xs.length<=63->∃ J',al ah k (.fn 15) [.ref 0] (lx xs) = .ok (.bool rg) J'/\J'.get 1=rc .tab/\J'.get 2=rc .tab):PySem.Challenge.rw_pf0217_01.Holds:=by
 refine hdB ?_;intro w s₀ s₁ mg mb G Y9 fa o pm cd doc dV kV ho hd hcd hD hmg hg args vals as hpre hlay hrd hwl hlo;obtain⟨K0,hK,X0⟩:=Y9;have W:=z8O hK;have X:=zaX X0;have t1:=z5A X0 W.t1;have t2:=z5A X0 W.t2;have d1:=z21 X0 W.h1;have d2:=z21 X0 W.h2;have st:∀ {b o},s₁.heap.get? b=rc o->o≠tabObj #[]->(hideAll s₁.heap [585,592]).get? b=rc o:=λ{b o} e n=>hideAll_get _ e λm=>by
  simp at m
  rcases m with rfl | rfl
  ·rw[t1] at e;cases e;exact n rfl
  ·rw[t2] at e;cases e;exact n rfl
 have nd:∀ {o:Obj}{es:Array DictEntry}{n:Nat},o.data = .dict es n->o≠tabObj #[]:=λhd q=>by rw[q] at hd;cases hd
 have ns:∀ {a m},s₁.heap.Ns a m->(hideAll s₁.heap [585,592]).Ns a m:=λz=>by obtain⟨o,es,ep,ho,hd,r⟩:=z;exact⟨o,es,ep,st ho (nd hd),hd,r⟩
 have cd:∀ {c P},CodeHd s₁.heap c P->CodeHd (hideAll s₁.heap [585,592]) c P:=λz=>by obtain⟨o,vs,f,tf,fl,tg,i,tx,tt,e1,e2,r⟩:=z;exact⟨o,vs,f,tf,fl,tg,i,tx,tt,st e1 (λq=>by rw[q] at e2;cases e2),e2,r⟩
 have F:FloorA K0 (cut K0) (hideAll s₁.heap [585,592]) mg mb:=by
  refine⟨W,X,ns G.T.g,ns G.T.b,G.T.builtins,?_,?_,cd d1,cd d2,?_⟩
  ·obtain⟨mm,⟨o,es,ep,e1,e2,_⟩,_⟩:=(G.T.seer (by decide +kernel)).mods
   rw[st e1 (nd e2)];rfl
  ·exact(by obtain⟨mc,e1,e2⟩:=G.T.nolimit;exact⟨mc,ns e1,e2⟩)
  ·obtain⟨bm,ob,b1,b2,b3,b4,b5,b6⟩:=G.T.bmain
   refine⟨bm,ob,b1,b2,λq=>?_,st b3 (λq=>by rw[q] at b4;cases b4),b4,b5,b6⟩;obtain⟨o,es,ep,ho,hd',_⟩:=G.T.g;rw[<-q,b3] at ho
   cases ho
   rw[b6] at hd'
   cases hd'
 have hfa:fa=nv 15:=by
  have e1:=List.all_eq_true.mp W.w.fnG (15,⟨#[108,97,119]⟩) (by decide +kernel);have e2:=gq X (ns G.T.g) (bS e1);have e3:mg ⟨#[108,97,119]⟩=rc (.ref fa):=z8Z▸hmg;rw[e3] at e2
  exact qN.inj (qb e2)
 subst hfa;exact z5R (c:=kH w (hideAll s₁.heap [585,592]) mg mb (cut K0)) (r:=PySem.Challenge.rw_pf0217_01) rfl rfl rfl hg d1 d2 t1 t2 (show(585:Nat)≠592 by decide) (zaS F k) hk hpre hrd run
end
end Mine.Internal
end
namespace Mine.Internal.H
section
noncomputable def Rr (J:MH)(L:List (Nat×O)):Prop:=(L.map (·.1)).Nodup/\∀ p,p∈L->J.get p.1=rc p.2/\p.1<J.n
theorem Rr.at {J:MH}{L:List (Nat×O)}{a:Nat}{o:O}(h:Rr J L)(i:Nat)(e:L[i]? = rc (a,o)):J.get a=rc o:=(h.2 _ (pv e)).1
theorem Rr.mem {J:MH}{L:List (Nat×O)}{a:Nat}{o:O}(h:Rr J L)(e:(a,o)∈L):J.get a=rc o:=(h.2 _ e).1
theorem Rr.perm {J:MH}{L L':List (Nat×O)}(h:Rr J L)(p:L.Perm L'):Rr J L':=⟨(p.map _).nodup_iff.mp h.1,λx m=>h.2 x (p.mem_iff.mpr m)⟩
theorem Rr.sub {J:MH}{L L':List (Nat×O)}(h:Rr J L)(p:L'.Sublist L):Rr J L':=⟨h.1.sublist (p.map _),λx m=>h.2 x (p.subset m)⟩
theorem Rr.tl {J:MH}{L:List (Nat×O)}{x:Nat×O}(h:Rr J (x:: L)):Rr J L:=h.sub (oW _ _)
theorem Rr.hd {J:MH}{L:List (Nat×O)}{a:Nat}{o:O}(h:Rr J ((a,o):: L))(o':O):Rr (J.set a o') ((a,o'):: L):=by
 have hn:a∉L.map (·.1)/\(L.map (·.1)).Nodup:=List.nodup_cons.mp h.1;refine⟨h.1,λp m=>?_⟩
 rcases List.mem_cons.mp m with rfl | m
 ·exact⟨(MH.get_set ..).trans (if_pos rfl),(h.2 (a,o) (.head _)).2⟩
 ·have q:=h.2 p (.tail _ m)
  exact⟨((MH.get_set ..).trans (if_neg λ(e:p.1=a)=>hn.1 (e▸List.mem_map_of_mem (f:=(·.1)) m))).trans q.1,q.2⟩
theorem Rr.mid {J:MH}{A B:List (Nat×O)}{a:Nat}{o:O}(h:Rr J (A++(a,o):: B))(o':O):Rr (J.set a o') (A++(a,o'):: B):=((h.perm List.perm_middle).hd o').perm List.perm_middle.symm
theorem io {Y:Type}{x:Y}:∀ {L:List Y}{i:Nat},L[i]? = rc x->∃ A B,L=A++x:: B/\∀ y,L.set i y=A++y:: B
 | [],i=>by intro e;simp at e
 | y:: L,0=>by intro e;cases e;exact n4 ([]) L rfl (λ_=>rfl)
 | y:: L,i+1=>by
  intro e;refine el22 (io (L:=L) (i:=i) e) λA B e1 e2=>?_
  exact n4 (y:: A) B (congrArg (y:: ·) e1) (λz=>congrArg (y:: ·) (e2 z))
theorem Rr.set {J:MH}{L:List (Nat×O)}{a:Nat}{o:O}(h:Rr J L)(i:Nat)(e:L[i]? = rc (a,o)){o':O}:Rr (J.set a o') (L.set i (a,o')):=by
 obtain⟨A,B,e1,e2⟩:=io e;rw[e2];rw[e1] at h
 exact h.mid o'
theorem Rr.push {J:MH}{L:List (Nat×O)}(h:Rr J L)(o:O):Rr (J.push o) ((J.n,o):: L):=by
 refine⟨List.nodup_cons.mpr ⟨λm=>?_,h.1⟩,λp m=>?_⟩
 ·obtain⟨x,mx,ex⟩:=List.mem_map.mp m
  have:=(h.2 x mx).2;simp only at ex
  exact absurd this (ex▸Nat.lt_irrefl _)
 ·rcases List.mem_cons.mp m with rfl | m
  ·exact⟨(MH.get_push ..).trans (if_pos rfl),Nat.lt_succ_self _⟩
  ·have q:=h.2 p m
   exact⟨((MH.get_push ..).trans (if_neg (qq q.2))).trans q.1,Nat.lt_succ_of_lt q.2⟩
theorem Rr.toF {J:MH}{A F:List (Nat×O)}{t:Nat×O}(h:Rr J (t:: (A++F))):Rr J (A++t:: F):=h.perm List.perm_middle.symm
theorem Rr.ofF {J:MH}{A F:List (Nat×O)}{t:Nat×O}(h:Rr J (A++t:: F)):Rr J (t:: (A++F)):=h.perm List.perm_middle
theorem Rr.noF {J:MH}{A F:List (Nat×O)}{t:Nat×O}(h:Rr J (A++t:: F)):Rr J (A++F):=h.ofF.tl
theorem Rr.repl {J:MH}{A B:List (Nat×O)}{t u:Nat×O}(h:Rr J (t:: (A++u:: B))):Rr J (A++t:: B):=(h.perm List.perm_middle.symm).sub (((oW _ _).cons_cons _).append_left _)
noncomputable def Ok {Y:Type}(r:R Y)(Q:Y->MH->Prop):Prop:=∃ a J',r = .ok a J'/\Q a J'
theorem Ok.bind {Y β:Type}{m:M Y}{f:Y->M β}{J:MH}{Q:β->MH->Prop}:Ok (m J) (λa J'=>Ok (f a J') Q)->Ok ((m >>= f) J) Q:=λh=>by
 obtain⟨_,_,e,b,J2,e2,q⟩:=h;exact⟨b,J2,(bnd e).trans e2,q⟩
theorem Ok.eq {Y:Type}{r r':R Y}{Q:Y->MH->Prop}(e:r=r'):Ok r' Q->Ok r Q:=λh=>e▸h
theorem Ok.of {Y:Type}{r:R Y}{Q:Y->MH->Prop}{a:Y}{J:MH}(e:r = .ok a J)(q:Q a J):Ok r Q:=⟨a,J,e,q⟩
theorem Ok.mono {Y:Type}{r:R Y}{Q Q':Y->MH->Prop}:Ok r Q->(∀ a J,Q a J->Q' a J)->Ok r Q':=λh k=>by
 obtain⟨a,J,e,q⟩:=h;exact⟨a,J,e,k a J q⟩
theorem Ok.el0 {Y:Type}  {r:R Y}{V:Y}{P0:MH->Prop}{G:Prop}(h:Ok r λv m=>v=V/\P0 m)(k:∀ m,r = .ok (V) m->P0 m->G):G:=by
 obtain⟨_,m,e,rfl,h0⟩:=h;exact k m e h0
theorem Ok.el1 {Y:Type}{β0:Type}{r:R Y}{V:Y}{P0:β0->MH->Prop}{G:Prop}(h:Ok r λv m=>v=V/\∃ x,P0 x m)(k:∀ m x,r = .ok (V) m->P0 x m->G):G:=by
 obtain⟨_,m,e,rfl,x,h0⟩:=h;exact k m x e h0
theorem Ok.el12 {Y:Type}{β0:Type}{r:R Y}{V:Y}{P0:β0->MH->Prop}{P1:β0->MH->Prop}{G:Prop}(h:Ok r λv m=>v=V/\∃ x,P0 x m/\P1 x m)(k:∀ m x,r = .ok (V) m->P0 x m->P1 x m->G):G:=by
 obtain⟨_,m,e,rfl,x,h0,h1⟩:=h;exact k m x e h0 h1
theorem Ok.el13 {Y:Type}{β0:Type}{r:R Y}{V:Y}{P0:β0->MH->Prop}{P1:β0->MH->Prop}{P2:β0->MH->Prop}{G:Prop}(h:Ok r λv m=>v=V/\∃ x,P0 x m/\P1 x m/\P2 x m)(k:∀ m x,r = .ok (V) m->P0 x m->P1 x m->P2 x m->G):G:=by
 obtain⟨_,m,e,rfl,x,h0,h1,h2⟩:=h;exact k m x e h0 h1 h2
theorem Ok.el14 {Y:Type}{β0:Type}{r:R Y}{V:Y}{P0:β0->MH->Prop}{P1:β0->MH->Prop}{P2:β0->MH->Prop}{P3:β0->MH->Prop}{G:Prop}(h:Ok r λv m=>v=V/\∃ x,P0 x m/\P1 x m/\P2 x m/\P3 x m)(k:∀ m x,r = .ok (V) m->P0 x m->P1 x m->P2 x m->P3 x m->G):G:=by
 obtain⟨_,m,e,rfl,x,h0,h1,h2,h3⟩:=h;exact k m x e h0 h1 h2 h3
theorem Ok.el22 {Y:Type}{β0:Type}{β1:Type}{r:R Y}{V:Y}{P0:β0->β1->MH->Prop}{P1:β0->β1->MH->Prop}{G:Prop}(h:Ok r λv m=>v=V/\∃ x y,P0 x y m/\P1 x y m)(k:∀ m x y,r = .ok (V) m->P0 x y m->P1 x y m->G):G:=by
 obtain⟨_,m,e,rfl,x,y,h0,h1⟩:=h;exact k m x y e h0 h1
theorem Ok.elP {Y:Type}{β0:Type}{r:R Y}{V:β0->Y}{P0:β0->MH->Prop}{P1:β0->MH->Prop}{P2:β0->MH->Prop}{G:Prop}(h:Ok r λv m=>∃ x,v=V x/\P0 x m/\P1 x m/\P2 x m)(k:∀ m x,r = .ok (V x) m->P0 x m->P1 x m->P2 x m->G):G:=by
 obtain⟨_,m,e,x,rfl,h0,h1,h2⟩:=h;exact k m x e h0 h1 h2
theorem Ok.elPb {Y:Type}{β0:Type}{β1:Type}{r:R Y}{V:β0->β1->Y}{P0:β0->β1->MH->Prop}{P1:β0->β1->MH->Prop}{P2:β0->β1->MH->Prop}{G:Prop}(h:Ok r λv m=>∃ x y,v=V x y/\P0 x y m/\P1 x y m/\P2 x y m)(k:∀ m x y,r = .ok (V x y) m->P0 x y m->P1 x y m->P2 x y m->G):G:=by
 obtain⟨_,m,e,x,y,rfl,h0,h1,h2⟩:=h;exact k m x y e h0 h1 h2
theorem dc {p:Prop} [Decidable p](h:p):decide p=true:=decide_eq_true h
noncomputable def cW (j a:Nat):Nat->Option Nat:=λy=>if y=j then rc a else re
noncomputable def CX (n:Nat)(cl:Nat->Option Nat):Cx:=⟨ah,dA ah (al ah n),cl⟩
section
variable {n:Nat}{cl:Nat->Option Nat}{l:Loc}{J J1 J2 J3:MH}
theorem ga {a c d f:Nat}{fs:List (Nat×V)}{v:V}(h1:J.get a=rc (.inst c d))(hf:iI c f=rg)(h2:J.get d=rc (.ns fs))(h3:af f fs=rc v):getAttr iI (.ref a) f J = .ok v J:=
 (bnd (rdE h1)).trans ((bnd (gdE hf)).trans ((bnd (rdE h2)).trans (lfE h3)))
theorem sa {a c d f:Nat}{fs:List (Nat×V)}{v:V}(h1:J.get a=rc (.inst c d))(hf:iI c f=rg)(h2:J.get d=rc (.ns fs))(h3:decide (fs.length<=100)=rg):setAttr iI (.ref a) f v J = .ok () (J.set d (.ns (aJ f v fs))):=
 (bnd (rdE h1)).trans ((bnd (gdE hf)).trans ((bnd (rdE h2)).trans (bnd (gdE h3))))
theorem nZ {a:Nat}{xs:List V}{k:Int}{v:V}(h1:J.get a=rc (.lst xs))(h2:0<=k/\k<2 ^ 63)(h3:xs[k.toNat]? = rc v):cg (.ref a) (.int k) J = .ok v J:=
 (bnd (rdE h1)).trans ((bnd (gdE (dc h2))).trans (lfE h3))
theorem mY {a:Nat}{es:List (Int×V)}{k:Int}{v:V}(h1:J.get a=rc (.dct es))(h3:af k es=rc v):cg (.ref a) (.int k) J = .ok v J:=(bnd (rdE h1)).trans (lfE h3)
theorem eM {a:Nat}{es:List (Nat×V)}{k:Nat}{v:V}(h1:J.get a=rc (.sd es))(h3:af k es=rc v):cg (.ref a) (.str k) J = .ok v J:=(bnd (rdE h1)).trans (lfE h3)
theorem si_l {a:Nat}{xs:List V}{k:Int}{v:V}(h1:J.get a=rc (.lst xs))(h2:0<=k/\k<2 ^ 63/\k.toNat<xs.length):cG (.ref a) (.int k) v J = .ok () (J.set a (.lst (xs.set k.toNat v))):=(bnd (rdE h1)).trans (bnd (gdE (dc h2)))
theorem jV {a:Nat}{es:List (Int×V)}{k:Int}{v:V}(h1:J.get a=rc (.dct es))(h2:es.length<=lim):cG (.ref a) (.int k) v J = .ok () (J.set a (.dct (aJ k v es))):=(bnd (rdE h1)).trans (bnd (gdE (dc h2)))
theorem gP {a:Nat}{es:List (Nat×V)}{k:Nat}{v:V}(h1:J.get a=rc (.sd es))(h2:decide (es.length<=100)=rg):cG (.ref a) (.str k) v J = .ok () (J.set a (.sd (aJ k v es))):=(bnd (rdE h1)).trans (bnd (gdE h2))
theorem di_l {a:Nat}{xs:List V}{k:Int}(h1:J.get a=rc (.lst xs))(h2:0<=k/\k<2 ^ 63/\k.toNat<xs.length/\xs.length<=lim):i5 (.ref a) (.int k) J = .ok () (J.set a (.lst (xs.eraseIdx k.toNat))):=(bnd (rdE h1)).trans (bnd (gdE (dc h2)))
theorem zc1 {a:Nat}{es:List (Int×V)}{k:Int}(h1:J.get a=rc (.dct es))(h2:(af k es).isSome=rg)(h3:es.length<=lim):i5 (.ref a) (.int k) J = .ok () (J.set a (.dct (bR k es))):=(bnd (rdE h1)).trans (bnd (gdE (by rw[h2,dc h3];rfl)))
theorem nl {xs:List V}(h:xs.length<=lim):newList xs J = .ok (.ref J.n) (J.push (.lst xs)):=(bnd (gdE (dc h))).trans rfl
theorem a8 {x:Nat}{v:V}(h:l x=rc v):evE (CX n cl) (.loc x) l J = .ok v J:=lfE h
theorem aV {x a:Nat}{v:V}(h:cl x=rc a)(h1:J.get a=rc (.cell (rc v))):evE (CX n cl) (.cel x) l J = .ok v J:=(bnd (lfE h)).trans ((bnd (rdE h1)).trans rfl)
theorem iQ {x:Nat}{i:Int}(h:za5 x=rc i):evE (CX n cl) (.gint x) l J = .ok (.int i) J:=(bnd (lfE h)).trans rfl
theorem ag {i:Int}:evE (CX n cl) (.cint i) l J = .ok (.int i) J:=rfl
theorem aM {i:Nat}:evE (CX n cl) (.cstr i) l J = .ok (.str i) J:=rfl
theorem bu:evE (CX n cl) .cnone l J = .ok .none J:=rfl
theorem z59 {b:Bool}:evE (CX n cl) (.cbool b) l J = .ok (.bool b) J:=rfl
theorem aB {op:BOp}{a b:E}{x y v:V}(h1:evE (CX n cl) a l J = .ok x J1)(h2:evE (CX n cl) b l J1 = .ok y J2)(h3:fc op x y J2 = .ok v J3):evE (CX n cl) (.bin op a b) l J = .ok v J3:=(bnd h1).trans ((bnd h2).trans h3)
theorem ax {op:COp}{a b:E}{x y:V}{t:Bool}(h1:evE (CX n cl) a l J = .ok x J1)(h2:evE (CX n cl) b l J1 = .ok y J2)(h3:aP op x y J2 = .ok t J3):evE (CX n cl) (.cmp op a b) l J = .ok (.bool t) J3:=(bnd h1).trans ((bnd h2).trans ((bnd h3).trans rfl))
theorem jl {o p:COp}{a b c:E}{x y z:V}{t:Bool}(h1:evE (CX n cl) a l J = .ok x J)(h2:evE (CX n cl) b l J = .ok y J)(h3:aP o x y J = .ok rg J)(h4:evE (CX n cl) c l J = .ok z J)(h5:aP p y z J = .ok t J):evE (CX n cl) (.cmp2 o p a b c) l J = .ok (.bool t) J:=(bnd h1).trans ((bnd h2).trans ((bnd h3).trans ((bnd h4).trans ((bnd h5).trans rfl))))
theorem z7o {o p:COp}{a b c:E}{x y:V}(h1:evE (CX n cl) a l J = .ok x J)(h2:evE (CX n cl) b l J = .ok y J)(h3:aP o x y J = .ok rj J):evE (CX n cl) (.cmp2 o p a b c) l J = .ok (.bool rj) J:=(bnd h1).trans ((bnd h2).trans ((bnd h3).trans rfl))
theorem z5a {o p:COp}{a b c:E}{x y z:V}{s t:Bool}(h1:evE (CX n cl) a l J = .ok x J)(h2:evE (CX n cl) b l J = .ok y J)(h3:aP o x y J = .ok s J)(h4:evE (CX n cl) c l J = .ok z J)(h5:aP p y z J = .ok t J):evE (CX n cl) (.cmp2 o p a b c) l J = .ok (.bool (s&&t)) J:=by
 cases s with
 | true=>exact jl h1 h2 h3 h4 h5
 | false=>exact z7o h1 h2 h3
theorem bM {es:Es}{v:V}(h:evAnd (CX n cl) es l J = .ok v J1):evE (CX n cl) (.and es) l J = .ok v J1:=h
theorem dK {es:Es}{v:V}(h:evOr (CX n cl) es l J = .ok v J1):evE (CX n cl) (.or es) l J = .ok v J1:=h
theorem f7 {e:E}{v:V}(h:evE (CX n cl) e l J = .ok v J1):evAnd (CX n cl) (.cons e .nil) l J = .ok v J1:=h
theorem eV {e e2:E}{es:Es}{v:V}(h:evE (CX n cl) e l J = .ok (.bool rg) J1)(h2:evAnd (CX n cl) (.cons e2 es) l J1 = .ok v J2):evAnd (CX n cl) (.cons e (.cons e2 es)) l J = .ok v J2:=(bnd h).trans h2
theorem ix {e e2:E}{es:Es}(h:evE (CX n cl) e l J = .ok (.bool rj) J1):evAnd (CX n cl) (.cons e (.cons e2 es)) l J = .ok (.bool rj) J1:=(bnd h).trans rfl
theorem zbO {e e2:E}{es:Es}{s t:Bool}(h:evE (CX n cl) e l J = .ok (.bool s) J1)(h2:evAnd (CX n cl) (.cons e2 es) l J1 = .ok (.bool t) J1):evAnd (CX n cl) (.cons e (.cons e2 es)) l J = .ok (.bool (s&&t)) J1:=by
 cases s with
 | true=>exact eV h h2
 | false=>exact ix h
theorem jR {e:E}{v:V}(h:evE (CX n cl) e l J = .ok v J1):evOr (CX n cl) (.cons e .nil) l J = .ok v J1:=h
theorem il {e e2:E}{es:Es}{v:V}(h:evE (CX n cl) e l J = .ok (.bool rj) J1)(h2:evOr (CX n cl) (.cons e2 es) l J1 = .ok v J2):evOr (CX n cl) (.cons e (.cons e2 es)) l J = .ok v J2:=(bnd h).trans h2
theorem o6 {e e2:E}{es:Es}(h:evE (CX n cl) e l J = .ok (.bool rg) J1):evOr (CX n cl) (.cons e (.cons e2 es)) l J = .ok (.bool rg) J1:=(bnd h).trans rfl
theorem zcC {e e2:E}{es:Es}{s t:Bool}(h:evE (CX n cl) e l J = .ok (.bool s) J1)(h2:evOr (CX n cl) (.cons e2 es) l J1 = .ok (.bool t) J1):evOr (CX n cl) (.cons e (.cons e2 es)) l J = .ok (.bool (s||t)) J1:=by
 cases s with
 | true=>exact o6 h
 | false=>exact il h h2
theorem lZ {e:E}{t:Bool}(h:evE (CX n cl) e l J = .ok (.bool t) J1):evE (CX n cl) (.not e) l J = .ok (.bool (!t)) J1:=(bnd h).trans rfl
theorem mP {e:E}(h:evE (CX n cl) e l J = .ok (.bool rg) J1):evE (CX n cl) (.not e) l J = .ok (.bool rj) J1:=lZ h
theorem zak {e:E}(h:evE (CX n cl) e l J = .ok (.bool rj) J1):evE (CX n cl) (.not e) l J = .ok (.bool rg) J1:=lZ h
theorem iR {c a b:E}{v:V}(h:evE (CX n cl) c l J = .ok (.bool rg) J1)(h2:evE (CX n cl) a l J1 = .ok v J2):evE (CX n cl) (.ite c a b) l J = .ok v J2:=(bnd h).trans h2
theorem fN {c a b:E}{v:V}(h:evE (CX n cl) c l J = .ok (.bool rj) J1)(h2:evE (CX n cl) b l J1 = .ok v J2):evE (CX n cl) (.ite c a b) l J = .ok v J2:=(bnd h).trans h2
theorem aI {o:E}{a c d f:Nat}{fs:List (Nat×V)}{v:V}(h:evE (CX n cl) o l J = .ok (.ref a) J1)(h1:J1.get a=rc (.inst c d))(hf:iI c f=rg)(h2:J1.get d=rc (.ns fs))(h3:af f fs=rc v):evE (CX n cl) (.attr o f) l J = .ok v J1:=(bnd h).trans (ga h1 hf h2 h3)
theorem aW {o i:E}{x y v:V}(h1:evE (CX n cl) o l J = .ok x J1)(h2:evE (CX n cl) i l J1 = .ok y J2)(h3:cg x y J2 = .ok v J2):evE (CX n cl) (.idx o i) l J = .ok v J2:=(bnd h1).trans ((bnd h2).trans h3)
theorem z5b {o a b:E}{x y z v:V}(h1:evE (CX n cl) o l J = .ok x J)(h2:evE (CX n cl) a l J = .ok y J)(h3:evE (CX n cl) b l J = .ok z J)(h4:c6 x y z J = .ok v J1):evE (CX n cl) (.part o a b) l J = .ok v J1:=(bnd h1).trans ((bnd h2).trans ((bnd h3).trans h4))
theorem aS {b:B1}{e:E}{x v:V}(h1:evE (CX n cl) e l J = .ok x J1)(h2:bN b x J1 = .ok v J2):evE (CX n cl) (.b1 b e) l J = .ok v J2:=(bnd h1).trans h2
theorem cM {a b:E}{x y:V}(h1:evE (CX n cl) a l J = .ok x J1)(h2:evE (CX n cl) b l J1 = .ok y J2):evE (CX n cl) (.t2 a b) l J = .ok (.t2 x y) J2:=(bnd h1).trans ((bnd h2).trans rfl)
theorem aE {es:Es}{vs:List V}(h:evEs (CX n cl) es l J = .ok vs J1)(h2:decide (vs.length<=lim)=rg):evE (CX n cl) (.list es) l J = .ok (.ref J1.n) (J1.push (.lst vs)):=(bnd h).trans (nl (of_decide_eq_true h2))
theorem aA:evEs (CX n cl) .nil l J = .ok [] J:=rfl
theorem aa {e:E}{es:Es}{v:V}{vs:List V}(h:evE (CX n cl) e l J = .ok v J1)(h2:evEs (CX n cl) es l J1 = .ok vs J2):evEs (CX n cl) (.cons e es) l J = .ok (v:: vs) J2:=(bnd h).trans ((bnd h2).trans rfl)
theorem az {e:E}{v:V}(h:evE (CX n cl) e l J = .ok v J1):evEs (CX n cl) (.cons e .nil) l J = .ok [v] J1:=(bnd h).trans ((bnd aA).trans rfl)
theorem lk {f:Nat}(h:qX f 14=rj):dA ah (al ah n) (.fn f)=al ah n (.fn f):=by
 show(match (match qX f 14 with | true=>rc 22 | false=>re:Option Nat) with | some k=>dL k (al ah n (.fn f)) | none=>al ah n (.fn f))=_;rw[h]
theorem aD {f:Nat}{as:Es}{vs:List V}{v:V}(hf:qX f 14=rj)(h:evEs (CX n cl) as l J = .ok vs J1)(h2:al ah n (.fn f) vs J1 = .ok v J2):evE (CX n cl) (.call f as) l J = .ok v J2:=(bnd h).trans ((congrFun (congrFun (lk hf) vs) J1).trans h2)
theorem zav {o:E}{m f a c d:Nat}{b:Option BM}{as:Es}{fs:List (Nat×V)}(h:evE (CX n cl) o l J = .ok (.ref a) J1)(h1:J1.get a=rc (.inst c d))(hm:mU c m=rc f)(h2:J1.get d=rc (.ns fs))(h3:(af m fs).isNone=rg)(hf:qX f 14=rj):
  evE (CX n cl) (.meth o m b as) l J=(evEs (CX n cl) as l >>= λvs=>al ah n (.fn f) (.ref a:: vs)) J1:=by
 refine(bnd h).trans ((bnd (rdE h1)).trans ((bnd (lfE hm)).trans ((bnd (rdE h2)).trans ((bnd (gdE h3)).trans ?_))))
 show(evEs (CX n cl) as l >>= λvs=>dA ah (al ah n) (.fn f) (.ref a:: vs)) J1=_;rw[lk hf]
theorem aC {o:E}{m f a c d:Nat}{b:Option BM}{as:Es}{fs:List (Nat×V)}{vs:List V}{v:V}(h:evE (CX n cl) o l J = .ok (.ref a) J1)(h1:J1.get a=rc (.inst c d))(hm:mU c m=rc f)(h2:J1.get d=rc (.ns fs))(h3:(af m fs).isNone=rg)(hf:qX f 14=rj)(h4:evEs (CX n cl) as l J1 = .ok vs J2)(h5:al ah n (.fn f) (.ref a:: vs) J2 = .ok v J3):
  evE (CX n cl) (.meth o m b as) l J = .ok v J3:=(zav h h1 hm h2 h3 hf).trans ((bnd h4).trans h5)
theorem zbk {b:BM}{ob:O}(h:gz b ob=rg):∀ c d,ob≠.inst c d:=λc d e=>by subst e;cases b <;> cases h
theorem bmI {o:E}{m a:Nat}{b:BM}{as:Es}{ob:O}{vs:List V}(h:evE (CX n cl) o l J = .ok (.ref a) J1)(h1:J1.get a=rc ob)(h2:gz b ob=rg)(h4:evEs (CX n cl) as l J1 = .ok vs J2):evE (CX n cl) (.meth o m (rc b) as) l J=cp b (.ref a) vs J2:=by
 refine(bnd h).trans ((bnd (rdE h1)).trans ?_)
 have q:(M.guard (gz b ob) >>= λ_=>evEs (CX n cl) as l >>= cp b (.ref a)) J1=cp b (.ref a) vs J2:=(bnd (gdE h2)).trans (bnd h4)
 cases ob with
 | inst c d=>exact(zbk h2 c d rfl).elim
 | _=>exact q
theorem l9 {a:Nat}{es:List (Int×V)}{k:Int}(h:J.get a=rc (.dct es)):cp .get (.ref a) [.int k] J = .ok ((af k es).getD .none) J:=(bnd (rdE h)).trans rfl
theorem z9e {a:Nat}{es:List (Int×V)}{k:Int}{v:V}(h:J.get a=rc (.dct es))(h2:af k es=rc v):cp .get (.ref a) [.int k] J = .ok v J:=(l9 h).trans (by rw[h2];rfl)
theorem z9d {a:Nat}{es:List (Int×V)}{k:Int}(h:J.get a=rc (.dct es))(h2:af k es=re):cp .get (.ref a) [.int k] J = .ok .none J:=(l9 h).trans (by rw[h2];rfl)
theorem lf {a:Nat}{es:List (Int×V)}{k:Int}{d:V}(h:J.get a=rc (.dct es)):cp .get (.ref a) [.int k,d] J = .ok ((af k es).getD d) J:=(bnd (rdE h)).trans rfl
theorem z7Z {a:Nat}{es:List (Int×V)}{k:Int}{v:V}(h:J.get a=rc (.dct es))(h2:es.length<=lim)(h3:af k es=rc v):cp .pop (.ref a) [.int k] J = .ok v (J.set a (.dct (bR k es))):=(bnd (rdE h)).trans ((bnd (gdE (dc h2))).trans ((bnd (lfE h3)).trans rfl))
theorem cm {a:Nat}{xs:List V}{v:V}(h:J.get a=rc (.lst xs))(h2:xs.length<lim):cp .append (.ref a) [v] J = .ok .none (J.set a (.lst (xs++[v]))):=(bnd (rdE h)).trans ((bnd (gdE (dc h2))).trans rfl)
theorem fS {a i:Nat}{xs:List V}{v:V}(h:J.get a=rc (.lst xs))(h2:xs.length<=lim)(h3:kr J v xs=rc i):cp .remove (.ref a) [v] J = .ok .none (J.set a (.lst (xs.eraseIdx i))):=by
 refine(bnd (rdE h)).trans ((bnd (gdE (dc h2))).trans ?_)
 have q:iA v xs J = .ok i J:=by unfold iA;rw[h3]
 exact(bnd q).trans rfl
theorem z6d {a:Nat}{b c:List UInt8}(h:J.get a=rc (.ba b))(h2:b.length+c.length<=lim):cp .extend (.ref a) [.bytes c] J = .ok .none (J.set a (.ba (b++c))):=(bnd (rdE h)).trans ((bnd (gdE (dc h2))).trans rfl)
theorem dJ {a b:Int}{t:Bool}(h:(a==b)=t):aP .eq (.int a) (.int b) J = .ok t J:=h▸rfl
theorem mN {a b:Int}{t:Bool}(h:decide (a<b)=t):aP .lt (.int a) (.int b) J = .ok t J:=h▸rfl
theorem mM {a b:Int}{t:Bool}(h:decide (a<=b)=t):aP .le (.int a) (.int b) J = .ok t J:=h▸rfl
theorem zae {a b:Int}{t:Bool}(h:decide (b<a)=t):aP .gt (.int a) (.int b) J = .ok t J:=h▸rfl
theorem zad {a b:Int}{t:Bool}(h:decide (b<=a)=t):aP .ge (.int a) (.int b) J = .ok t J:=h▸rfl
theorem ck {a:Nat}{xs:List V}(h:J.get a=rc (.lst xs))(h2:xs.length<=lim):bN .len (.ref a) J = .ok (.int xs.length) J:=(bnd (rdE h)).trans ((bnd (gdE (dc h2))).trans rfl)
theorem lU {a:Nat}{xs:List UInt8}(h:J.get a=rc (.ba xs))(h2:xs.length<=lim):bN .len (.ref a) J = .ok (.int xs.length) J:=(bnd (rdE h)).trans ((bnd (gdE (dc h2))).trans rfl)
theorem z78 {xs:List UInt8}(h2:xs.length<=lim):bN .len (.bytes xs) J = .ok (.int xs.length) J:=(bnd (gdE (dc h2))).trans rfl
theorem z79 {a:Nat}{xs:List V}(h:J.get a=rc (.lst xs))(h2:xs.length<=lim):bN .list (.ref a) J = .ok (.ref J.n) (J.push (.lst xs)):=(bnd (rdE h)).trans (nl h2)
theorem z3E {a:Nat}{xs:List UInt8}(h:J.get a=rc (.ba xs))(h2:xs.length<=lim):bN .bytes (.ref a) J = .ok (.bytes xs) J:=(bnd (rdE h)).trans ((bnd (gdE (dc h2))).trans rfl)
theorem jh {a:Nat}{xs:List V}{b:List UInt8}(h:J.get a=rc (.lst xs))(h2:xs.length<=lim)(h3:fG xs=rc b):bN .bytes (.ref a) J = .ok (.bytes b) J:=(bnd (rdE h)).trans ((bnd (gdE (dc h2))).trans ((bnd (lfE h3)).trans rfl))
theorem z3F {xs:List UInt8}(h2:xs.length<=lim):bN .bytes (.bytes xs) J = .ok (.bytes xs) J:=(bnd (gdE (dc h2))).trans rfl
theorem jg {i:Int}(h2:0<=i/\i.toNat<=lim):bN .bytes (.int i) J = .ok (.bytes (qi i.toNat 0)) J:=(bnd (gdE (dc h2))).trans rfl
theorem c_ba {xs:List UInt8}(h2:xs.length<=lim):bN .bytearray (.bytes xs) J = .ok (.ref J.n) (J.push (.ba xs)):=(bnd (gdE (dc h2))).trans rfl
theorem ji {a:Nat}{es:List (Int×V)}(h:J.get a=rc (.dct es))(h2:es.length<64)(h3:((bW (es.map (·.1))).map V.int).length<=lim):bN .sorted (.ref a) J = .ok (.ref J.n) (J.push (.lst ((bW (es.map (·.1))).map V.int))):=(bnd (rdE h)).trans ((bnd (gdE (dc h2))).trans (nl h3))
theorem gS {a:Nat}{xs:List V}{i:Int}{t:Bool}(h:J.get a=rc (.lst xs))(h2:fp i xs=rc t):aP .isin (.int i) (.ref a) J = .ok t J:=(bnd (rdE h)).trans (lfE h2)
theorem fK {a:Nat}{es:List (Int×V)}{i:Int}(h:J.get a=rc (.dct es)):aP .isin (.int i) (.ref a) J = .ok (af i es).isSome J:=(bnd (rdE h)).trans rfl
theorem z8X {a:Nat}{es:List (Int×V)}{i:Int}(h:J.get a=rc (.cdct es)):aP .isin (.int i) (.ref a) J = .ok (af i es).isSome J:=(bnd (rdE h)).trans rfl
theorem z3J {x y:V}{t:Bool}(h:aP .isin x y J = .ok t J1):aP .notin x y J = .ok (!t) J1:=(bnd (show inV x y J=_ from h)).trans rfl
theorem zaf {a b c d:Nat}(h:J.get a=rc (.inst c d)):aP .is (.ref a) (.ref b) J = .ok (a==b) J:=(bnd (rdE h)).trans rfl
theorem z3I {x y:V}{t:Bool}(h:aP .is x y J = .ok t J1):aP .isnot x y J = .ok (!t) J1:=(bnd (show isV x y J=_ from h)).trans rfl
theorem iz {x y:V}{t:Bool}(h:aP .eq x y J = .ok t J1):aP .ne x y J = .ok (!t) J1:=(bnd (show eqV x y J=_ from h)).trans rfl
theorem zaV {a c d:Nat}(h:J.get a=rc (.inst c d)):aP .is (.ref a) (.ref a) J = .ok rg J:=(zaf h).trans (by rw[beq_self_eq_true])
theorem z8Y {x y:V}(h:aP .is x y J = .ok rg J1):aP .isnot x y J = .ok rj J1:=z3I h
theorem eJ {x y:V}(h:aP .eq x y J = .ok rg J1):aP .ne x y J = .ok rj J1:=iz h
theorem kL {x y:V}(h:aP .eq x y J = .ok rj J1):aP .ne x y J = .ok rg J1:=iz h
theorem kK {a b:Nat}{xs ys:List V}{t:Bool}(h:J.get a=rc (.lst xs))(h2:J.get b=rc (.lst ys))(h3:(if xs.length=ys.length then V.eqAll xs ys else rc rj)=rc t):aP .eq (.ref a) (.ref b) J = .ok t J:=(bnd (rdE h)).trans ((bnd (rdE h2)).trans (lfE h3))
theorem z7i {a b:Nat}{es:List (Int×V)}(h:J.get a=rc (.dct es))(h2:J.get b=rc (.dct [])):aP .eq (.ref a) (.ref b) J = .ok (es.length==0) J:=(bnd (rdE h)).trans ((bnd (rdE h2)).trans rfl)
noncomputable def kh:Ss->Ss->Ss
 | .nil,ss=>ss
 | .cons s r,ss=>.cons s (kh r ss)
theorem jn {cx:Cx}{ss:Ss}:∀ {a:Ss}{l:Loc}{J:MH},exSs cx (kh a ss) l J=(exSs cx a l >>= λr=>match r with | (.next,l)=>exSs cx ss l | r=>pure r) J
 | .nil,l,J=>rfl
 | .cons s a,l,J=>by
  show M.bind (exS cx s l) _ J=M.bind (M.bind (exS cx s l) _) _ J;unfold M.bind;generalize exS cx s l J=r
  match r with
  | .ok (.next,l') J'=>exact jn (a:=a)
  | .ok (.ret v,l') J'=>rfl
  | .exc c J'=>rfl
  | .bad=>rfl
variable {ss:Ss}{Q:Fl×Loc->MH->Prop}
theorem z4v {c:E}{a b:Ss}(h:evE (CX n cl) c l J = .ok (.bool rg) J1):exSs (CX n cl) (.cons (.cond c a b) ss) l J=exSs (CX n cl) (kh a ss) l J1:=by
 refine Eq.trans ?_ jn.symm;show M.bind (evE (CX n cl) c l >>= _) _ J=M.bind _ _ J1;unfold M.bind;rw[bnd h];rfl
theorem z4u {c:E}{a b:Ss}(h:evE (CX n cl) c l J = .ok (.bool rj) J1):exSs (CX n cl) (.cons (.cond c a b) ss) l J=exSs (CX n cl) (kh b ss) l J1:=by
 refine Eq.trans ?_ jn.symm;show M.bind (evE (CX n cl) c l >>= _) _ J=M.bind _ _ J1;unfold M.bind;rw[bnd h];rfl
theorem z8I {e:E}{v:V}(h:evE (CX n cl) e l J = .ok v J1):exSs (CX n cl) (.cons (.ret e) ss) l J = .ok (.ret v,l) J1:=(bnd ((bnd h).trans rfl:exS (CX n cl) (.ret e) l J = .ok (.ret v,l) J1)).trans rfl
theorem za3:exSs (CX n cl) (.cons .ret0 ss) l J = .ok (.ret .none,l) J:=rfl
theorem dG {c k:Nat}(h:mT c=rg)(h2:(c != 4)=rg):exSs (CX n cl) (.cons (.raise c (.cons (.cstr k) .nil)) ss) l J = .exc c J:=by
 have q:exS (CX n cl) (.raise c (.cons (.cstr k) .nil)) l J = .exc c J:=(bnd (gdE h)).trans ((bnd (a:=[V.str k]) (J1:=J) rfl).trans (bnd (gdE (show jP c [.str k]=rg from h2))))
 show M.bind (exS (CX n cl) (.raise c (.cons (.cstr k) .nil)) l) _ J=_;unfold M.bind;rw[q]
theorem za2 {e:E}{v:V}(h:evE (CX n cl) e l J = .ok v J1):exSs (CX n cl) (.cons (.expr e) ss) l J=exSs (CX n cl) ss l J1:=bnd ((bnd h).trans rfl:exS (CX n cl) (.expr e) l J = .ok (.next,l) J1)
theorem z6K {x:Nat}{e:E}{v:V}(h:evE (CX n cl) e l J = .ok v J1):exSs (CX n cl) (.cons (.assign (.loc x) e) ss) l J=exSs (CX n cl) ss (l.put x v) J1:=bnd ((bnd h).trans rfl:exS (CX n cl) (.assign (.loc x) e) l J = .ok (.next,l.put x v) J1)
theorem zbF {o i e:E}{v x y:V}(h:evE (CX n cl) e l J = .ok v J1)(h1:evE (CX n cl) o l J1 = .ok x J1)(h2:evE (CX n cl) i l J1 = .ok y J1)(h3:cG x y v J1 = .ok () J2):exSs (CX n cl) (.cons (.assign (.sub o i) e) ss) l J=exSs (CX n cl) ss l J2:=bnd ((bnd h).trans (bnd ((bnd h1).trans ((bnd h2).trans ((bnd h3).trans rfl)))):exS (CX n cl) (.assign (.sub o i) e) l J = .ok (.next,l) J2)
theorem za0 {o e:E}{f:Nat}{v x:V}(h:evE (CX n cl) e l J = .ok v J1)(h1:evE (CX n cl) o l J1 = .ok x J1)(h3:setAttr iI x f v J1 = .ok () J2):exSs (CX n cl) (.cons (.attr o f e) ss) l J=exSs (CX n cl) ss l J2:=bnd ((bnd h).trans ((bnd h1).trans ((bnd h3).trans rfl)):exS (CX n cl) (.attr o f e) l J = .ok (.next,l) J2)
theorem zbB {o e:E}{a:Nat}{b old:List UInt8}(h:evE (CX n cl) e l J = .ok (.bytes b) J)(h1:evE (CX n cl) o l J = .ok (.ref a) J)(h2:J.get a=rc (.ba old))(h3:old.length=b.length/\b.length<=lim):exSs (CX n cl) (.cons (.all o e) ss) l J=exSs (CX n cl) ss l (J.set a (.ba b)):=bnd ((bnd h).trans ((bnd h1).trans (bnd ((bnd (rdE h2)).trans (bnd (gdE (dc h3)))))):exS (CX n cl) (.all o e) l J = .ok (.next,l) (J.set a (.ba b)))
theorem zbC {o e:E}{f a c d:Nat}{op:BOp}{old v w:V}{fs:List (Nat×V)}(h:evE (CX n cl) o l J = .ok (.ref a) J)(h1:J.get a=rc (.inst c d))(hf:iI c f=rg)(h2:J.get d=rc (.ns fs))(h3:af f fs=rc old)(h4:evE (CX n cl) e l J = .ok v J)(h5:kB op old v J = .ok w J)(h6:decide (fs.length<=100)=rg):
  exSs (CX n cl) (.cons (.augAttr o f op e) ss) l J=exSs (CX n cl) ss l (J.set d (.ns (aJ f w fs))):=bnd ((bnd h).trans ((bnd (ga h1 hf h2 h3)).trans ((bnd h4).trans ((bnd h5).trans ((bnd (sa h1 hf h2 h6)).trans rfl)))):exS (CX n cl) (.augAttr o f op e) l J = .ok (.next,l) (J.set d (.ns (aJ f w fs))))
theorem za1 {o i e:E}{op:BOp}{x y old v w:V}(h:evE (CX n cl) o l J = .ok x J)(h1:evE (CX n cl) i l J = .ok y J)(h3:cg x y J = .ok old J)(h4:evE (CX n cl) e l J = .ok v J)(h5:kB op old v J = .ok w J)(h6:cG x y w J = .ok () J1):
  exSs (CX n cl) (.cons (.augIdx o i op e) ss) l J=exSs (CX n cl) ss l J1:=bnd ((bnd h).trans ((bnd h1).trans ((bnd h3).trans ((bnd h4).trans ((bnd h5).trans ((bnd h6).trans rfl))))):exS (CX n cl) (.augIdx o i op e) l J = .ok (.next,l) J1)
theorem zbD {o i:E}{x y:V}(h:evE (CX n cl) o l J = .ok x J)(h1:evE (CX n cl) i l J = .ok y J)(h3:i5 x y J = .ok () J1):exSs (CX n cl) (.cons (.del o i) ss) l J=exSs (CX n cl) ss l J1:=bnd ((bnd h).trans ((bnd h1).trans ((bnd h3).trans rfl)):exS (CX n cl) (.del o i) l J = .ok (.next,l) J1)
theorem zbE:exSs (CX n cl) .nil l J = .ok (.next,l) J:=rfl
theorem okE {Y:Type}{r:R Y}{v:Y}:Ok r (λa J'=>a=v/\J'=J)->r = .ok v J:=λh=>by
 obtain⟨_,_,e,rfl,rfl⟩:=h;exact e
theorem aN {c:E}{a b:Ss}(h:evE (CX n cl) c l J = .ok (.bool rg) J1)(k:Ok (exSs (CX n cl) (kh a ss) l J1) Q):Ok (exSs (CX n cl) (.cons (.cond c a b) ss) l J) Q:=.eq (z4v h) k
theorem ak {c:E}{a b:Ss}(h:evE (CX n cl) c l J = .ok (.bool rj) J1)(k:Ok (exSs (CX n cl) (kh b ss) l J1) Q):Ok (exSs (CX n cl) (.cons (.cond c a b) ss) l J) Q:=.eq (z4u h) k
theorem lu {c:E}{a b:Ss}{t:Bool}(h:evE (CX n cl) c l J = .ok (.bool t) J1)(k:t=rg->Ok (exSs (CX n cl) (kh a ss) l J1) Q)(k2:t=rj->Ok (exSs (CX n cl) (kh b ss) l J1) Q):Ok (exSs (CX n cl) (.cons (.cond c a b) ss) l J) Q:=by
 cases t with
 | true=>exact aN h (k rfl)
 | false=>exact ak h (k2 rfl)
theorem aX {e:E}{v:V}(h:evE (CX n cl) e l J = .ok v J1)(q:Q (.ret v,l) J1):Ok (exSs (CX n cl) (.cons (.ret e) ss) l J) Q:=.of (z8I h) q
theorem jU (q:Q (.ret .none,l) J):Ok (exSs (CX n cl) (.cons .ret0 ss) l J) Q:=.of za3 q
theorem aH (q:Q (.next,l) J):Ok (exSs (CX n cl) .nil l J) Q:=.of zbE q
theorem av {e:E}{v:V}(h:evE (CX n cl) e l J = .ok v J1)(k:Ok (exSs (CX n cl) ss l J1) Q):Ok (exSs (CX n cl) (.cons (.expr e) ss) l J) Q:=.eq (za2 h) k
theorem aq {x:Nat}{e:E}{v:V}(h:evE (CX n cl) e l J = .ok v J1)(k:Ok (exSs (CX n cl) ss (l.put x v) J1) Q):Ok (exSs (CX n cl) (.cons (.assign (.loc x) e) ss) l J) Q:=.eq (z6K h) k
theorem eY {o i e:E}{v x y:V}(h:evE (CX n cl) e l J = .ok v J1)(h1:evE (CX n cl) o l J1 = .ok x J1)(h2:evE (CX n cl) i l J1 = .ok y J1)(h3:cG x y v J1 = .ok () J2)(k:Ok (exSs (CX n cl) ss l J2) Q):Ok (exSs (CX n cl) (.cons (.assign (.sub o i) e) ss) l J) Q:=.eq (zbF h h1 h2 h3) k
theorem dC {o e:E}{f:Nat}{v x:V}(h:evE (CX n cl) e l J = .ok v J1)(h1:evE (CX n cl) o l J1 = .ok x J1)(h3:setAttr iI x f v J1 = .ok () J2)(k:Ok (exSs (CX n cl) ss l J2) Q):Ok (exSs (CX n cl) (.cons (.attr o f e) ss) l J) Q:=.eq (za0 h h1 h3) k
theorem nM {o e:E}{a:Nat}{b old:List UInt8}(h:evE (CX n cl) e l J = .ok (.bytes b) J)(h1:evE (CX n cl) o l J = .ok (.ref a) J)(h2:J.get a=rc (.ba old))(h3:old.length=b.length/\b.length<=lim)(k:Ok (exSs (CX n cl) ss l (J.set a (.ba b))) Q):Ok (exSs (CX n cl) (.cons (.all o e) ss) l J) Q:=.eq (zbB h h1 h2 h3) k
theorem eA {o e:E}{f a c d:Nat}{op:BOp}{old v w:V}{fs:List (Nat×V)}(h:evE (CX n cl) o l J = .ok (.ref a) J)(h1:J.get a=rc (.inst c d))(hf:iI c f=rg)(h2:J.get d=rc (.ns fs))(h3:af f fs=rc old)(h4:evE (CX n cl) e l J = .ok v J)(h5:kB op old v J = .ok w J)(h6:decide (fs.length<=100)=rg)(k:Ok (exSs (CX n cl) ss l (J.set d (.ns (aJ f w fs)))) Q):Ok (exSs (CX n cl) (.cons (.augAttr o f op e) ss) l J) Q:=.eq (zbC h h1 hf h2 h3 h4 h5 h6) k
theorem fC {o i e:E}{op:BOp}{x y old v w:V}(h:evE (CX n cl) o l J = .ok x J)(h1:evE (CX n cl) i l J = .ok y J)(h3:cg x y J = .ok old J)(h4:evE (CX n cl) e l J = .ok v J)(h5:kB op old v J = .ok w J)(h6:cG x y w J = .ok () J1)(k:Ok (exSs (CX n cl) ss l J1) Q):Ok (exSs (CX n cl) (.cons (.augIdx o i op e) ss) l J) Q:=.eq (za1 h h1 h3 h4 h5 h6) k
theorem lM {o i:E}{x y:V}(h:evE (CX n cl) o l J = .ok x J)(h1:evE (CX n cl) i l J = .ok y J)(h3:i5 x y J = .ok () J1)(k:Ok (exSs (CX n cl) ss l J1) Q):Ok (exSs (CX n cl) (.cons (.del o i) ss) l J) Q:=.eq (zbD h h1 h3) k
theorem bm {o:E}{m a:Nat}{b:BM}{as:Es}{ob:O}{vs:List V}{v:V}(h:evE (CX n cl) o l J = .ok (.ref a) J1)(h1:J1.get a=rc ob)(h2:gz b ob=rg)(h4:evEs (CX n cl) as l J1 = .ok vs J2)(h5:cp b (.ref a) vs J2 = .ok v J3):evE (CX n cl) (.meth o m (rc b) as) l J = .ok v J3:=(bmI h h1 h2 h4).trans h5
theorem zbn {e:E}(h:Ok (evE (CX n cl) e l J) λv J'=>Q (.ret v,l) J'):Ok (exSs (CX n cl) (.cons (.ret e) ss) l J) Q:=
 by obtain⟨_,_,e1,q⟩:=h;exact .of (z8I e1) q
noncomputable def kj:List Nat->List V->Loc->Loc
 | p:: ps,v:: vs,l=>kj ps vs (l.put p v)
 | _,_,l=>l
theorem z73 {ps:List Nat}:∀ {vs:List V}{l:Loc},qX vs.length ps.length=rg->bx (λ_=>re) ps vs l J = .ok (kj ps vs l) J:=by
 induction ps with
 | nil=>intro vs l h;cases vs with
  | nil=>rfl
  | cons=>cases h
 | cons p ps ih=>intro vs l h;cases vs with
  | nil=>cases h
  | cons v vs=>exact ih (l:=l.put p v) h
theorem dflts {vs ds:List V}{m:Nat}(h:qX vs.length m=rg):bL m vs ds=rc vs:=by
 have e:=oX h;unfold bL;rw[<-e,if_pos ⟨qC _,Nat.le_add_right _ _⟩,Nat.add_sub_cancel_left,List.drop_length,qh]
theorem mR {f:Nat}{ps:List Nat}{ds vs:List V}{b:Ss}(h:Afn f=rc ⟨ps,[],ds,b⟩)(h1:qX vs.length ps.length=rg):al ah (n+1) (.fn f) vs J=(exSs (CX n λ_=>re) b (kj ps vs λ_=>re) >>= λr=>pure (cA r.1)) J:=
 (bnd (lfE h)).trans ((bnd (lfE (dflts h1))).trans ((bnd (a:=λ_=>re) (J1:=J) rfl).trans (bnd (z73 h1))))
theorem jQ {f c:Nat}{ps:List Nat}{ds vs:List V}{b:Ss}(h:Afn f=rc ⟨ps,[],ds,b⟩)(h1:qX vs.length ps.length=rg)(k:exSs (CX n λ_=>re) b (kj ps vs λ_=>re) J = .exc c J1):al ah (n+1) (.fn f) vs J = .exc c J1:=by
 rw[mR h h1];show M.bind _ _ J=_;unfold M.bind;rw[k]
theorem bc {f:Nat}{ps:List Nat}{ds vs:List V}{b:Ss}{Q:V->MH->Prop}(h:Afn f=rc ⟨ps,[],ds,b⟩)(h1:qX vs.length ps.length=rg)(k:Ok (exSs (CX n λ_=>re) b (kj ps vs λ_=>re) J) λr J'=>Q (cA r.1) J'):Ok (al ah (n+1) (.fn f) vs J) Q:=
 by obtain⟨_,_,e1,q⟩:=k;exact .of ((mR h h1).trans ((bnd e1).trans rfl)) q
theorem fx {f:Nat}{ps:List Nat}{ds vs:List V}{b:Ss}{v:V}(h:Afn f=rc ⟨ps,[],ds,b⟩)(h1:qX vs.length ps.length=rg)(k:Ok (exSs (CX n λ_=>re) b (kj ps vs λ_=>re) J) λr J'=>cA r.1=v/\J'=J):al ah (n+1) (.fn f) vs J = .ok v J:=okE (bc h h1 k)
theorem df {p:Prop} [Decidable p](h:¬p):decide p=false:=decide_eq_false h
theorem bT {a b:Int}(h:a=b):(a==b)=true:=beq_iff_eq.mpr h
theorem bF {a b:Int}(h:a≠b):(a==b)=false:=beq_eq_false_iff_ne.mpr h
end
end
local macro_rules | `(tactic| kst_p)=>do let f (s:String)(r:Lean.TSyntax `tactic):Lean.MacroM (Lean.TSyntax `tactic):=(s.splitOn " ").foldrM (λn r=>`(tactic| first | apply $(Lean.mkIdent (.mkSimple n)) | $r:tactic)) r;let r<-f "ag aM bu z59 aA a8 aI ax aW lZ mP zak dK bM jR zcC il f7 zbO eV aB iQ aV z5a jl aS bm aC aa cM dJ mN mM zae zad z3I z8Y iz eJ kL z3J zaf zaV fK gS ck lU z3E" (<-`(tactic| first | (apply z9e <;> assumption) | (apply z9d <;> assumption) | $(<-f "l9 lf eM" (<-`(tactic| apply mY))):tactic));`(tactic| focus ((repeat' first | assumption | (with_reducible $r:tactic) | $(<-f "rfl dc df bT bF" (<-`(tactic| omega))):tactic);done))
section
structure St where
 row:List Int
 dat:Int->List UInt8
 hold:Int->Int
 grp:List Int
 dsk:Int->List UInt8
 hits:Int
 reads:Int
 writes:Int
 flushes:Int
 calls:Int
noncomputable abbrev St.wCalls (s:St)(x:Int):St:={ s with calls:=x }
noncomputable abbrev St.wDat (s:St)(x:Int->List UInt8):St:={ s with dat:=x }
noncomputable abbrev St.wDsk (s:St)(x:Int->List UInt8):St:={ s with dsk:=x }
noncomputable abbrev St.wFlushes (s:St)(x:Int):St:={ s with flushes:=x }
noncomputable abbrev St.wGrp (s:St)(x:List Int):St:={ s with grp:=x }
noncomputable abbrev St.wHits (s:St)(x:Int):St:={ s with hits:=x }
noncomputable abbrev St.wHold (s:St)(x:Int->Int):St:={ s with hold:=x }
noncomputable abbrev St.wReads (s:St)(x:Int):St:={ s with reads:=x }
noncomputable abbrev St.wRow (s:St)(x:List Int):St:={ s with row:=x }
noncomputable abbrev St.wWrites (s:St)(x:Int):St:={ s with writes:=x }
structure Fx where
 disk:Nat
 dns:Nat
 dkept:Nat
 dlat:Nat
 cache:Nat
 cns:Nat
 crow:Nat
 cbn:Nat
 jr:Nat
 jns:Nat
structure Cv where
 dunf:Nat
 jnum:Nat
 jnot:Nat
 ai:Int->Nat
 an:Int->Nat
 ad:Int->Nat
 ekept:List (Int×V)
 elat:List (Int×V)
 ebn:List (Int×V)
 enot:List (Int×V)
 unf:List V
 pin:Int->Int
 dwr:Int
 com:Int
noncomputable abbrev Cv.wAd (c:Cv)(x:Int->Nat):Cv:={ c with ad:=x }
noncomputable abbrev Cv.wAi (c:Cv)(x:Int->Nat):Cv:={ c with ai:=x }
noncomputable abbrev Cv.wAn (c:Cv)(x:Int->Nat):Cv:={ c with an:=x }
noncomputable abbrev Cv.wDunf (c:Cv)(x:Nat):Cv:={ c with dunf:=x }
noncomputable abbrev Cv.wDwr (c:Cv)(x:Int):Cv:={ c with dwr:=x }
noncomputable abbrev Cv.wEbn (c:Cv)(x:List (Int×V)):Cv:={ c with ebn:=x }
noncomputable abbrev Cv.wEkept (c:Cv)(x:List (Int×V)):Cv:={ c with ekept:=x }
noncomputable abbrev Cv.wElat (c:Cv)(x:List (Int×V)):Cv:={ c with elat:=x }
noncomputable abbrev Cv.wPin (c:Cv)(x:Int->Int):Cv:={ c with pin:=x }
noncomputable abbrev Cv.wUnf (c:Cv)(x:List V):Cv:={ c with unf:=x }
noncomputable def up {Y:Type}(f:Int->Y)(k:Int)(v:Y):Int->Y:=λj=>if j=k then v else f j
theorem be {Y:Type}(f:Int->Y)(k:Int)(v:Y):up f k v k=v:=if_pos rfl
theorem aY {Y:Type}{f:Int->Y}{k j:Int}{v:Y}(h:j≠k):up f k v j=f j:=if_neg h
noncomputable def bFL (d:Nat)(k h p:Int):List (Nat×V):=[(16,.int k),(88,.ref d),(89,.int h),(90,.int p)]
noncomputable def bO (d:Nat)(k h p:Int):O:=.ns (bFL d k h p)
noncomputable def je (i a d:Nat)(k h p:Int)(o:List UInt8):List (Nat×O):=[(i,.inst 6 a),(a,bO d k h p),(d,.ba o)]
noncomputable def buf (c:Cv)(s:St)(k:Int):List (Nat×O):=je (c.ai k) (c.an k) (c.ad k) k (s.hold k) (c.pin k) (s.dat k)
noncomputable def dFL (x:Fx)(c:Cv)(s:St):List (Nat×V):=[(60,.int 12),(2,.int 16),(34,.ref x.dkept),(95,.ref x.dlat),(58,.ref c.dunf),(29,.int c.dwr),(31,.int s.flushes),(96,.none),(97,.none),(98,.bool rj)]
noncomputable def dO (x:Fx)(c:Cv)(s:St):O:=.ns (dFL x c s)
noncomputable def cFL (x:Fx)(s:St):List (Nat×V):=[(26,.ref x.disk),(12,.int 8),(2,.int 16),(18,.ref x.crow),(91,.ref x.cbn),(19,.int s.hits),(27,.int s.reads),(29,.int s.writes)]
noncomputable def cO (x:Fx)(s:St):O:=.ns (cFL x s)
noncomputable def jFL (x:Fx)(c:Cv)(s:St):List (Nat×V):=[(35,.ref x.cache),(59,.int 1),(2,.int 4),(62,.int 3),(12,.int 3),(64,.int 1),(1,.ref c.jnum),(66,.ref c.jnot),(44,.int s.calls),(67,.int c.com)]
noncomputable def jO (x:Fx)(c:Cv)(s:St):O:=.ns (jFL x c s)
noncomputable def LCh (x:Fx)(c:Cv)(s:St):List (Nat×O):=[(x.disk,.inst 8 x.dns),(x.dns,dO x c s),
 (x.dkept,.dct c.ekept),(x.dlat,.dct c.elat),(c.dunf,.lst c.unf),(x.cache,.inst 7 x.cns),(x.cns,cO x s),
 (x.crow,.lst (s.row.map λk=>.ref (c.ai k))),(x.cbn,.dct c.ebn),(x.jr,.inst 5 x.jns),(x.jns,jO x c s),
 (c.jnum,.lst (s.grp.map V.int)),(c.jnot,.dct c.enot)]
noncomputable def LC (x:Fx)(c:Cv)(s:St)(F:List (Nat×O)):List (Nat×O):=LCh x c s++(s.row.flatMap (buf c s)++F)
noncomputable def CN (x:Fx)(c:Cv)(s:St)(F:List (Nat×O)):V->MH->Prop:=λv J'=>v = .none/\Rr J' (LC x c s F)
theorem kE {x:Fx}{c:Cv}{s:St}{F:List (Nat×O)}{k:Int}{p:Nat×O}(hk:k∈s.row)(h:p∈buf c s k):p∈LC x c s F:=
 ph _ (pz _ (List.mem_flatMap.mpr ⟨k,hk,h⟩))
variable {x:Fx}{c:Cv}{s:St}{F:List (Nat×O)}{k:Int}{J:MH}{n:Nat}{cl:Nat->Option Nat}{l:Loc}
theorem b_i (h:Rr J (LC x c s F))(hk:k∈s.row):J.get (c.ai k)=rc (.inst 6 (c.an k)):=h.mem (kE hk (.head _))
theorem b_n (h:Rr J (LC x c s F))(hk:k∈s.row):J.get (c.an k)=rc (bO (c.ad k) k (s.hold k) (c.pin k)):=h.mem (kE hk (.tail _ (.head _)))
theorem b_d (h:Rr J (LC x c s F))(hk:k∈s.row):J.get (c.ad k)=rc (.ba (s.dat k)):=h.mem (kE hk (.tail _ (.tail _ (.head _))))
theorem z27 {Y:Type}:∀ {row:List Int},k∈row->row.Nodup->∃ A B:List Int,k∉A/\k∉B/\row=A++k:: B
 | j:: r,m,nd=>by
  obtain⟨n1,n2⟩:=List.nodup_cons.mp nd;by_cases e:k=j
  ·subst e;exact⟨[],r,(λq=>nomatch q),n1,rfl⟩
  ·obtain⟨A,B,a,b,q⟩:=z27 (Y:=Y) ((List.mem_cons.mp m).resolve_left e) n2
   exact⟨j:: A,B,(λw=>(List.mem_cons.mp w).elim e a),b,congrArg (j:: ·) q⟩
theorem ju {Y:Type}{f g:Int->List Y}{A:List Int}(h:∀ j,j∈A->f j=g j):A.flatMap f=A.flatMap g:=by
 induction A with
 | nil=>rfl
 | cons j r ih=>rw[pQ,pQ,h j (.head _),ih λi m=>h i (.tail _ m)]
theorem ng {c':Cv}{s':St}{a:Nat}{o o':O}(h:Rr J (LC x c s F))(hk:k∈s.row)(nd:s.row.Nodup)(e1:LCh x c' s'=LCh x c s)(e2:s'.row=s.row)(e3:∀ j,j≠k->buf c' s' j=buf c s j)(i:Nat)(e4:(buf c s k)[i]? = rc (a,o))(e5:buf c' s' k=(buf c s k).set i (a,o')):Rr (J.set a o') (LC x c' s' F):=by
 obtain⟨A,B,na,nb,er⟩:=z27 (Y:=Nat×O) hk nd;obtain⟨U9,W,q1,q2⟩:=io e4;unfold LC at h ⊢
 rw[e1,e2];rw[er] at h ⊢
 rw[List.flatMap_append,pQ,q1] at h
 rw[List.flatMap_append,pQ,e5,q2,ju (f:=buf c' s') (g:=buf c s) (λj m=>e3 j λq=>na (q▸m)),ju (f:=buf c' s') (g:=buf c s) (A:=B) (λj m=>e3 j λq=>nb (q▸m))];have q:∀ y,LCh x c s++(A.flatMap (buf c s)++(U9++y:: W++B.flatMap (buf c s))++F)=(LCh x c s++(A.flatMap (buf c s)++U9))++y:: (W++B.flatMap (buf c s)++F):=λy=>by simp only[pK,List.cons_append]
 rw[q] at h ⊢
 exact h.mid o'
noncomputable def St.setHold (s:St)(k v:Int):St:=(s.wHold (up s.hold k v))
noncomputable def St.setDat (s:St)(k:Int)(v:List UInt8):St:=(s.wDat (up s.dat k v))
noncomputable def Cv.setPin (c:Cv)(k v:Int):Cv:=(c.wPin (up c.pin k v))
theorem setHold (h:Rr J (LC x c s F))(hk:k∈s.row)(nd:s.row.Nodup)(v:Int):Rr (J.set (c.an k) (bO (c.ad k) k v (c.pin k))) (LC x c (s.setHold k v) F):=
 ng h hk nd rfl rfl (λj ne=>congrArg (λv=>je (c.ai j) (c.an j) (c.ad j) j v (c.pin j) (s.dat j)) (aY ne)) 1 rfl (congrArg (λv=>je (c.ai k) (c.an k) (c.ad k) k v (c.pin k) (s.dat k)) (be ..))
theorem setPin (h:Rr J (LC x c s F))(hk:k∈s.row)(nd:s.row.Nodup)(v:Int):Rr (J.set (c.an k) (bO (c.ad k) k (s.hold k) v)) (LC x (c.setPin k v) s F):=
 ng h hk nd rfl rfl (λj ne=>congrArg (λv=>je (c.ai j) (c.an j) (c.ad j) j (s.hold j) v (s.dat j)) (aY ne)) 1 rfl (congrArg (λv=>je (c.ai k) (c.an k) (c.ad k) k (s.hold k) v (s.dat k)) (be ..))
theorem setDat (h:Rr J (LC x c s F))(hk:k∈s.row)(nd:s.row.Nodup)(v:List UInt8):Rr (J.set (c.ad k) (.ba v)) (LC x c (s.setDat k v) F):=
 ng h hk nd rfl rfl (λj ne=>congrArg (λv=>je (c.ai j) (c.an j) (c.ad j) j (s.hold j) (c.pin j) v) (aY ne)) 2 rfl (congrArg (λv=>je (c.ai k) (c.an k) (c.ad k) k (s.hold k) (c.pin k) v) (be ..))
theorem atC (h:Rr J (LC x c s F)):J.get x.cache=rc (.inst 7 x.cns)/\J.get x.cns=rc (cO x s):=⟨h.at 5 rfl,h.at 6 rfl⟩
theorem atD (h:Rr J (LC x c s F)):J.get x.disk=rc (.inst 8 x.dns)/\J.get x.dns=rc (dO x c s):=⟨h.at 0 rfl,h.at 1 rfl⟩
theorem atJ (h:Rr J (LC x c s F)):J.get x.jr=rc (.inst 5 x.jns)/\J.get x.jns=rc (jO x c s):=⟨h.at 9 rfl,h.at 10 rfl⟩
theorem atB (h:Rr J (LC x c s F))(hk:k∈s.row):J.get (c.ai k)=rc (.inst 6 (c.an k))/\J.get (c.an k)=rc (bO (c.ad k) k (s.hold k) (c.pin k))/\J.get (c.ad k)=rc (.ba (s.dat k)):=⟨b_i h hk,b_n h hk,b_d h hk⟩
theorem z4O (h:Rr J (LC x c s F))(h1:0<=k)(h2:k<12):al ah (n+1) (.fn 34) [.ref x.cache,.int k] J = .ok .none J:=by
 have:=(atC h).1;have:=(atC h).2;have:=(atD h).1;have:=(atD h).2;refine fx rfl rfl ?_;apply ak;kst_p;exact aH ⟨rfl,rfl⟩
theorem z1e (h:Rr J (LC x c s F))(h1:0<=k)(h2:k<12):al ah (n+1) (.fn 50) [.ref x.disk,.int k] J = .ok .none J:=by
 have:=(atD h).1;have:=(atD h).2;refine fx rfl rfl ?_;apply ak;kst_p;exact aH ⟨rfl,rfl⟩
theorem gK (h:Rr J (LC x c s F)):al ah (n+1) (.fn 49) [.ref x.disk] J = .ok .none J:=by
 have:=(atD h).1;have:=(atD h).2;refine fx rfl rfl ?_;apply ak;kst_p;exact aH ⟨rfl,rfl⟩
theorem z95 (h:Rr J (LC x c s F))(hk:k∈s.row):al ah (n+1) (.fn 30) [.ref (c.ai k)] J = .ok (.bool (s.hold k==0&&c.pin k==0)) J:=by
 have:=(atB h hk).1;have:=(atB h hk).2.1;have:=(atB h hk).2.2;refine fx rfl rfl ?_;apply aX;kst_p;exact⟨rfl,rfl⟩
theorem mr (h:Rr J (LC x c s F))(hk:k∈s.row)(hl:(s.dat k).length<=lim):al ah (n+1) (.fn 31) [.ref (c.ai k)] J = .ok (.bytes (s.dat k)) J:=by
 have:=(atB h hk).1;have:=(atB h hk).2.1;have:=(atB h hk).2.2;refine fx rfl rfl ?_;apply aX;kst_p;exact⟨rfl,rfl⟩
theorem fU (h:Rr J (LC x c s F))(hk:k∈s.row)(hb:af k c.ebn=rc (.ref (c.ai k)))(hh:s.hold k≠0):al ah (n+1) (.fn 35) [.ref x.cache,.ref (c.ai k)] J = .ok .none J:=by
 have:=(atB h hk).1;have:=(atB h hk).2.1;have:=(atB h hk).2.2;have:=(atC h).1;have:=(atC h).2;have:=h.at 8 rfl
 refine fx rfl rfl ?_;apply ak;kst_p;exact aH ⟨rfl,rfl⟩
end
section
variable {x:Fx}{c:Cv}{s:St}{F:List (Nat×O)}{k:Int}{J:MH}{n:Nat}
theorem Ok.ab {cx:Cx}{ss:Ss}{l:Loc}{Q:Fl×Loc->MH->Prop}{L:List (Nat×O)}(h:Rr J L)(k:∀ J',Rr J' L->Ok (exSs cx ss l J') Q):Ok (exSs cx ss l J) Q:=k _ h
theorem aU {v:V}{j:Int}:∀ {es:List (Int×V)},af j (aJ k v es)=if j=k then rc v else af j es
 | []=>by
  show(if k=j then rc v else re)=_;by_cases e:j=k
  ·rw[if_pos e,if_pos e.symm]
  ·rw[if_neg e,if_neg (qY e)];rfl
 | (i,w):: r=>by
  show af j (if i=k then(i,v):: r else(i,w):: aJ k v r)=if j=k then rc v else if i=j then rc w else af j r
  by_cases e:i=k
  ·rw[if_pos e]
   show(if i=j then rc v else af j r)=_;by_cases e2:j=k
   ·rw[if_pos e2,if_pos (e.trans e2.symm)]
   ·rw[if_neg e2,if_neg λq=>e2 (q.symm.trans e),if_neg λq=>e2 (q.symm.trans e)]
  ·rw[if_neg e]
   show(if i=j then rc w else af j (aJ k v r))=_;rw[aU];by_cases e2:j=k
   ·rw[if_pos e2,if_neg λq=>e (q.trans e2),if_pos e2]
   ·rw[if_neg e2,if_neg e2]
theorem j9 {j:Int}:∀ {es:List (Int×V)},j∉es.map (·.1)->af j es=re
 | []=>λ_=>rfl
 | (i,w):: r=>by
  intro h;show(if i=j then rc w else af j r)=re;rw[if_neg λ(e:i=j)=>h (e▸pH),j9 λm=>h (.tail _ m)]
theorem eG {j:Int}:∀ {es:List (Int×V)},(es.map (·.1)).Nodup->af j (bR k es)=if j=k then re else af j es
 | []=>by
  intro _;show re=if j=k then re else re
  rw[ite_self]
 | (i,w):: r=>by
  intro nd;obtain⟨n1,n2⟩:=List.nodup_cons.mp nd;show af j (if i=k then r else(i,w):: bR k r)=if j=k then re else if i=j then rc w else af j r
  by_cases e:i=k
  ·rw[if_pos e]
   by_cases e2:j=k
   ·rw[if_pos e2,e2,<-e];exact j9 n1
   ·rw[if_neg e2,if_neg λq=>e2 (q.symm.trans e)]
  ·rw[if_neg e]
   show(if i=j then rc w else af j (bR k r))=_;rw[eG n2];by_cases e2:j=k
   ·rw[if_pos e2,if_neg λq=>e (q.trans e2),if_pos e2]
   ·rw[if_neg e2,if_neg e2]
noncomputable def Ks (es:List (Int×V)):Prop:=(es.map (·.1)).Nodup/\∀ j,j∈es.map (·.1)->0<=j/\j<12
theorem jG {v:V}{j:Int}:∀ {es:List (Int×V)},j∈(aJ k v es).map (·.1)->j=k∨j∈es.map (·.1)
 | []=>λh=>.inl (List.mem_singleton.mp h)
 | (i,w):: r=>by
  intro h;revert h;show j∈(if i=k then(i,v):: r else(i,w):: aJ k v r).map (·.1)->_;by_cases e:i=k
  ·rw[if_pos e];exact .inr
  ·rw[if_neg e];intro h
   rcases List.mem_cons.mp h with h | h
   ·exact .inr (h▸.head _)
   ·exact(jG h).imp_right (.tail _)
theorem z5r {v:V}:∀ {es:List (Int×V)},(es.map (·.1)).Nodup->((aJ k v es).map (·.1)).Nodup
 | []=>λ_=>List.nodup_cons.mpr ⟨(λm=>nomatch m),.nil⟩
 | (i,w):: r=>by
  intro nd;obtain⟨n1,n2⟩:=List.nodup_cons.mp nd;show((if i=k then(i,v):: r else(i,w):: aJ k v r).map (·.1)).Nodup;by_cases e:i=k
  ·rw[if_pos e];exact nd
  ·rw[if_neg e];exact List.nodup_cons.mpr ⟨λm=>(jG m).elim e n1,z5r n2⟩
theorem jZ:∀ {es:List (Int×V)},(bR k es).Sublist es
 | []=>.slnil
 | (i,w):: r=>by
  show(if i=k then r else(i,w):: bR k r).Sublist _;by_cases e:i=k
  ·rw[if_pos e];exact oW _ _
  ·rw[if_neg e];exact jZ.cons_cons _
theorem Ks.put {es:List (Int×V)}{v:V}(h:Ks es)(h1:0<=k)(h2:k<12):Ks (aJ k v es):=⟨z5r h.1,λj m=>(jG m).elim (λe=>e▸⟨h1,h2⟩) (h.2 j)⟩
theorem Ks.del {es:List (Int×V)}(h:Ks es):Ks (bR k es):=⟨h.1.sublist (jZ.map _),λj m=>h.2 j ((jZ.map _).subset m)⟩
noncomputable def bg:List Int:=[0,1,2,3,4,5,6,7,8,9,10,11]
theorem z4q {l:List Int}{j:Int}{m:Nat}(q:((List.range m).all λi=>decide ((i:Int)∈l))=rg)(h:0<=j/\j<m):j∈l:=by
 have e:(j.toNat:Int)=j:=Int.toNat_of_nonneg h.1;rw[<-e];exact of_decide_eq_true (List.all_eq_true.mp q _ (List.mem_range.mpr ((Int.toNat_lt h.1).mpr h.2)))
theorem dZ {j:Int}(h:0<=j/\j<12):j∈bg:=z4q (m:=12) (by decide) h
theorem z5o {Y:Type}{ns:List Y}(h:ns.length<=3):(ns.length:Int)∈bg:=dZ ⟨Int.natCast_nonneg _,Int.ofNat_lt.mpr (pJ h (by decide:3<12))⟩
theorem Ks.len {es:List (Int×V)}(h:Ks es):es.length<=12:=by
 have:=List.Nodup.length_le_of_subset h.1 λj m=>dZ (h.2 j m)
 rw[qg] at this;exact this
theorem zat {m:Nat}(h:m<=12):m<=lim:=qt h (by decide)
theorem Ks.lim {es:List (Int×V)}(h:Ks es):es.length<=lim:=zat h.len
theorem Ks.nil:Ks []:=⟨.nil,λ_ m=>absurd m pZ⟩
noncomputable def bz:List UInt8:=qi 16 0
structure COk (c:Cv)(s:St):Prop where
 bn:∀ k,af k c.ebn=if k∈s.row then rc (.ref (c.ai k)) else re
 bk:Ks c.ebn
 la:∀ k,(af k c.elat).getD (.bytes bz) = .bytes (s.dsk k)
 lk:Ks c.elat
 kk:Ks c.ekept
 nt:∀ k,(af k c.enot).isSome=decide (k∈s.grp)
 nk:Ks c.enot
 pn:∀ k,c.pin k=if k∈s.grp then 1 else 0
 uf:∀ v,v∈c.unf->∃ k o,v = .t2 (.int k) (.bytes o)/\0<=k/\k<12
 ul:c.unf.length<=12
structure Inv (s:St):Prop where
 nd:s.row.Nodup
 le:s.row.length<=8
 bd:∀ k,k∈s.row->0<=k/\k<12
 dl:∀ k,k∈s.row->(s.dat k).length=16
 dk:∀ k,(s.dsk k).length=16
 hp:∀ k,0<=s.hold k
 hr:∀ k,s.hold k≠0->k∈s.row
 gr:∀ k,k∈s.grp->k∈s.row
 gl:s.grp.length<=3
 gn:s.grp.Nodup
 go:∀ k,k∈s.grp->¬(1<=k/\k<=4)
noncomputable def Cap (m:Nat)(s:St):Prop:=∃ hl:List Int,hl.length<=m/\∀ k,s.hold k≠0->k∈hl
theorem COk.here (C:COk c s)(h:k∈s.row):af k c.ebn=rc (.ref (c.ai k)):=(C.bn k).trans (if_pos h)
theorem COk.gone (C:COk c s)(h:k∉s.row):af k c.ebn=none:=(C.bn k).trans (if_neg h)
theorem z6U (h:Rr J (LC x c s F)){j:Int}(hj:j∈s.row)(hk:k∈s.row)(e:c.ai j=c.ai k):j=k:=by
 have q1:=b_i h hj;rw[e,b_i h hk] at q1
 have q2:c.an k=c.an j:=by injection q1 with q;injection q
 have q3:=b_n h hj;rw[<-q2,b_n h hk] at q3
 injection q3 with q3;injection q3 with q3;injection q3 with q3;injection q3 with _ q3;injection q3 with q3;exact q3.symm
theorem jt {ai an:Int->Nat}:∀ {r:List Int},k∈r->(∀ j,j∈r->J.get (ai j)=rc (.inst 6 (an j)))->(∀ j,j∈r->ai j=ai k->j=k)->
  ∃ i,kr J (.ref (ai k)) (r.map λj=>.ref (ai j))=rc i/\(r.map λj=>V.ref (ai j)).eraseIdx i=(r.erase k).map λj=>V.ref (ai j)
 | j:: r,hk,hi,inj=>by
  by_cases e:j=k
  ·subst e
   refine⟨0,?_,by rw[List.erase_cons_head];rfl⟩;show(match qX (ai j) (ai j) with | true=>rc 0 | false=>(match J.instAt (ai j)&&J.instAt (ai j) with | true=>(jp J (ai j) (r.map λj=>.ref (ai j))).map Nat.succ | false=>re))=rc 0;rw[Nat.beq_refl]
  ·have hk':k∈r:=(List.mem_cons.mp hk).resolve_left λq=>e q.symm
   refine el12 (jt hk' (λi m=>hi i (.tail _ m)) (λi m=>inj i (.tail _ m))) λi q1 q2=>?_
   refine⟨i+1,?_,?_⟩
   ·show(match qX (ai j) (ai k) with | true=>rc 0 | false=>(match J.instAt (ai k)&&J.instAt (ai j) with | true=>(jp J (ai k) (r.map λj=>.ref (ai j))).map Nat.succ | false=>re))=_
    have b:qX (ai j) (ai k)=false:=Bool.eq_false_iff.mpr λq=>e (inj j (.head _) (oX q))
    have u:(J.instAt (ai k)&&J.instAt (ai j))=true:=by
     unfold MH.instAt;rw[hi j (.head _),hi k hk];rfl
    have q1':jp J (ai k) (r.map λj=>.ref (ai j))=rc i:=q1;simp only[b,u,q1'];rfl
   ·rw[List.erase_cons_tail (by simpa using e)]
    exact congrArg (V.ref (ai j):: ·) q2
theorem jq:∀ {r:List Int},k∈r->∃ i,kr J (.int k) (r.map V.int)=rc i/\(r.map V.int).eraseIdx i=(r.erase k).map V.int
 | j:: r,hk=>by
  by_cases e:j=k
  ·subst e
   refine⟨0,?_,by rw[List.erase_cons_head];rfl⟩;exact if_pos rfl
  ·have hk':k∈r:=(List.mem_cons.mp hk).resolve_left λq=>e q.symm
   obtain⟨i,q1,q2⟩:=jq hk';have q1':kq k (r.map V.int)=rc i:=q1;refine⟨i+1,?_,by rw[List.erase_cons_tail (by simpa using e)];exact congrArg (V.int j:: ·) q2⟩;show(if j=k then rc 0 else(kq k (r.map V.int)).map Nat.succ)=_;rw[if_neg e,q1'];rfl
noncomputable def St.setRow (s:St)(r:List Int):St:=(s.wRow r)
theorem z9q {r:List Int}{c':Cv}(h:Rr J (LCh x c' (s.setRow r)++(s.row.flatMap (buf c s)++F)))(p:s.row.Perm r):Rr J (LCh x c' (s.setRow r)++(r.flatMap (buf c s)++F)):=h.perm (((p.flatMap_right _).append_right F).append_left _)
theorem z9p {r:List Int}{c':Cv}(h:Rr J (LCh x c' (s.setRow r)++(s.row.flatMap (buf c s)++F)))(p:s.row.Perm (k:: r)):Rr J (LCh x c' (s.setRow r)++(r.flatMap (buf c s)++F)):=(h.perm (((p.flatMap_right _).append_right F).append_left _)).sub (((by rw[pQ];exact List.sublist_append_right _ _:(r.flatMap (buf c s)).Sublist ((k:: r).flatMap (buf c s))).append_right F).append_left _)
noncomputable def St.letGo (k:Int)(s:St):St:=if s.hold k=1 then(s.setHold k (s.hold k-1)).setRow (s.row.erase k++[k]) else s.setHold k (s.hold k-1)
theorem release (h:Rr J (LC x c s F))(hk:k∈s.row)(nd:s.row.Nodup)(hl:s.row.length<=8)(C:COk c s)(hh:s.hold k≠0):
  Ok (al ah (n+2) (.fn 38) [.ref x.cache,.ref (c.ai k)] J) (CN x c (s.letGo k) F):=by
 have:=(atB h hk).1;have:=(atB h hk).2.1;have:=(atB h hk).2.2;have:=(atC h).1;have:=(atC h).2;have:=fU (n:=n) h hk (C.here hk) hh;refine bc rfl rfl ?_;apply av;kst_p;apply eA;iterate 8 kst_p
 refine Ok.ab (setHold h hk nd _) λJ1 h1=>?_
 have:=(atB h1 hk).1;have:=(atB h1 hk).2.1;have:=(atB h1 hk).2.2;have:=(atC h1).1;have:=(atC h1).2;apply lu;kst_p
 ·intro e
  have e1:s.hold k=1:=by have:up s.hold k (s.hold k-1) k=0:=beq_iff_eq.mp e;rw[be] at this;exact Int.eq_of_sub_eq_zero this
  have h7:=h1.at 7 rfl
  refine el12 (jt (J:=J1) (ai:=c.ai) (an:=c.an) (r:=(s.setHold k (s.hold k-1)).row) hk (λj m=>b_i h1 m) (λj m=>z6U h1 m hk)) λi f1 f2=>?_
  apply av
  ·apply bm;kst_p;exact h7;rfl;kst_p;exact fS h7 (zat (by rw[qg];exact qt hl (by decide))) f1
  refine Ok.ab (h1.set 7 rfl) λJ2 h2=>?_
  have⟨_,_⟩:J2.get x.cache=_/\J2.get x.cns=_:=⟨h2.at 5 rfl,h2.at 6 rfl⟩
  apply av
  ·apply bm;kst_p;exact h2.at 7 rfl;rfl;kst_p;refine cm (h2.at 7 rfl) ?_;rw[f2,qg];exact pJ (qt List.length_erase_le hl) (by decide)
  refine aH ⟨rfl,?_⟩;have h3:=h2.set 7 rfl (o':=.lst ((s.row.erase k++[k]).map λj=>.ref (c.ai j)));rw[f2,show(((s.setHold k (s.hold k-1)).row.erase k).map (λj=>V.ref (c.ai j))++[.ref (c.ai k)])=(s.row.erase k++[k]).map λj=>.ref (c.ai j) from by simp only[List.map_append];rfl];unfold St.letGo;rw[if_pos e1];exact z9q (s:=s.setHold k (s.hold k-1)) (c':=c) h3 ((List.perm_cons_erase hk).trans (List.perm_append_singleton k _).symm)
 ·intro e
  refine aH ⟨rfl,?_⟩;unfold St.letGo;rw[if_neg]
  ·exact h1
  ·intro q
   have:(s.hold k-1==0)=false:=(congrArg (· == 0) (be s.hold k (s.hold k-1))).symm.trans e;replace this:=q▸this;cases this
end
section
theorem z45 {J:MH}{a:Nat}{xs:List V}(h:J.get a=rc (.lst xs)):J.lstAt a xs.length=rc xs:=by
 unfold MH.lstAt;rw[h];show(match qX xs.length xs.length with | true=>rc xs | false=>re)=_;rw[Nat.beq_refl]
noncomputable def Lp (I:Loc->MH->Prop)(Q:Fl×Loc->MH->Prop):Fl×Loc->MH->Prop
 | (.next,l),J=>I l J
 | (.ret v,l),J=>Q (.ret v,l) J
theorem Lp.up {I N:Loc->MH->Prop}{Q:Fl×Loc->MH->Prop}{r:Fl×Loc}{J:MH}:Lp I Q r J->Lp I (Lp N Q) r J:=by
 obtain⟨f,l⟩:=r;cases f <;> exact id
noncomputable def itV (en:Bool)(k:Nat)(y:V):V:=match en with | true=>.t2 (.int (qK k)) y | false=>y
theorem z5l {J:MH}{a k:Nat}{xs:List V}{y:V}{en:Bool}{it:List V}(h:J.get a=rc (.lst xs))(e:xs[k]? = rc y):It.item ⟨it,rc (a,xs.length,en)⟩ (.int (qK k)) J = .ok (itV en k y) J:=by
 show(match J.lstAt a xs.length with | some ys=>_ | none=>_)=_;rw[z45 h];show(match xs[k]? with | some y=>_ | none=>_)=_;rw[e];rfl
theorem z5z {J:MH}{a:Nat}{xs:List V}{en:Bool}{it:List V}(h:J.get a=rc (.lst xs)):It.stop ⟨it,rc (a,xs.length,en)⟩ J = .ok () J:=by
 show(match J.lstAt a xs.length with | some _=>_ | none=>_)=_;rw[z45 h]
theorem z7z {I:Nat->Loc->MH->Prop}{Q:Fl×Loc->MH->Prop}{a:Nat}{xs:List V}{en:Bool}{it:List V}{turn:V->Loc->M (Fl×Loc)}(hx:∀ k l J,I k l J->J.get a=rc (.lst xs))
  (hs:∀ k y l J,xs[k]? = rc y->I k l J->Ok (turn (itV en k y) l J) (Lp (I (k+1)) Q))(he:∀ l J,I xs.length l J->Q (.next,l) J):∀ (m k:Nat)(l:Loc)(J:MH),k+m=xs.length->I k l J->Ok (forLoop ⟨it,rc (a,xs.length,en)⟩ turn (dX k m) l J) Q
 | 0=>by
  intro k l J e h;have e':k=xs.length:=e;subst e';exact .of ((bnd (z5z (hx _ _ _ h))).trans rfl) (he _ _ h)
 | m+1=>by
  intro k l J e h;have hk:k<xs.length:=e▸Nat.lt_add_of_pos_right (Nat.succ_pos m);have q:=oP hk;refine el22 (hs k _ l J q h) λhz3 J' e1 e2=>?_;obtain⟨f,l'⟩:=hz3
  refine .eq ((bnd (z5l (hx _ _ _ h) q)).trans (bnd e1)) ?_
  induction f with
  | next=>exact z7z hx hs he m (k+1) l' J' ((Nat.succ_add k m).trans e) e2
  | ret v=>exact .of rfl e2
theorem kM {β:Type}{f:β->V}{ys:List β}{I:MH->Prop}{g:β->Option V}{a:Nat}{it:List V}{turn:V->M (Option V)}(hx:∀ J,I J->J.get a=rc (.lst (ys.map f)))
  (hs:∀ y,y∈ys->∀ J,I J->Ok (turn (f y) J) λo J'=>o=g y/\I J'):∀ (m k:Nat)(J:MH),k+m=ys.length->I J->Ok (compLoop ⟨it,rc (a,(ys.map f).length,rj)⟩ turn (dX k m) J) λvs J'=>vs=(ys.drop k).filterMap g/\I J'
 | 0=>by
  intro k J e h;have e':k=ys.length:=e;subst e';exact .of ((bnd (z5z (hx _ h))).trans rfl) ⟨by simp only[List.drop_length];rfl,h⟩
 | m+1=>by
  intro k J e h;have hk:k<ys.length:=e▸Nat.lt_add_of_pos_right (Nat.succ_pos m);have q:(ys.map f)[k]? = rc (f ys[k]):=by simp only[pR,oP hk];rfl
  refine kQ (hs ys[k] (List.getElem_mem hk) J h) λo J1 e1 e2 h1=>?_
  obtain⟨vs,J2,e3,e4,h2⟩:=kM hx hs m (k+1) J1 ((Nat.succ_add k m).trans e) h1;refine .eq ((bnd (z5l (hx _ h) q)).trans (bnd e1)) ?_;simp only[List.drop_eq_getElem_cons hk,pC,<-e2]
  induction o with
  | none=>exact .of e3 ⟨e4,h2⟩
  | some v=>exact .of ((bnd e3).trans rfl) ⟨congrArg (v:: ·) e4,h2⟩
theorem jk {β:Type}{f:β->V}{I:MH->Prop}{g:β->Option V}{it:List V}{turn:V->M (Option V)}:∀ (ys:List β)(J:MH),(∀ y,y∈ys->∀ J,I J->Ok (turn (f y) J) λo J'=>o=g y/\I J')->I J->Ok (compLoop ⟨it,re⟩ turn (ys.map f) J) λvs J'=>vs=ys.filterMap g/\I J'
 | []=>λJ hs h=>.of rfl ⟨rfl,h⟩
 | y:: ys=>by
  intro J hs h;refine kQ (hs y (.head _) J h) λo J1 e1 e2 h1=>?_
  refine kQ (jk (it:=it) ys J1 (λz m=>hs z (.tail _ m)) h1) λvs J2 e3 e4 h2=>?_
  refine .eq ((bnd (a:=f y) (J1:=J) rfl).trans (bnd e1)) ?_;simp only[pC,<-e2]
  induction o with
  | none=>exact .of e3 ⟨e4,h2⟩
  | some v=>exact .of ((bnd e3).trans rfl) ⟨congrArg (v:: ·) e4,h2⟩
theorem z5f {I:List V->Loc->MH->Prop}{Q:Fl×Loc->MH->Prop}{it:List V}{turn:V->Loc->M (Fl×Loc)}(hs:∀ y ys l J,I (y:: ys) l J->Ok (turn y l J) (Lp (I ys) Q))(he:∀ l J,I [] l J->Q (.next,l) J):∀ (xs:List V)(l:Loc)(J:MH),I xs l J->Ok (forLoop ⟨it,re⟩ turn xs l J) Q
 | []=>λl J h=>.of rfl (he _ _ h)
 | y:: xs=>by
  intro l J h;obtain⟨⟨f,l'⟩,J',e1,e2⟩:=hs y xs l J h;refine .eq ((bnd (a:=y) (J1:=J) rfl).trans (bnd e1)) ?_;cases f with
  | next=>exact z5f hs he xs l' J' e2
  | ret v=>exact .of rfl e2
theorem mB {Y:Type}{m:M Y}{J:MH}{Q:Y->MH->Prop}:Ok (m J) Q->Ok (M.solid m J) Q:=λh=>by
 obtain⟨a,J',e,q⟩:=h;exact .of (by unfold M.solid;rw[e]) q
section
variable {n:Nat}{cl:Nat->Option Nat}{l:Loc}{J J1 J2:MH}{ss:Ss}{Q:Fl×Loc->MH->Prop}{e:E}{a:Nat}{xs:List V}
theorem cV (h:evE (CX n cl) e l J = .ok (.ref a) J1)(hx:J1.get a=rc (.lst xs)):evIt (CX n cl) (.of e) l J = .ok ⟨dX 0 xs.length,rc (a,xs.length,rj)⟩ J1:=(bnd h).trans ((bnd (rdE hx)).trans rfl)
theorem lH (h:evE (CX n cl) e l J = .ok (.ref a) J1)(hx:J1.get a=rc (.lst xs)):evIt (CX n cl) (.by .enum e) l J = .ok ⟨dX 0 xs.length,rc (a,xs.length,rg)⟩ J1:=(bnd h).trans ((bnd (rdE hx)).trans rfl)
theorem dD {it:Ite}{t:Tg}{body:Ss}{en:Bool}(I:Nat->Loc->MH->Prop)(h:evIt (CX n cl) it l J = .ok ⟨dX 0 xs.length,rc (a,xs.length,en)⟩ J1)(hx:∀ k l J,I k l J->J.get a=rc (.lst xs))(h0:I 0 l J1)
  (hs:∀ k y l J,xs[k]? = rc y->I k l J->Ok (bindT (CX n cl) t (itV en k y) l J) λl' J'=>Ok (exSs (CX n cl) body l' J') (Lp (I (k+1)) Q))(he:∀ l J,I xs.length l J->Ok (exSs (CX n cl) ss l J) Q):Ok (exSs (CX n cl) (.cons (.loop t it body) ss) l J) Q:=by
 refine el22 (z7z (Q:=Lp (λl J=>Ok (exSs (CX n cl) ss l J) Q) Q) (it:=dX 0 xs.length) (turn:=λx l=>do let l<-bindT (CX n cl) t x l;exSs (CX n cl) body l) hx (λk y l J e i=>.bind ((hs k y l J e i).mono λl1 J1 q=>q.mono λ_ _=>Lp.up)) he xs.length 0 l J1 (qr _) h0) λhz1 J' e1 e2=>?_;obtain⟨f,l'⟩:=hz1
 have e3:exS (CX n cl) (.loop t it body) l J = .ok (f,l') J':=(bnd h).trans e1
 induction f with
 | next=>exact .eq (bnd e3) e2
 | ret v=>exact .of (bnd e3) e2
variable {β:Type}{f:β->V}{ys:List β}
theorem z3R {el:E}{it:Ite}{t:Tg}{i:It}{g:β->V}{I:MH->Prop}(hc:∀ turn:V->M (Option V),(∀ y,y∈ys->∀ J,I J->Ok (turn (f y) J) λo J'=>o=rc (g y)/\I J')->Ok (compLoop i turn i.items J1) λvs J'=>vs=ys.filterMap (λy=>rc (g y))/\I J')(h:evIt (CX n cl) it l J = .ok i J1)
  (hs:∀ y,y∈ys->∀ J,I J->Ok (bindT (CX n cl) t (f y) (λ_=>re) J) λl' J'=>Ok (evE (CX n cl) el l' J') λv J2=>v=g y/\I J2)(hl:ys.length<=lim):Ok (evE (CX n cl) (.comp el t it) l J) λv J'=>∃ J2,v = .ref J2.n/\J'=J2.push (.lst (ys.map g))/\I J2:=by
 obtain⟨vs,J2,e1,e2,h2⟩:=mB (hc (λx=>do let l'<-bindT (CX n cl) t x (λ_=>re);pure (rc (<-evE (CX n cl) el l'))) (λy m J i=>.bind ((hs y m J i).mono λl1 J1 q=>.bind (q.mono λv J2 q2=>.of rfl ⟨congrArg rc q2.1,q2.2⟩))));have e3:vs=ys.map g:=by rw[e2,List.filterMap_eq_map']
 subst e3;exact .of ((bnd h).trans ((bnd e1).trans (nl (by rw[qg];exact hl)))) ⟨J2,rfl,rfl,h2⟩
theorem iP {it:Ite}{t:Tg}{el:E}{g:β->V}(I:MH->Prop)(h:evIt (CX n cl) it l J = .ok ⟨dX 0 (ys.map f).length,rc (a,(ys.map f).length,rj)⟩ J1)(hx:∀ J,I J->J.get a=rc (.lst (ys.map f)))(h0:I J1)
  (hs:∀ y,y∈ys->∀ J,I J->Ok (bindT (CX n cl) t (f y) (λ_=>re) J) λl' J'=>Ok (evE (CX n cl) el l' J') λv J2=>v=g y/\I J2)(hl:ys.length<=lim):Ok (evE (CX n cl) (.comp el t it) l J) λv J'=>∃ J2,v = .ref J2.n/\J'=J2.push (.lst (ys.map g))/\I J2:=
 z3R (λturn q=>(kM (g:=λy=>rc (g y)) hx q _ 0 J1 ((qr _).trans (qg ..)) h0).mono λvs J' r=>⟨r.1,r.2⟩) h hs hl
theorem jm {it:Ite}{t:Tg}{el:E}{g:β->V}(I:MH->Prop)(h:evIt (CX n cl) it l J = .ok ⟨ys.map f,re⟩ J1)(h0:I J1)
  (hs:∀ y,y∈ys->∀ J,I J->Ok (bindT (CX n cl) t (f y) (λ_=>re) J) λl' J'=>Ok (evE (CX n cl) el l' J') λv J2=>v=g y/\I J2)(hl:ys.length<=lim):Ok (evE (CX n cl) (.comp el t it) l J) λv J'=>∃ J2,v = .ref J2.n/\J'=J2.push (.lst (ys.map g))/\I J2:=
 z3R (λturn q=>jk (g:=λy=>rc (g y)) ys J1 q h0) h hs hl
theorem fM {it:Ite}{t:Tg}{el c:E}{g:β->V}{p:β->Bool}(I:MH->Prop)(h:evIt (CX n cl) it l J = .ok ⟨dX 0 (ys.map f).length,rc (a,(ys.map f).length,rj)⟩ J1)(hx:∀ J,I J->J.get a=rc (.lst (ys.map f)))(h0:I J1)
  (hs:∀ y,y∈ys->∀ J,I J->Ok (bindT (CX n cl) t (f y) (λ_=>re) J) λl' J'=>evE (CX n cl) c l' J' = .ok (.bool (p y)) J'/\evE (CX n cl) el l' J' = .ok (g y) J'/\I J')(hl:ys.length<=lim):Ok (evE (CX n cl) (.compIf el t it c) l J) λv J'=>∃ J2,v = .ref J2.n/\J'=J2.push (.lst ((ys.filter p).map g))/\I J2:=by
 obtain⟨vs,J2,e1,e2,h2⟩:=mB (kM (g:=λy=>if p y=rg then rc (g y) else re) (it:=dX 0 (ys.map f).length) (turn:=λx=>do let l'<-bindT (CX n cl) t x (λ_=>re);if<-aQ (<-evE (CX n cl) c l') then do pure (rc (<-evE (CX n cl) el l')) else pure re) hx (λy m J i=>.bind ((hs y m J i).mono λl1 J1 q=>by
  refine gh q λq1 q2 q3=>?_
  refine .eq ((bnd q1).trans (bnd (a:=p y) (J1:=J1) rfl)) ?_;cases p y with
  | true=>exact .of ((bnd q2).trans rfl) ⟨rfl,q3⟩
  | false=>exact .of rfl ⟨rfl,q3⟩)) (ys.map f).length 0 J1 ((qr _).trans (qg ..)) h0)
 have e3:vs=(ys.filter p).map g:=by
  rw[e2,List.drop_zero];clear e1 e2 hs hx hl h h0
  induction ys with
  | nil=>rfl
  | cons y r ih=>simp only[pC,pS];cases p y <;> simp[ih]
 subst e3;exact .of ((bnd h).trans ((bnd e1).trans (nl (by rw[qg];exact qt (List.length_filter_le ..) hl)))) ⟨J2,rfl,rfl,h2⟩
end
end
section
variable {x:Fx}{c:Cv}{s:St}{F:List (Nat×O)}{k:Int}{J:MH}{n:Nat}
theorem left (h:Rr J (LC x c s F))(hg:s.grp.length<=3):al ah (n+1) (.fn 19) [.ref x.jr] J = .ok (.int (3-s.grp.length)) J:=by
 have:=(atJ h).1;have:=(atJ h).2;have:=h.at 11 rfl
 have e:(s.grp.map V.int).length=s.grp.length:=qg ..;have:(s.grp.map V.int).length<=lim:=by rw[e];exact qt hg (by decide)
 rw[<-e];refine fx rfl rfl ?_;apply aX;kst_p;exact⟨rfl,rfl⟩
theorem z7K (h:Rr J (LC x c s F)):al ah (n+1) (.fn 17) [.ref x.jr,.int k] J = .ok (.bool (decide (1<=k)&&decide (k<5))) J:=by
 have:=(atJ h).1;have:=(atJ h).2;refine fx rfl rfl ?_;apply aX;kst_p;exact⟨rfl,rfl⟩
theorem z8P {a b:Int}(h:(small a&&small b)=rg):fc .mul (.int a) (.int b) J = .ok (.int (a*b)) J:=(bnd (lfE (by show(if(small a&&small b)=rg then rc (a*b) else re)=_;rw[if_pos h]))).trans rfl
theorem jW {i:Int}(h0:0<=i)(h:i<1000000000000):i.natAbs<2 ^ 64:=Int.ofNat_lt.mp ((Int.natAbs_of_nonneg h0).symm▸Int.lt_trans h (by decide))
theorem z3W (h:Rr J (LC x c s F))(hg:s.grp.length<=3)(h0:0<=s.calls)(h3:s.calls<=3):al ah (n+1) (.fn 18) [.ref x.jr] J = .ok (.bool (decide ((s.grp.length:Int)+s.calls+1<=3))) J:=by
 have:=(atJ h).1;have:=(atJ h).2;have:=h.at 11 rfl
 have e:(s.grp.map V.int).length=s.grp.length:=qg ..;have:(s.grp.map V.int).length<=lim:=by rw[e];exact qt hg (by decide)
 have sm:(small (s.calls+1)&&small 1)=true:=by
  rw[show small (s.calls+1)=rg from dc (jW (Int.add_nonneg h0 (by decide)) (Int.lt_of_le_of_lt (Int.add_le_add_right h3 1) (by decide)))];rfl
 refine fx rfl rfl ?_;apply aX
 ·apply ax
  ·apply aB;kst_p
   ·apply aB;kst_p;kst_p;exact z8P sm
   ·exact rfl
  ·kst_p
  ·exact mM rfl
 refine⟨congrArg V.bool ?_,rfl⟩;simp only[e,Int.mul_one,Int.add_assoc]
theorem zab:bN .bytes (.int 16) J = .ok (.bytes bz) J:=jg (by decide)
theorem zaj (h:Rr J (LC x c s F))(C:COk c s)(h1:0<=k)(h2:k<12):al ah (n+2) (.fn 51) [.ref x.disk,.int k] J = .ok (.bytes (s.dsk k)) J:=by
 have:=(atD h).1;have:=(atD h).2;have:=gK (n:=n) h;have:=z1e (n:=n) h h1 h2;refine fx rfl rfl ?_;apply av;kst_p;apply av;kst_p;apply aX
 ·apply bm;kst_p;exact h.at 3 rfl;rfl
  ·apply aa;kst_p
   apply az;apply aS;kst_p;exact zab
  ·exact lf (h.at 3 rfl)
 exact⟨C.la k,rfl⟩
noncomputable def Cv.wr (c:Cv)(k:Int)(o:List UInt8):Cv:=(((c.wDwr (c.dwr+1)).wElat (aJ k (.bytes o) c.elat)).wUnf (c.unf++[.t2 (.int k) (.bytes o)]))
noncomputable def St.setDsk (s:St)(k:Int)(o:List UInt8):St:=(s.wDsk (up s.dsk k o))
theorem COk.wr (C:COk c s){o:List UInt8}(h1:0<=k)(h2:k<12)(hu:c.unf.length<12):COk (c.wr k o) (s.setDsk k o) where
 bn:=C.bn
 bk:=C.bk
 la j:=by
  show(af j (aJ k (.bytes o) c.elat)).getD (.bytes bz) = .bytes (up s.dsk k o j);rw[aU];refine if e:j=k then ?_ else ?_
  ·rw[if_pos e,e,be];rfl
  ·rw[if_neg e,aY e];exact C.la j
 lk:=C.lk.put h1 h2
 kk:=C.kk
 nt:=C.nt
 nk:=C.nk
 pn:=C.pn
 uf v m:=by
  rcases List.mem_append.mp m with m | m
  ·exact C.uf v m
  ·exact zcf k o (List.mem_singleton.mp m) h1 h2
 ul:=by show(c.unf++[_]).length<=12;rw[pF];exact hu
theorem cI {o:List UInt8}(h:o.length=16):o.length<=lim:=h▸(by decide)
theorem zaW {o:List UInt8}(h:o.length=16):((o.length:Int)==16)=true:=by rw[h];rfl
theorem zb0 (h:Rr J (LC x c s F))(C:COk c s)(h1:0<=k)(h2:k<12){o:List UInt8}(ho:o.length=16)(hu:c.unf.length<12):
  Ok (al ah (n+2) (.fn 52) [.ref x.disk,.int k,.bytes o] J) (CN x (c.wr k o) s F):=by
 have:=(atD h).1;have:=(atD h).2;have:=gK (n:=n) h;have:=z1e (n:=n) h h1 h2;refine bc rfl rfl ?_;apply av;kst_p;apply av;kst_p;apply ak
 ·apply ax;apply aS;kst_p;exact z78 (cI ho);kst_p;exact eJ (dJ (zaW ho))
 apply ak
 ·apply bM;apply ix;kst_p
 apply eA;iterate 8 kst_p
 refine Ok.ab (show Rr _ (LC x (c.wDwr (c.dwr+1)) s F) from h.set 1 rfl) λJ1 h1=>?_
 have:=(atD h1).1;have:=(atD h1).2;apply eY
 ·apply aS;kst_p;exact z3F (cI ho)
 ·kst_p
 ·kst_p
 ·exact jV (h1.at 3 rfl) C.lk.lim
 refine Ok.ab (show Rr _ (LC x ((c.wDwr (c.dwr+1)).wElat (aJ k (.bytes o) c.elat)) s F) from h1.set 3 rfl) λJ2 h2=>?_
 have:=(atD h2).1;have:=(atD h2).2;apply av
 ·apply bm;kst_p;exact h2.at 4 rfl;rfl
  ·apply az;apply cM;kst_p;apply aS;kst_p;exact z3F (cI ho)
  ·exact cm (h2.at 4 rfl) (Nat.lt_trans hu (by decide))
 exact aH ⟨rfl,h2.set 4 rfl⟩
noncomputable def Cv.fl (c:Cv)(es:List (Int×V))(a:Nat):Cv:=(((c.wEkept es).wDunf a).wUnf ([]))
theorem COk.fl (C:COk c s){es:List (Int×V)}{a:Nat}(h:Ks es):COk (c.fl es a) s:={ C with kk:=h,uf:=(λ_ m=>absurd m pZ),ul:=qB _ }
theorem zaZ (h:Rr J (LC x c s F))(C:COk c s):Ok (al ah (n+2) (.fn 53) [.ref x.disk] J) λv J'=>v = .none/\∃ es a,Ks es/\Rr J' (LC x (c.fl es a) (s.wFlushes (s.flushes+1)) F):=by
 have:=(atD h).1;have:=(atD h).2;have:=gK (n:=n) h;refine bc rfl rfl ?_;apply av;kst_p;apply ak
 ·apply bM;apply ix;kst_p
 apply eA;iterate 8 kst_p
 refine Ok.ab (show Rr _ (LC x c (s.wFlushes (s.flushes+1)) F) from h.set 1 rfl) λJ1 h1=>?_
 have:=(atD h1).1;have:=(atD h1).2;apply dD (en:=rj) (I:=λ_ l J=>l 61=rc (.ref x.disk)/\∃ es,Ks es/\Rr J (LC x (c.wEkept es) (s.wFlushes (s.flushes+1)) F)) (xs:=c.unf) (a:=c.dunf)
 ·exact cV (by kst_p) (h1.at 4 rfl)
 ·rintro _ l J ⟨_,es,_,h⟩;exact h.at 4 rfl
 ·exact⟨rfl,_,C.kk,h1⟩
 ·rintro j y l J e ⟨el,es,K,h⟩
  refine kQ (C.uf y (pv e)) λk o ez1=>?_;subst ez1;intro k1 k2
  refine .of rfl ?_;have:=(atD h).1;have:=(atD h).2;have el':((l.put 16 (.int k)).put 7 (.bytes o)) 61=rc (.ref x.disk):=el;apply eY
  ·exact a8 rfl
  ·apply aI (a8 el');kst_p;rfl;kst_p;rfl
  ·exact a8 rfl
  ·exact jV (h.at 2 rfl) K.lim
  exact aH ⟨el',_,K.put k1 k2,h.set 2 rfl⟩
 ·rintro l J ⟨el,es,K,h⟩
  apply dC
  ·exact aE aA rfl
  ·exact a8 el
  ·have h2:=h.push (.lst [])
   have:=(atD h2.tl).1;have:=(atD h2.tl).2;apply sa;assumption;rfl;assumption;rfl
  exact aH ⟨rfl,es,J.n,K,((h.push (.lst [])).set 2 rfl).repl (A:=[_,_,_,_])⟩
end
section
variable {x:Fx}{c:Cv}{s:St}{F:List (Nat×O)}{k:Int}{J:MH}{n:Nat}
noncomputable def free (s:St)(k:Int):Bool:=s.hold k==0 && !decide (k∈s.grp)
theorem ml (h:Rr J (LC x c s F))(C:COk c s)(hk:k∈s.row):al ah (n+1) (.fn 30) [.ref (c.ai k)] J = .ok (.bool (free s k)) J:=by
 rw[z95 h hk,C.pn k];unfold free;by_cases e:k∈s.grp
 ·rw[if_pos e,decide_eq_true e];rfl
 ·rw[if_neg e,decide_eq_false e];rfl
theorem iZ (I:s.row.length<=8){f:Int->V}:(s.row.map f).length<=lim:=by rw[qg];exact qt I (by decide)
theorem zcq (h:Rr J (LC x c s F))(hl:s.row.length<=8):Ok (al ah (n+1) (.fn 45) [.ref x.cache] J) λv J'=>∃ a,v = .ref a/\Rr J' ((a,.lst (s.row.map V.int)):: LC x c s F):=by
 have:=(atC h).1;have:=(atC h).2;refine bc rfl rfl (zbn ?_);refine(iP (ys:=s.row) (g:=V.int) (· = J) (cV (by kst_p) (h.at 7 rfl)) (λ_ e=>e▸h.at 7 rfl) rfl (λk hk J' e=>?_) (qt hl (by decide))).mono ?_
 ·subst e
  have:=(atB h hk).1;have:=(atB h hk).2.1;have:=(atB h hk).2.2;exact .of rfl (.of (by kst_p) ⟨rfl,rfl⟩)
 ·rintro _ _ ⟨J2,rfl,rfl,rfl⟩
  exact⟨_,rfl,h.push _⟩
theorem z4E (h:Rr J (LC x c s F))(C:COk c s)(hl:s.row.length<=8):Ok (al ah (n+2) (.fn 46) [.ref x.cache] J) λv J'=>v = .int (8-(s.row.filter λk=>!free s k).length)/\Rr J' (LC x c s F):=by
 have:=(atC h).1;have:=(atC h).2;refine bc rfl rfl ?_;obtain⟨_,_,e1,J2,rfl,rfl,rfl⟩:Ok (evE (CX (n+1) λ_=>re) (.compIf (.loc 72) (.loc 72) (.of (.attr (.loc 61) 18)) (.not (.meth (.loc 72) 94 re .nil))) (Loc.put (λ_=>re) 61 (.ref x.cache)) J) _:=
  (fM (ys:=s.row) (g:=λk=>V.ref (c.ai k)) (p:=λk=>!free s k) (· = J) (cV (by kst_p) (h.at 7 rfl)) (λ_ e=>e▸h.at 7 rfl) rfl (λk hk J' e=>by
   obtain rfl:=e.symm;have:=(atB h hk).1;have:=(atB h hk).2.1;have:=(atB h hk).2.2;have:=ml (n:=n) h C hk;exact .of rfl ⟨by kst_p,rfl,rfl⟩) (qt hl (by decide)))
 have h2:=h.push (.lst ((s.row.filter λk=>!free s k).map λk=>V.ref (c.ai k)));have e2:((s.row.filter λk=>!free s k).map λk=>V.ref (c.ai k)).length=(s.row.filter λk=>!free s k).length:=qg ..;apply aX
 ·apply aB;kst_p
  ·apply aS;exact e1;exact ck (h2.at 0 rfl) (by rw[e2];exact qt (List.length_filter_le ..) (qt hl (by decide)))
  ·exact rfl
 exact⟨by rw[e2];rfl,h2.tl⟩
theorem zaU (h:Rr J (LC x c s F))(C:COk c s):Ok (al ah (n+3) (.fn 42) [.ref x.cache] J) λv J'=>v = .none/\∃ es a,Ks es/\Rr J' (LC x (c.fl es a) (s.wFlushes (s.flushes+1)) F):=by
 have:=(atC h).1;have:=(atC h).2;have:=(atD h).1;have:=(atD h).2;refine(zaZ (n:=n) h C).el0 λJ' e q=>?_
 refine bc rfl rfl ?_;apply av;kst_p;exact aH ⟨rfl,q⟩
theorem zcd (h:Rr J (LC x c s F))(hk:k∈s.row)(nd:s.row.Nodup){o:List UInt8}(ho:o.length=16)(hd:(s.dat k).length=16):Ok (al ah (n+1) (.fn 32) [.ref (c.ai k),.bytes o] J) (CN x c (s.setDat k o) F):=by
 have:=(atB h hk).1;have:=(atB h hk).2.1;have:=(atB h hk).2.2;refine bc rfl rfl ?_;apply ak
 ·apply ax;apply aS;kst_p;exact z78 (cI ho);apply aS;kst_p;apply lU;assumption;exact cI hd
  exact eJ (dJ (by rw[ho,hd];rfl))
 apply nM;kst_p;kst_p;assumption;exact⟨hd.trans ho.symm,cI ho⟩;exact aH ⟨rfl,setDat h hk nd o⟩
noncomputable def St.wrote (s:St):St:=(s.wWrites (s.writes+1))
theorem zaY (h:Rr J (LC x c s F))(C:COk c s)(I:Inv s)(hk:k∈s.row)(hh:s.hold k≠0)(hu:c.unf.length<12):
  Ok (al ah (n+3) (.fn 41) [.ref x.cache,.ref (c.ai k)] J) (CN x (c.wr k (s.dat k)) s.wrote F):=by
 have:=(atC h).1;have:=(atC h).2;have:=(atD h).1;have:=(atD h).2;have:=(atB h hk).1;have:=(atB h hk).2.1;have:=(atB h hk).2.2;obtain⟨b1,b2⟩:=I.bd k hk;have:=fU (n:=n+1) h hk (C.here hk) hh;have:=mr (n:=n+1) h hk (cI (I.dl k hk));obtain⟨v,J',e,rfl,h'⟩:=zb0 (n:=n) h C b1 b2 (I.dl k hk) hu;have:=(atC h').1;have:=(atC h').2;refine bc rfl rfl ?_;apply av;kst_p;apply av;kst_p;apply eA;iterate 8 kst_p
 exact aH ⟨rfl,h'.set 6 rfl⟩
theorem pin (h:Rr J (LC x c s F))(C:COk c s)(hk:k∈s.row)(nd:s.row.Nodup)(hh:s.hold k≠0):Ok (al ah (n+2) (.fn 39) [.ref x.cache,.ref (c.ai k)] J) (CN x (c.setPin k (c.pin k+1)) s F):=by
 have:=(atB h hk).1;have:=(atB h hk).2.1;have:=(atB h hk).2.2;have:=(atC h).1;have:=(atC h).2;have:=fU (n:=n) h hk (C.here hk) hh;refine bc rfl rfl ?_;apply av;kst_p;apply eA;iterate 8 kst_p
 exact aH ⟨rfl,setPin h hk nd _⟩
theorem zcO (h:Rr J (LC x c s F))(hb:af k c.ebn=rc (.ref (c.ai k)))(hk:k∈s.row)(nd:s.row.Nodup)(hh:c.pin k≠0):Ok (al ah (n+1) (.fn 40) [.ref x.cache,.int k] J) (CN x (c.setPin k (c.pin k-1)) s F):=by
 have:=(atB h hk).1;have:=(atB h hk).2.1;have:=(atB h hk).2.2;have:=(atC h).1;have:=(atC h).2;have:=h.at 8 rfl
 refine bc rfl rfl ?_;apply aq;kst_p;apply ak;kst_p;apply eA;iterate 8 kst_p
 exact aH ⟨rfl,setPin h hk nd _⟩
theorem z26 {p:Int->Bool}:∀ {r:List Int}{j:Nat},r[j]? = rc k->p k=rg->(∀ i a,i<j->r[i]? = rc a->p a=rj)->r.find? p=rc k
 | a:: r,0,e,h,_=>by cases e;rw[List.find?_cons,h]
 | a:: r,j+1,e,h,hb=>by
  rw[List.find?_cons,hb 0 a (Nat.succ_pos _) rfl];exact z26 (r:=r) (j:=j) e h λi b hi hb'=>hb (i+1) b (Nat.succ_lt_succ hi) hb'
theorem z3Q {Y:Type}{f:Int->Y}:∀ {r:List Int}{j:Nat},r.Nodup->r[j]? = rc k->(r.map f).eraseIdx j=(r.erase k).map f
 | a:: r,0,nd,e=>by cases e;rw[List.erase_cons_head];rfl
 | a:: r,j+1,nd,e=>by
  obtain⟨n1,n2⟩:=List.nodup_cons.mp nd;have:a≠k:=λq=>n1 (q▸pv e)
  rw[List.erase_cons_tail (by simpa using this)];exact congrArg (f a:: ·) (z3Q n2 e)
noncomputable def St.room (s:St):List Int:=if s.row.length<8 then s.row else match s.row.find? (free s) with | some f=>s.row.erase f | none=>s.row
noncomputable def Cv.bn (c:Cv)(es:List (Int×V)):Cv:=(c.wEbn es)
theorem COk.less (C:COk c s)(nd:s.row.Nodup):COk (c.bn (bR k c.ebn)) (s.setRow (s.row.erase k)):={ C with
 bn:=λj=>by
  show af j (bR k c.ebn)=if j∈s.row.erase k then _ else re
  rw[eG C.bk.1,C.bn j];by_cases e:j=k
  ·rw[if_pos e,if_neg];intro m;exact(nd.mem_erase_iff.mp m).1 e
  ·rw[if_neg e]
   by_cases m:j∈s.row
   ·rw[if_pos m,if_pos (nd.mem_erase_iff.mpr ⟨e,m⟩)];rfl
   ·rw[if_neg m,if_neg];intro q;exact m (List.mem_of_mem_erase q)
 bk:=C.bk.del }
noncomputable def BN (x:Fx)(c:Cv)(s:St)(F:List (Nat×O)):V->MH->Prop:=λv J'=>v = .none/\∃ es,COk (c.bn es) s/\Rr J' (LC x (c.bn es) s F)
theorem z6c (h:Rr J (LC x c s F))(C:COk c s)(I:Inv s)(hr:s.row.length<8∨∃ k,k∈s.row/\free s k=rg):
  Ok (al ah (n+2) (.fn 37) [.ref x.cache] J) (BN x c (s.setRow s.room) F):=by
 have:=(atC h).1;have:=(atC h).2;have e8:(s.row.map λk=>V.ref (c.ai k)).length=s.row.length:=qg ..;refine bc rfl rfl ?_;apply lu
 ·apply ax;apply aS;kst_p;exact ck (h.at 7 rfl) (iZ I.le);kst_p;exact mN rfl
 ·intro e
  have e:((s.row.map λk=>V.ref (c.ai k)).length:Int)<8:=of_decide_eq_true e;refine jU ⟨rfl,c.ebn,?_,?_⟩ <;> unfold St.room <;> rw[if_pos (Int.ofNat_lt.mp (e8▸e))]
  ·exact C
  ·exact h
 ·intro e
  have e:¬ ((s.row.map λk=>V.ref (c.ai k)).length:Int)<8:=of_decide_eq_false e;have l8:¬ s.row.length<8:=λh=>e (e8.symm▸Int.ofNat_lt.mpr h)
  apply dD (en:=rg) (I:=λj l J=>l 61=rc (.ref x.cache)/\Rr J (LC x c s F)/\∀ i a,i<j->s.row[i]? = rc a->free s a=rj) (xs:=s.row.map λk=>V.ref (c.ai k)) (a:=x.crow)
  ·exact lH (by kst_p) (h.at 7 rfl)
  ·rintro _ l J ⟨_,h,_⟩;exact h.at 7 rfl
  ·exact⟨rfl,h,λi a hi=>(Nat.not_lt_zero _ hi).elim⟩
  ·rintro j y l J ey ⟨el,h,hb⟩
   obtain⟨k,ek,rfl⟩:∃ k,s.row[j]? = rc k/\V.ref (c.ai k)=y:=by
    rw[pR] at ey
    exact Option.map_eq_some_iff.mp ey
   have hk:=pv ek;have:=(atC h).1;have:=(atC h).2;have:=(atB h hk).1;have:=(atB h hk).2.1;have:=(atB h hk).2.2;have:=ml (n:=n) h C hk;refine .of rfl ?_;have el':((l.put 8 (.int (qK j))).put 72 (.ref (c.ai k))) 61=rc (.ref x.cache):=el;apply lu;kst_p
   ·intro fr
    have hj:j<8:=Nat.lt_of_lt_of_le (List.getElem?_eq_some_iff.mp ek).1 I.le;apply lM;apply aI (a8 el');kst_p;rfl;kst_p;rfl;kst_p
    ·exact zc1 (h.at 8 rfl) (by rw[C.here hk];rfl) C.bk.lim
    refine Ok.ab (show Rr _ (LC x (c.bn (bR k c.ebn)) s F) from h.set 8 rfl) λJ1 h1=>?_
    have:=(atC h1).1;have:=(atC h1).2;apply lM;apply aI (a8 el');kst_p;rfl;kst_p;rfl;kst_p
    ·exact di_l (h1.at 7 rfl) ⟨Int.natCast_nonneg _,Int.lt_trans (Int.ofNat_lt.mpr hj) (by decide),Nat.lt_of_lt_of_eq (List.getElem?_eq_some_iff.mp ek).1 e8.symm,iZ I.le⟩
    have er:s.room=s.row.erase k:=by unfold St.room;rw[if_neg l8,z26 ek fr hb]
    refine jU ⟨rfl,bR k c.ebn,?_⟩;rw[er];refine⟨C.less I.nd,?_⟩;have h2:=h1.set 7 rfl (o':=.lst ((s.row.erase k).map λk=>V.ref (c.ai k)));show Rr (J1.set x.crow (.lst ((s.row.map λk=>V.ref (c.ai k)).eraseIdx j))) _;rw[show(s.row.map λk=>V.ref (c.ai k)).eraseIdx j=(s.row.erase k).map λk=>V.ref (c.ai k) from z3Q I.nd ek];exact z9p (s:=s) (c:=c.bn (bR k c.ebn)) (c':=c.bn (bR k c.ebn)) (k:=k) h2 (List.perm_cons_erase hk)
   ·intro fr
    refine aH ⟨el',h,λi a hi ea=>?_⟩
    rcases Nat.lt_succ_iff_lt_or_eq.mp hi with hi | rfl
    ·exact hb i a hi ea
    ·replace ea:=ek▸ea;cases ea;exact fr
  ·rintro l J ⟨_,_,hb⟩
   refine el12 (hr.resolve_left l8) λk hk fr=>?_
   obtain⟨i,hi,ei⟩:=List.getElem_of_mem hk;replace fr:=(hb i k (by rw[e8];exact hi) (by rw[oP hi,ei]))▸fr;cases fr
end
section
variable {x:Fx}{c:Cv}{s:St}{F:List (Nat×O)}{k:Int}{J:MH}{n:Nat}
theorem kS {cl:Nat->Option Nat}{l:Loc}{J1:MH}{cc f:Nat}{as:Es}{vs:List V}{Q:V->MH->Prop}(h:evEs (CX n cl) as l J = .ok vs J1)(hi:za6 cc=rc f)(hf:qX f 14=rj)
  (k:Ok (al ah n (.fn f) (.ref (J1.push (.ns [])).n:: vs) ((J1.push (.ns [])).push (.inst cc J1.n))) λv J'=>v = .none/\Q (.ref (J1.push (.ns [])).n) J'):Ok (evE (CX n cl) (.new cc as) l J) Q:=by
 obtain⟨v,J',e,rfl,q⟩:=k;refine .of ((bnd h).trans ((bnd (m:=M.alloc (.ns [])) rfl).trans ((bnd (m:=M.alloc (.inst cc J1.n)) rfl).trans ((bnd (lfE hi)).trans ((bnd (a:=V.none) (J1:=J') ?_).trans rfl))))) q;show dA ah (al ah n) (.fn f) _ _=_;rw[lk hf];exact e
theorem zbP {a d:Nat}{L:List (Nat×O)}{o:List UInt8}(h:Rr J ((a,.inst 6 d):: (d,.ns []):: L))(ho:o.length=16):
  Ok (al ah (n+1) (.fn 29) [.ref a,.int k,.bytes o] J) λv J'=>v = .none/\∃ e,Rr J' ((e,.ba o):: (a,.inst 6 d):: (d,bO e k 0 0):: L):=by
 refine bc rfl rfl ?_;apply dC;kst_p;kst_p
 ·apply sa;exact h.at 0 rfl;rfl;exact h.at 1 rfl;rfl
 refine Ok.ab (h.set 1 rfl) λJ1 h1=>?_
 have h1':=h1.push (.ba o);apply dC;apply aS;kst_p;exact c_ba (cI ho);kst_p
 ·apply sa;exact h1'.at 1 rfl;rfl;exact h1'.at 2 rfl;rfl
 refine Ok.ab (h1'.set 2 rfl) λJ2 h2=>?_
 apply dC;kst_p;kst_p
 ·apply sa;exact h2.at 1 rfl;rfl;exact h2.at 2 rfl;rfl
 refine Ok.ab (h2.set 2 rfl) λJ3 h3=>?_
 apply dC;kst_p;kst_p
 ·apply sa;exact h3.at 1 rfl;rfl;exact h3.at 2 rfl;rfl
 exact aH ⟨rfl,_,h3.set 2 rfl⟩
theorem zbj {c2:Cv}{s2:St}{a d e:Nat}{hh p:Int}{o:List UInt8}{r:List Int}(h:Rr J ((e,.ba o):: (a,.inst 6 d):: (d,bO e k hh p):: (LCh x c2 s2++(r.flatMap (buf c s)++F))))(hr:s2.row=r++[k])(he:∀ j,j∈r->buf c2 s2 j=buf c s j)(hk:buf c2 s2 k=je a d e k hh p o):Rr J (LC x c2 s2 F):=by
 unfold LC;rw[hr,List.flatMap_append,ju he,pQ,hk,List.flatMap_nil,qh];refine h.perm (((List.perm_append_comm (l₁:=[(e,O.ba o)]) (l₂:=[(a,.inst 6 d),(d,bO e k hh p)])).append_right _).trans ((oL (je a d e k hh p o) (LCh x c2 s2) _).trans (.append_left _ ?_)));rw[pK];exact oL ..
noncomputable def St.got (k:Int)(s:St):St:=if k∈s.row then((s.wHits (s.hits+1)).wHold (up s.hold k (s.hold k+1))) else((((s.wRow (s.room++[k])).wDat (up s.dat k (s.dsk k))).wReads (s.reads+1)).wHold (up s.hold k (s.hold k+1)))
noncomputable def Room (s:St):Prop:=s.row.length<8∨∃ k,k∈s.row/\free s k=rg
theorem fA {j:Int}(h:j∈s.room):j∈s.row:=by
 unfold St.room at h
 split at h
 ·exact h
 ·split at h
  ·exact List.mem_of_mem_erase h
  ·exact h
noncomputable def Cv.nw (c:Cv)(es:List (Int×V))(k:Int)(a d e:Nat):Cv:=((((c.wEbn es).wAi (up c.ai k a)).wAn (up c.an k d)).wAd (up c.ad k e))
theorem COk.nw {es:List (Int×V)}{a d e:Nat}(C:COk (c.bn es) (s.setRow s.room))(h1:0<=k)(h2:k<12)(hk:k∉s.row):COk (c.nw (aJ k (.ref a) es) k a d e) (s.got k):=by
 unfold St.got;rw[if_neg hk];exact { C with
  bn:=λj=>by
   show af j (aJ k (.ref a) es)=if j∈s.room++[k] then rc (.ref (up c.ai k a j)) else re
   have q:af j es=if j∈s.room then rc (.ref (c.ai j)) else none:=C.bn j
   rw[aU,q];by_cases e:j=k
   ·rw[if_pos e,e,be,if_pos (ph _ (.head _))]
   ·rw[if_neg e,aY e]
    by_cases m:j∈s.room
    ·rw[if_pos m,if_pos (pz _ m)]
    ·rw[if_neg m,if_neg];intro q;exact(List.mem_append.mp q).elim m λq=>e (List.mem_singleton.mp q)
  bk:=C.bk.put h1 h2 }
noncomputable def Kp (s:St)(c c':Cv):Prop:=(∀ j,s.hold j≠0->c'.ai j=c.ai j)/\c'.jnum=c.jnum/\c'.unf=c.unf
noncomputable def GP (x:Fx)(c:Cv)(s t:St)(F:List (Nat×O))(w:Cv->V):V->MH->Prop:=λv J'=>∃ c',v=w c'/\COk c' t/\Kp s c c'/\Rr J' (LC x c' t F)
theorem get (h:Rr J (LC x c s F))(C:COk c s)(I:Inv s)(hr:k∉s.row->Room s)(h1:0<=k)(h2:k<12):
  Ok (al ah (n+3) (.fn 36) [.ref x.cache,.int k] J) (GP x c s (s.got k) F λc'=>.ref (c'.ai k)):=by
 have:=(atC h).1;have:=(atC h).2;have:=h.at 8 rfl;have:=z4O (n:=n+1) h h1 h2
 refine bc rfl rfl ?_;apply av;kst_p;by_cases hk:k∈s.row
 ·have:=C.here hk
  apply aq;kst_p;apply ak;kst_p;apply eA;iterate 8 kst_p
  refine Ok.ab (show Rr _ (LC x c (s.wHits (s.hits+1)) F) from h.set 6 rfl) λJ1 h1=>?_
  have:=(atB h1 hk).1;have:=(atB h1 hk).2.1;have:=(atB h1 hk).2.2;apply eA;iterate 8 kst_p
  refine Ok.ab (setHold h1 hk I.nd _) λJ2 h2=>?_
  apply aX;kst_p;have es:s.got k=((s.wHits (s.hits+1)):St).setHold k (s.hold k+1):=if_pos hk;refine⟨c,rfl,?_,⟨λ_ _=>rfl,rfl,rfl⟩,?_⟩
  ·simp only[es];exact⟨C.bn,C.bk,C.la,C.lk,C.kk,C.nt,C.nk,C.pn,C.uf,C.ul⟩
  ·rw[es];exact h2
 ·have:=C.gone hk
  apply aq;kst_p;apply aN;kst_p;refine(z6c (n:=n) h C I (hr hk)).el12 λJ1 es e1 C1 g1=>?_
  apply av;kst_p;have:=(atC g1).1;have:=(atC g1).2;have:=(atD g1).1;have:=(atD g1).2;have:=zaj (n:=n) g1 C1 h1 h2;have hk2:k∉s.room:=λm=>hk (fA m)
  obtain⟨v,J2,e2,a,d,e,rfl,g2⟩:Ok (evE (CX (n+2) λ_=>re) (.new 6 (.cons (.loc 16) (.cons (.meth (.attr (.loc 61) 26) 57 re (.cons (.loc 16) .nil)) .nil))) (((Loc.put (λ_=>re) 61 (.ref x.cache)).put 16 (.int k)).put 3 .none) J1) λv J'=>∃ a d e,v = .ref a/\Rr J' ((e,.ba (s.dsk k)):: (a,.inst 6 d):: (d,bO e k 0 0):: LC x (c.bn es) (s.setRow s.room) F):=by
   apply kS;kst_p;rfl;rfl;refine(zbP ((g1.push (.ns [])).push (.inst 6 J1.n)) (I.dk k)).mono ?_;rintro v J' ⟨rfl,e,q⟩;exact⟨rfl,_,_,e,rfl,q⟩
  apply aq;exact e2;apply eA;kst_p;exact g2.at 8 rfl;rfl;exact g2.at 9 rfl;rfl;kst_p;rfl;rfl
  refine Ok.ab (g2.set 9 rfl) λJ3 g3=>?_
  apply eY;kst_p
  ·apply aI;kst_p;exact g3.at 8 rfl;rfl;exact g3.at 9 rfl;rfl
  ·kst_p
  ·exact jV (g3.at 11 rfl) C1.bk.lim
  refine Ok.ab (g3.set 11 rfl) λJ4 g4=>?_
  have rl:s.room.length<lim:=by
   have:(s.setRow s.room).row.length<=8:=by
    show s.room.length<=8;unfold St.room
    split
    ·exact I.le
    ·split
     ·exact qt List.length_erase_le I.le
     ·exact I.le
   exact pJ this (by decide)
  apply av
  ·apply bm;apply aI;kst_p;exact g4.at 8 rfl;rfl;exact g4.at 9 rfl;rfl;exact g4.at 10 rfl;rfl;kst_p
   exact cm (g4.at 10 rfl) (by rw[qg];exact rl)
  have er:(s.room.map λj=>V.ref (c.ai j))++[.ref a]=(s.room++[k]).map λj=>.ref (up c.ai k a j):=by
   simp only[List.map_append,ql,be,List.map_nil,List.map_congr_left λj m=>congrArg V.ref (aY (f:=c.ai) (v:=a) λ(q:j=k)=>hk2 (q▸m)).symm]
  have hh:s.hold k=0:=Decidable.byContradiction λq=>hk (I.hr k q)
  have hp:c.pin k=0:=(C1.pn k).trans (if_neg λq=>hk (I.gr k q))
  have g5:=g4.set 10 rfl (o':=.lst ((s.room.map λj=>V.ref (c.ai j))++[.ref a]));have g6:Rr (J4.set x.crow (.lst ((s.room.map λj=>V.ref (c.ai j))++[.ref a]))) (LC x (c.nw (aJ k (.ref a) es) k a d e) (((s.wRow (s.room++[k])).wDat (up s.dat k (s.dsk k))).wReads (s.reads+1)) F):=by
   simp only[er] at g5 ⊢
   refine zbj (c:=c) (s:=s) (r:=s.room) (hh:=0) (p:=0) g5 rfl (λj m=>?_) ?_
   ·have ne:j≠k:=λq=>hk2 (q▸m)
    show je (up c.ai k a j) (up c.an k d j) (up c.ad k e j) j (s.hold j) (c.pin j) (up s.dat k (s.dsk k) j)=_;rw[aY ne,aY ne,aY ne,aY ne];rfl
   ·show je (up c.ai k a k) (up c.an k d k) (up c.ad k e k) k (s.hold k) (c.pin k) (up s.dat k (s.dsk k) k)=_
    simp only[be,be,be,be,hh,hp]
  refine Ok.ab g6 λJ5 g7=>?_
  have hm:k∈s.room++[k]:=ph _ (.head _);have nd:(s.room++[k]).Nodup:=by
   refine List.nodup_append.mpr ⟨?_,List.nodup_cons.mpr ⟨(λq=>nomatch q),.nil⟩,λy m z q e=>hk2 (by simp only[List.mem_singleton.mp q] at e;exact e▸m)⟩;unfold St.room
   split
   ·exact I.nd
   ·split
    ·exact I.nd.erase _
    ·exact I.nd
  refine gh (atB g7 hm) λb1 b2 b3=>?_
  have ea:(c.nw (aJ k (.ref a) es) k a d e).ai k=a:=be ..;rw[ea] at b1
  apply eA;kst_p;exact b1;rfl;exact b2;rfl;kst_p;rfl;rfl;refine Ok.ab (setHold g7 hm nd _) λJ6 g8=>?_
  apply aX;kst_p;have es':s.got k=_:=if_neg hk;refine⟨_,congrArg V.ref ea.symm,C1.nw (e:=e) (d:=d) h1 h2 hk,⟨λj m=>aY λq=>hk (q▸I.hr j m),rfl,rfl⟩,?_⟩;rw[es'];exact g8
end
section
variable {x:Fx}{c:Cv}{s:St}{F:List (Nat×O)}{k:Int}{J:MH}{n:Nat}
theorem z4g {j:Int}(hj:j∈s.row)(h:free s j=rj):j∈s.room:=by
 unfold St.room
 split
 ·exact hj
 ·split
  ·rename_i f e
   have:=List.find?_some e;exact(List.mem_erase_of_ne λq=>by rw[q,this] at h;cases h).mpr hj
  ·exact hj
theorem iS {j:Int}(h:s.hold j≠0∨j∈s.grp):free s j=false:=by
 unfold free
 rcases h with h | h
 ·rw[beq_eq_false_iff_ne.mpr h];rfl
 ·rw[decide_eq_true h];exact Bool.and_false _
theorem z9o (I:Inv s):s.room.Nodup:=by
 unfold St.room
 split
 ·exact I.nd
 ·split
  ·exact I.nd.erase _
  ·exact I.nd
theorem z4f (I:Inv s)(R:Room s):s.room.length<8:=by
 unfold St.room
 split
 ·assumption
 ·rename_i l8
  obtain⟨k,hk,fr⟩:=R.resolve_left l8
  split
  ·rename_i f e
   rw[List.length_erase_of_mem (List.mem_of_find?_eq_some e)];exact Nat.lt_of_lt_of_le (Nat.sub_lt (List.length_pos_of_mem hk) (by decide)) I.le
  ·rename_i e
   exact absurd fr (List.find?_eq_none.mp e k hk)
theorem z5s {r:List Int}(h:r.Nodup)(hk:k∉r):(r++[k]).Nodup:=List.nodup_append.mpr ⟨h,List.nodup_cons.mpr ⟨(λq=>nomatch q),.nil⟩,λy m z q e=>hk (by rw[List.mem_singleton.mp q] at e;exact e▸m)⟩
theorem Inv.got (I:Inv s)(h1:0<=k)(h2:k<12)(R:k∉s.row->Room s):Inv (s.got k):=by
 have hp:∀ j,0<=up s.hold k (s.hold k+1) j:=λj=>by
  by_cases e:j=k
  ·rw[e,be];exact Int.add_nonneg (I.hp k) (by decide)
  ·rw[aY e];exact I.hp j
 unfold St.got;by_cases hk:k∈s.row
 ·rw[if_pos hk]
  exact { I with
   hp:=hp
   hr:=λj q=>by
    by_cases e:j=k
    ·exact e▸hk
    ·exact I.hr j (λz=>q ((aY e).trans z)) }
 ·rw[if_neg hk]
  have hk2:k∉s.room:=λm=>hk (fA m)
  exact { I with
   nd:=z5s (z9o I) hk2
   le:=by show(s.room++[k]).length<=8;rw[pF];exact z4f I (R hk)
   bd:=λj m=>(List.mem_append.mp m).elim (λm=>I.bd j (fA m)) λm=>List.mem_singleton.mp m▸⟨h1,h2⟩
   dl:=λj m=>by
    by_cases e:j=k
    ·rw[e];exact(congrArg List.length (be ..)).trans (I.dk k)
    ·exact(congrArg List.length (aY e)).trans (I.dl j ((List.mem_append.mp m).elim fA λm=>absurd (List.mem_singleton.mp m) e))
   hp:=hp
   hr:=λj q=>by
    by_cases e:j=k
    ·exact e▸ph _ (.head _)
    ·have q':s.hold j≠0:=λz=>q ((aY e).trans z)
     exact pz _ (z4g (I.hr j q') (iS (.inl q')))
   gr:=λj q=>pz _ (z4g (I.gr j q) (iS (.inr q))) }
theorem bh:k∈(s.got k).row:=by
 unfold St.got;by_cases hk:k∈s.row
 ·rw[if_pos hk];exact hk
 ·rw[if_neg hk];exact ph _ (.head _)
theorem fo:(s.got k).hold=up s.hold k (s.hold k+1):=by
 unfold St.got;by_cases hk:k∈s.row
 ·rw[if_pos hk]
 ·rw[if_neg hk]
theorem z5h:(s.got k).grp=s.grp:=by
 unfold St.got;by_cases hk:k∈s.row
 ·rw[if_pos hk]
 ·rw[if_neg hk]
theorem z5g:(s.got k).dsk=s.dsk:=by
 unfold St.got;by_cases hk:k∈s.row
 ·rw[if_pos hk]
 ·rw[if_neg hk]
theorem fO:(s.got k).calls=s.calls:=by
 unfold St.got;by_cases hk:k∈s.row
 ·rw[if_pos hk]
 ·rw[if_neg hk]
theorem gE (I:Inv s):(s.got k).hold k≠0:=by
 rw[fo,be];exact Int.ne_of_gt (Int.lt_add_one_of_le (I.hp k))
theorem fy {r:List Int}(h:k∈r):r.Perm (r.erase k++[k]):=(List.perm_cons_erase h).trans (List.perm_append_singleton k _).symm
theorem Inv.perm {r:List Int}(I:Inv s)(p:s.row.Perm r):Inv (s.setRow r):={ I with
 nd:=p.nodup_iff.mp I.nd
 le:=p.length_eq▸I.le
 bd:=λj m=>I.bd j (p.mem_iff.mpr m)
 dl:=λj m=>I.dl j (p.mem_iff.mpr m)
 hr:=λj q=>p.mem_iff.mp (I.hr j q)
 gr:=λj q=>p.mem_iff.mp (I.gr j q) }
theorem COk.perm {r:List Int}(C:COk c s)(p:s.row.Perm r):COk c (s.setRow r):={ C with
 bn:=λj=>by
  rw[C.bn j];by_cases m:j∈s.row
  ·rw[if_pos m];exact(if_pos (p.mem_iff.mp m)).symm
  ·rw[if_neg m];exact(if_neg λq=>m (p.mem_iff.mpr q)).symm }
theorem Inv.setHold {v:Int}(I:Inv s)(hk:k∈s.row)(hv:0<=v):Inv (s.setHold k v):={ I with
 hp:=λj=>by
  show 0<=up s.hold k v j;by_cases e:j=k
  ·rw[e,be];exact hv
  ·rw[aY e];exact I.hp j
 hr:=λj q=>by
  by_cases e:j=k
  ·exact e▸hk
  ·exact I.hr j λz=>q ((aY e).trans z) }
theorem COk.setHold {v:Int}(C:COk c s):COk c (s.setHold k v):=⟨C.bn,C.bk,C.la,C.lk,C.kk,C.nt,C.nk,C.pn,C.uf,C.ul⟩
theorem Inv.letGo (I:Inv s)(hk:k∈s.row)(hh:s.hold k≠0):Inv (s.letGo k):=by
 have:=I.hp k;have J9:=I.setHold hk (v:=s.hold k-1) (Int.le_sub_one_of_lt (Int.lt_iff_le_and_ne.mpr ⟨this,qY hh⟩));unfold St.letGo;by_cases e:s.hold k=1
 ·rw[if_pos e];exact J9.perm (fy hk)
 ·rw[if_neg e];exact J9
theorem COk.letGo (C:COk c s)(hk:k∈s.row):COk c (s.letGo k):=by
 unfold St.letGo;by_cases e:s.hold k=1
 ·rw[if_pos e];exact(C.setHold (k:=k)).perm (fy hk)
 ·rw[if_neg e];exact C.setHold
theorem eO:(s.letGo k).hold=up s.hold k (s.hold k-1):=by
 unfold St.letGo;by_cases e:s.hold k=1
 ·rw[if_pos e];rfl
 ·rw[if_neg e];rfl
theorem z2N (hk:k∈s.row){j:Int}:j∈(s.letGo k).row↔j∈s.row:=by
 unfold St.letGo;by_cases e:s.hold k=1
 ·rw[if_pos e];exact(fy hk).mem_iff.symm
 ·rw[if_neg e];exact Iff.rfl
theorem bq {Y:Type}(f:St->Y)(h:∀ s k v r,f ((St.setHold s k v).setRow r)=f s):f (s.letGo k)=f s:=by
 unfold St.letGo;by_cases e:s.hold k=1
 ·rw[if_pos e];exact h ..
 ·rw[if_neg e];exact h s k _ s.row
theorem zaD {Y:Type}{f:Int->Y}{v w:Y}:up (up f k v) k w=up f k w:=funext λj=>by
 by_cases e:j=k
 ·rw[e,be,be]
 ·rw[aY e,aY e,aY e]
theorem zaC {Y:Type}{f:Int->Y}:up f k (f k)=f:=funext λj=>by
 by_cases e:j=k
 ·rw[e,be]
 ·rw[aY e]
noncomputable def St.look (k:Int)(s:St):St:=(s.got k).letGo k
noncomputable def St.put0 (k:Int)(o:List UInt8)(s:St):St:=(((s.got k).setDat k o).setDsk k o).wrote
noncomputable def St.put (k:Int)(o:List UInt8)(s:St):St:=(s.put0 k o).letGo k
theorem Inv.look (I:Inv s)(h1:0<=k)(h2:k<12)(R:k∉s.row->Room s):Inv (s.look k):=(I.got h1 h2 R).letGo bh (gE I)
theorem Inv.setDat {o:List UInt8}(I:Inv s)(ho:o.length=16):Inv (s.setDat k o):={ I with
 dl:=λj m=>by
  show(up s.dat k o j).length=16;by_cases e:j=k
  ·rw[e,be];exact ho
  ·rw[aY e];exact I.dl j m }
theorem Inv.setDsk {o:List UInt8}(I:Inv s)(ho:o.length=16):Inv (s.setDsk k o):={ I with
 dk:=λj=>by
  show(up s.dsk k o j).length=16;by_cases e:j=k
  ·rw[e,be];exact ho
  ·rw[aY e];exact I.dk j }
theorem Inv.wrote (I:Inv s):Inv s.wrote:={ I with }
theorem Inv.put0 {o:List UInt8}(I:Inv s)(ho:o.length=16)(h1:0<=k)(h2:k<12)(R:k∉s.row->Room s):Inv (s.put0 k o):=((((I.got h1 h2 R).setDat ho).setDsk ho).wrote)
theorem Inv.put {o:List UInt8}(I:Inv s)(ho:o.length=16)(h1:0<=k)(h2:k<12)(R:k∉s.row->Room s):Inv (s.put k o):=(I.put0 ho h1 h2 R).letGo bh (gE I)
theorem oG (h:Rr J (LC x c s F))(C:COk c s)(I:Inv s)(R:k∉s.row->Room s)(h1:0<=k)(h2:k<12):
  Ok (al ah (n+4) (.fn 43) [.ref x.cache,.int k] J) (GP x c s (s.look k) F λ_=>.bytes ((s.got k).dat k)):=by
 have:=(atC h).1;have:=(atC h).2;refine(get (n:=n) h C I R h1 h2).elP λJ1 c1 e1 C1 K g1=>?_
 have I1:=I.got h1 h2 R;have:=mr (n:=n+2) g1 bh (cI (I1.dl k bh));refine(release (n:=n+1) g1 bh I1.nd I1.le C1 (gE I)).el0 λJ2 e2 g2=>?_
 have:=(atC g1).1;have:=(atC g1).2;have:=(atB g1 (bh (k:=k) (s:=s))).1;have:=(atB g1 (bh (k:=k) (s:=s))).2.1;have:=(atB g1 (bh (k:=k) (s:=s))).2.2;refine bc rfl rfl ?_;apply aq;apply aC;kst_p;assumption;rfl;assumption;rfl;rfl;kst_p;exact e1;apply aq;apply aC;kst_p;assumption;rfl;assumption;rfl;rfl;kst_p;assumption;apply av;apply aC;kst_p;assumption;rfl;assumption;rfl;rfl;kst_p;exact e2;apply aX;kst_p;exact⟨c1,rfl,C1.letGo bh,K,g2⟩
theorem poke {o:List UInt8}(h:Rr J (LC x c s F))(C:COk c s)(I:Inv s)(R:k∉s.row->Room s)(h1:0<=k)(h2:k<12)(ho:o.length=16)(hu:c.unf.length<12):
  Ok (al ah (n+4) (.fn 44) [.ref x.cache,.int k,.bytes o] J) λv J'=>v = .none/\∃ c',COk c' (s.put k o)/\(∀ j,s.hold j≠0->c'.ai j=c.ai j)/\c'.jnum=c.jnum/\c'.unf.length=c.unf.length+1/\Rr J' (LC x c' (s.put k o) F):=by
 have:=(atC h).1;have:=(atC h).2;obtain⟨v,J1,e1,c1,rfl,C1,⟨ea,ej,eu⟩,g1⟩:=get (n:=n) h C I R h1 h2;have I1:=I.got h1 h2 R;have hm:k∈(s.got k).row:=bh;refine(zcd (n:=n+2) g1 hm I1.nd ho (I1.dl k hm)).el0 λJ2 e2 g2=>?_
 have C2:COk c1 ((s.got k).setDat k o):=⟨C1.bn,C1.bk,C1.la,C1.lk,C1.kk,C1.nt,C1.nk,C1.pn,C1.uf,C1.ul⟩
 have hu1:c1.unf.length<12:=eu▸hu;refine(zaY (n:=n) g2 C2 (I1.setDat ho) hm (gE I) hu1).el0 λJ3 e3 g3=>?_
 replace g3:=(show((s.got k).setDat k o).dat k=o from be ..)▸g3;have C3:COk (c1.wr k o) (s.put0 k o):=let C4:=C2.wr (o:=o) h1 h2 hu1;⟨C4.bn,C4.bk,C4.la,C4.lk,C4.kk,C4.nt,C4.nk,C4.pn,C4.uf,C4.ul⟩
 have g3':Rr J3 (LC x (c1.wr k o) (s.put0 k o) F):=g3;refine(release (n:=n+1) g3' hm I1.nd I1.le C3 (gE I)).el0 λJ4 e4 g4=>?_
 have:=(atC g1).1;have:=(atC g1).2;have:=(atB g1 hm).1;have:=(atB g1 hm).2.1;have:=(atB g1 hm).2.2;have:=(atC g2).1;have:=(atC g2).2;have:=(atC g3').1;have:=(atC g3').2;refine bc rfl rfl ?_;apply aq;apply aC;kst_p;assumption;rfl;assumption;rfl;rfl;kst_p;exact e1;apply av;apply aC;kst_p;assumption;rfl;assumption;rfl;rfl;kst_p;exact e2;apply av;apply aC;kst_p;assumption;rfl;assumption;rfl;rfl;kst_p;exact e3;apply av;apply aC;kst_p;assumption;rfl;assumption;rfl;rfl;kst_p;exact e4;refine aH ⟨rfl,c1.wr k o,C3.letGo hm,ea,ej,?_,g4⟩;show(c1.unf++[_]).length=_;rw[pF,eu];rfl
end
section
variable {x:Fx}{c:Cv}{s:St}{F:List (Nat×O)}{k:Int}{J:MH}{n:Nat}
noncomputable def St.forgot (s:St):St:=s.setRow (s.row.filter λk=>!free s k)
noncomputable def bJ (s:St)(j:Nat):List Int:=((s.row.take j).filter λk=>!free s k)++s.row.drop j
theorem z4h (nd:s.row.Nodup){j:Nat}:(bJ s j).Nodup:=by
 have:(bJ s j).Sublist (s.row.take j++s.row.drop j):=List.filter_sublist.append_right _;rw[List.take_append_drop] at this
 exact nd.sublist this
theorem z6q {j:Nat}:(bJ s j).length<=s.row.length:=by
 have:(bJ s j).Sublist (s.row.take j++s.row.drop j):=List.filter_sublist.append_right _;rw[List.take_append_drop] at this
 exact this.length_le
theorem z2J:∀ {A B:List Int},k∉A->(A++k:: B).erase k=A++B
 | [],B,_=>List.erase_cons_head ..
 | a:: A,B,h=>by
  rw[List.cons_append,List.erase_cons_tail (by simpa using λq:a=k=>h (q▸.head _)),z2J λm=>h (.tail _ m)];rfl
theorem gU {r:List Int}{j:Nat}(e:r[j]? = rc k):r.drop j=k:: r.drop (j+1)/\r.take (j+1)=r.take j++[k]:=by
 obtain⟨h,e⟩:=List.getElem?_eq_some_iff.mp e;subst e;exact⟨List.drop_eq_getElem_cons h,by rw[List.take_add_one,oP h];rfl⟩
theorem z4V {j:Nat}(nd:s.row.Nodup)(e:s.row[j]? = rc k)(h:free s k=rg):bJ s (j+1)=(bJ s j).erase k:=by
 obtain⟨e1,e2⟩:=gU e;have nd':=z4h nd (j:=j);unfold bJ at nd' ⊢
 rw[e1] at nd' ⊢
 rw[e2,List.filter_append,pS,h,z2J λm=>(List.nodup_append.mp nd').2.2 k m k (.head _) rfl];simp
theorem z4U {j:Nat}(e:s.row[j]? = rc k)(h:free s k=rj):bJ s (j+1)=bJ s j:=by
 obtain⟨e1,e2⟩:=gU e;unfold bJ;rw[e1,e2,List.filter_append,pS,h];simp
theorem z8f {r:List Int}{c':Cv}{t:Nat×O}(h:Rr J (t:: (LCh x c' (s.setRow r)++(s.row.flatMap (buf c s)++F))))(p:s.row.Perm (k:: r)):Rr J (t:: (LCh x c' (s.setRow r)++(r.flatMap (buf c s)++F))):=(h.perm ((((p.flatMap_right _).append_right F).append_left _).cons _)).sub ((((by rw[pQ];exact List.sublist_append_right _ _:(r.flatMap (buf c s)).Sublist ((k:: r).flatMap (buf c s))).append_right F).append_left _).cons_cons _)
theorem zb6 (h:Rr J (LC x c s F))(C:COk c s)(I:Inv s):Ok (al ah (n+2) (.fn 47) [.ref x.cache] J) (BN x c s.forgot F):=by
 have:=(atC h).1;have:=(atC h).2;refine bc rfl rfl ?_;have g:=h.push (.lst (s.row.map λk=>V.ref (c.ai k)));apply dD (en:=rj) (xs:=s.row.map λk=>V.ref (c.ai k)) (a:=J.n) (I:=λj l m=>l 61=rc (.ref x.cache)/\∃ es,COk (c.bn es) (s.setRow (bJ s j))/\Rr m ((J.n,.lst (s.row.map λk=>V.ref (c.ai k))):: LC x (c.bn es) (s.setRow (bJ s j)) F))
 ·exact cV (by apply aS;kst_p;exact z79 (h.at 7 rfl) (iZ I.le)) (g.at 0 rfl)
 ·rintro _ _ _ ⟨_,_,_,h⟩;exact h.at 0 rfl
 ·exact⟨rfl,c.ebn,C,g⟩
 ·rintro j y l m ey ⟨el,es,C,h⟩
  obtain⟨k,ek,rfl⟩:∃ k,s.row[j]? = rc k/\V.ref (c.ai k)=y:=by
   rw[pR] at ey
   exact Option.map_eq_some_iff.mp ey
  have hk:k∈bJ s j:=by unfold bJ;rw[(gU ek).1];exact ph _ (.head _)
  have hk':k∈(s.setRow (bJ s j)).row:=hk;have ht:=h.tl;have:=(atC ht).1;have:=(atC ht).2;have b1:=(atB ht hk').1;have b2:=(atB ht hk').2.1;have b3:=ml (n:=n) ht C hk';replace b1:m.get (c.ai k)=rc (.inst 6 (c.an k)):=b1;replace b2:m.get (c.an k)=rc (bO (c.ad k) k (s.hold k) (c.pin k)):=b2;replace b3:al ah (n+1) (.fn 30) [.ref (c.ai k)] m = .ok (.bool (free s k)) m:=b3;refine .of rfl ?_;have el':(l.put 72 (.ref (c.ai k))) 61=rc (.ref x.cache):=el;show Ok (exSs _ _ (l.put 72 (.ref (c.ai k))) m) _;apply lu;kst_p
  ·intro fr
   apply lM;apply aI (a8 el');kst_p;rfl;kst_p;rfl;kst_p
   ·exact zc1 (h.at 9 rfl) (by rw[C.here hk'];rfl) C.bk.lim
   have h1:=h.set 9 rfl (o':=.dct (bR k es));refine Ok.ab (show Rr _ ((J.n,.lst (s.row.map λk=>V.ref (c.ai k))):: LC x (c.bn (bR k es)) (s.setRow (bJ s j)) F) from h1) λm1 h1=>?_
   have:=(atC h1.tl).1;have:=(atC h1.tl).2;have h7:m1.get x.crow=rc (.lst ((bJ s j).map λj=>V.ref (c.ai j))):=h1.at 8 rfl
   refine el12 (jt (J:=m1) (ai:=c.ai) (an:=c.an) (r:=bJ s j) hk (λi m=>b_i (c:=c.bn (bR k es)) (s:=s.setRow (bJ s j)) h1.tl m) (λi m=>z6U (c:=c.bn (bR k es)) (s:=s.setRow (bJ s j)) h1.tl m hk')) λi f1 f2=>?_
   apply av;apply bm;apply aI (a8 el');kst_p;rfl;kst_p;rfl;exact h7;rfl;kst_p
   ·exact fS h7 (by rw[qg];exact qt z6q (qt I.le (by decide))) f1
   have C2:=C.less (z4h I.nd) (k:=k);refine f2▸?_;have er:=z4V I.nd ek fr;have h2:=h1.set 8 rfl (o':=.lst (((bJ s j).erase k).map λj=>V.ref (c.ai j)));refine aH ⟨el',bR k es,?_,?_⟩
   ·rw[er];exact C2
   ·rw[er]
    exact z8f (s:=s.setRow (bJ s j)) (c:=c.bn (bR k es)) (c':=c.bn (bR k es)) (k:=k) (r:=(bJ s j).erase k) h2 (List.perm_cons_erase hk)
  ·intro fr
   refine aH ⟨el',es,?_⟩;rw[z4U ek fr];exact⟨C,h⟩
 ·rintro l m ⟨_,es,C,h⟩
  rw[qg] at C h
  have e:bJ s s.row.length=s.row.filter λk=>!free s k:=by unfold bJ;rw[List.take_length,List.drop_length,qh]
  rw[e] at C h
  exact aH ⟨rfl,es,C,h.tl⟩
end
section
variable {n:Nat}{cl:Nat->Option Nat}{l:Loc}{J J1 J2:MH}{ss:Ss}{Q:Fl×Loc->MH->Prop}{L:List (Nat×O)}
theorem lL {f:Nat}{ps cs:List Nat}{ds vs vs':List V}{b:Ss}{Q:V->MH->Prop}(h:Afn f=rc ⟨ps,cs,ds,b⟩)(h1:bL ps.length vs ds=rc vs')(h2:dz cs (λ_=>re) J = .ok cl J1)(h3:bx cl ps vs' (λ_=>re) J1 = .ok l J2)(k:Ok (exSs (CX n cl) b l J2) λr J'=>Q (cA r.1) J'):Ok (al ah (n+1) (.fn f) vs J) Q:=
 by obtain⟨_,_,e1,q⟩:=k;exact .of ((bnd (lfE h)).trans ((bnd (lfE h1)).trans ((bnd h2).trans ((bnd h3).trans ((bnd e1).trans rfl))))) q
theorem nN {y a:Nat}{u:Option V}{v:V}(h:cl y=rc a)(h1:J.get a=rc (.cell u)):bU cl y v J = .ok () (J.set a (.cell (rc v))):=(bnd (lfE h)).trans ((bnd (rdE h1)).trans rfl)
theorem mI {p a:Nat}{ps:List Nat}{v:V}{vs:List V}{u:Option V}{r:R Loc}(h:cl p=rc a)(h1:J.get a=rc (.cell u))(k:bx cl ps vs l (J.set a (.cell (rc v)))=r):bx cl (p:: ps) (v:: vs) l J=r:=by
 show(match cl p with | some _=>do bU cl p v;bx cl ps vs l | none=>bx cl ps vs (l.put p v):M Loc) J=r;rw[h];exact(bnd (nN h h1)).trans k
theorem dS {p:Nat}{ps:List Nat}{v:V}{vs:List V}{r:R Loc}(h:cl p=re)(k:bx cl ps vs (l.put p v) J=r):bx cl (p:: ps) (v:: vs) l J=r:=by
 show(match cl p with | some _=>do bU cl p v;bx cl ps vs l | none=>bx cl ps vs (l.put p v):M Loc) J=r;rw[h];exact k
theorem lw {it:Ite}{t:Tg}{body:Ss}{xs:List V}(I:List V->Loc->MH->Prop)(h:evIt (CX n cl) it l J = .ok ⟨xs,re⟩ J1)(h0:I xs l J1)
  (hs:∀ y ys l J,I (y:: ys) l J->Ok (bindT (CX n cl) t y l J) λl' J'=>Ok (exSs (CX n cl) body l' J') (Lp (I ys) Q))(he:∀ l J,I [] l J->Ok (exSs (CX n cl) ss l J) Q):Ok (exSs (CX n cl) (.cons (.loop t it body) ss) l J) Q:=by
 refine el22 (z5f (Q:=Lp (λl J=>Ok (exSs (CX n cl) ss l J) Q) Q) (it:=xs) (turn:=λx l=>do let l<-bindT (CX n cl) t x l;exSs (CX n cl) body l) (λy ys l J i=>.bind ((hs y ys l J i).mono λl1 J1 q=>q.mono λ_ _=>Lp.up)) he xs l J1 h0) λhz2 J' e1 e2=>?_;obtain⟨f,l'⟩:=hz2
 have e3:exS (CX n cl) (.loop t it body) l J = .ok (f,l') J':=(bnd h).trans e1
 induction f with
 | next=>exact .eq (bnd e3) e2
 | ret v=>exact .of (bnd e3) e2
theorem bi {op:BOp}{a b r:Int}(h:iM op a b=rc r):fc op (.int a) (.int b) J = .ok (.int r) J:=(bnd (lfE h)).trans rfl
theorem z3A {a b:Nat}{xs ys:List V}(h1:J.get a=rc (.lst xs))(h2:J.get b=rc (.lst ys))(hl:(xs++ys).length<=lim):fc .add (.ref a) (.ref b) J = .ok (.ref J.n) (J.push (.lst (xs++ys))):=(bnd (rdE h1)).trans ((bnd (rdE h2)).trans (nl hl))
theorem z3z {a b:List UInt8}(hl:a.length+b.length<=lim):fc .add (.bytes a) (.bytes b) J = .ok (.bytes (a++b)) J:=(bnd (gdE (dc hl))).trans rfl
noncomputable def b4 (v:Int):List UInt8:=[UInt8.ofNat v.toNat,0,0,0]
noncomputable def fq (ns:List Int):List UInt8:=((ns.length:Int):: ns).flatMap b4++qi (12-4*ns.length) 0
theorem lF:∀ {ns:List Int},(ns.flatMap b4).length=4*ns.length
 | []=>rfl
 | a:: r=>by rw[pQ,pF,lF,pT];exact Nat.add_comm 4 _
theorem le3 {P:Nat->Prop}(h0:P 0)(h1:P 1)(h2:P 2)(h3:P 3){k:Nat}(h:k<=3):P k:=by
 induction k with
 | zero=>exact h0
 | succ k _=>induction k with
  | zero=>exact h1
  | succ k _=>induction k with
   | zero=>exact h2
   | succ k _=>induction k with
    | zero=>exact h3
    | succ k _=>exact absurd h (Nat.not_le_of_gt (Nat.le_add_left 4 k))
theorem nI {k:Nat}(h:k<=3):4*(k+1)+(12-4*k)=16:=le3 (P:=λk=>4*(k+1)+(12-4*k)=16) rfl rfl rfl rfl h
theorem z28 {ns:List Int}(h:ns.length<=3):(fq ns).length=16:=by
 unfold fq;rw[pF,lF,pT,List.length_replicate];exact nI h
theorem bits:∀ v,v∈bg->∀ t,t∈[(0:Int),1,2,3]->iM .mul 8 t=rc (8*t)/\∃ a,iM .shr v (8*t)=rc a/\iM .and a 255=rc (if t=0 then v else 0):=by
 have h:(bg.all λv=>[(0:Int),1,2,3].all λt=>(iM .mul 8 t==rc (8*t))&&match iM .shr v (8*t) with | some a=>iM .and a 255==rc (if t=0 then v else 0) | none=>rj)=true:=by decide +kernel
 intro v hv t ht;have h1:=List.all_eq_true.mp (List.all_eq_true.mp h v hv) t ht;obtain⟨h2,h3⟩:=(Bool.and_eq_true_iff.mp h1)
 refine⟨beq_iff_eq.mp h2,?_⟩;revert h3;cases iM .shr v (8*t) with
 | none=>exact λq=>nomatch q
 | some a=>exact λq=>⟨a,rfl,beq_iff_eq.mp q⟩
theorem za9:∀ v,v∈bg->fG ([0,1,2,3].map λt=>V.int (if t=0 then v else 0))=rc (b4 v):=by
 intro v hv;have h:(bg.all λv=>decide (0<=v/\v<256))=true:=by decide
 have q:=of_decide_eq_true (List.all_eq_true.mp h v hv);show(hV v).bind _=_;unfold hV;rw[if_pos q];rfl
theorem zce {m:Nat}(h:m<=4):iM .mul 4 (m:Int)=rc (4*(m:Int)):=
 have e:small (m:Int)=true:=dc (pJ (m:=4) h (by decide))
 if_pos (show(small 4&&small (m:Int))=rg by rw[e];rfl)
theorem z4b {a:Nat}{ns:List Int}(h:Rr J L)(m:(a,O.lst (ns.map V.int))∈L)(hl:ns.length<=3)(hb:∀ v,v∈ns->v∈bg):Ok (al ah (n+1) (.fn 0) [.ref a,.int 16] J) λv J'=>v = .bytes (fq ns)/\Rr J' L:=by
 have eL:(ns.map V.int).length=ns.length:=qg ..;have hlim:(ns.map V.int).length<=lim:=by rw[eL];exact qt hl (by decide)
 have h1:=h.push (.cell re);have sm:iM .mul 4 ((ns.map V.int).length+1:Int)=rc (4*(((ns.map V.int).length:Int)+1)):=by
  rw[eL];exact zce (m:=ns.length+1) (Nat.succ_le_succ hl)
 refine lL rfl rfl rfl rfl ?_;have e1:evE (CX n (cW 4 J.n)) (.b1 .len (.loc 1)) ((Loc.put (λ_=>re) 1 (.ref a)).put 2 (.int 16)) (J.push (.cell re)) = .ok (.int (ns.map V.int).length) (J.push (.cell re)):=aS (a8 rfl) (ck (h1.mem (.tail _ m)) hlim);apply ak
 ·apply ax;apply aB;kst_p;apply aB;exact e1;kst_p;exact rfl;exact bi sm;kst_p
  exact zae (df (by rw[eL];exact le3 (P:=λk=>¬(16:Int)<4*((k:Int)+1)) (by decide) (by decide) (by decide) (by decide) hl))
 apply aq;exact rfl;have h2:=h1.push (.ba []);have h3:=h2.push (.lst [.int (ns.map V.int).length]);have h4:=h3.push (.lst (ns.map V.int));have h5:=h4.push (.lst ([.int (ns.map V.int).length]++ns.map V.int));have ez:[V.int (ns.map V.int).length]++ns.map V.int=((ns.length:Int):: ns).map V.int:=by refine eL▸?_;rfl
 rw[ez] at h5
 have hz:∀ v,v∈((ns.length:Int):: ns)->v∈bg:=λv m=>(List.mem_cons.mp m).elim (λe=>e▸z5o hl) (hb v)
 apply dD (en:=rj) (xs:=((ns.length:Int):: ns).map V.int) (a:=(((J.push (.cell re)).push (.ba [])).push (.lst [.int (ns.map V.int).length])).push (.lst (ns.map V.int)) |>.n) (I:=λj l m=>l 2=rc (.int 16)/\l 3=rc (.ref (J.push (.cell re)).n)/\∃ u,Rr m ((_,.lst (((ns.length:Int):: ns).map V.int)):: ((J.push (.cell re)).n,.ba ((((ns.length:Int):: ns).take j).flatMap b4)):: (J.n,.cell u):: L))
 ·refine cV (aB (aE (az (aS (a8 rfl) (ck (h2.mem (.tail _ (.tail _ m))) hlim))) rfl) (aS (a8 rfl) (z79 (h3.mem (.tail _ (.tail _ (.tail _ m)))) hlim)) ((z3A (h4.at 1 rfl) (h4.at 0 rfl) ?_).trans (by rw[ez]))) (h5.at 0 rfl)
  rw[pF,eL];show 1+_<=lim;exact qt (Nat.add_le_add_left hl 1) (by decide)
 ·rintro _ _ _ ⟨_,_,_,h⟩;exact h.at 0 rfl
 ·exact⟨rfl,rfl,re,h5.sub (.cons_cons _ (.cons _ (.cons _ (.refl _))))⟩
 ·rintro j y l m ey ⟨l2,l3,u,h⟩
  obtain⟨v,ev,rfl⟩:∃ v,((ns.length:Int):: ns)[j]? = rc v/\V.int v=y:=by
   rw[pR] at ey
   exact Option.map_eq_some_iff.mp ey
  have hv:=hz v (pv ev);refine .of ((bnd (nN (v:=V.int v) rfl (h.at 2 rfl))).trans rfl) ?_;have g:=h.set 2 rfl (o':=.cell (rc (.int v)));obtain⟨w,m2,e2,m3,rfl,rfl,rfl⟩:=jm (n:=n) (cl:=cW 4 J.n) (l:=l) (ys:=[0,1,2,3]) (f:=V.int) (g:=λt=>V.int (if t=0 then v else 0)) (el:=.bin .and (.bin .shr (.cel 4) (.bin .mul (.cint 8) (.loc 6))) (.cint 255)) (t:=.loc 6) (it:=.by .range (.gint 0)) (J1:=m.set J.n (.cell (rc (.int v)))) (· = m.set J.n (.cell (rc (.int v)))) rfl rfl (λt ht m' e=>by
   subst e;obtain⟨q1,b,q2,q3⟩:=bits v hv t ht;exact .of rfl (.of (aB (aB (aV rfl (g.at 2 rfl)) (aB ag (a8 rfl) (bi q1)) (bi q2)) ag (bi q3)) ⟨rfl,rfl⟩)) (by decide)
  have g2:=g.push (.lst ([0,1,2,3].map λt=>V.int (if t=0 then v else 0)));have hj:((((ns.length:Int):: ns).take j).flatMap b4).length<=16:=by
   rw[lF];have:(((ns.length:Int):: ns).take j).length<=((ns.length:Int):: ns).length:=List.length_take_le' ..;simp only[pT] at this
   exact Nat.mul_le_mul_left 4 (qt this (Nat.succ_le_succ hl))
  apply av
  ·apply bm;exact a8 l3;exact g.at 1 rfl;rfl;exact az (aS e2 (jh (g2.at 0 rfl) (show 4<=lim by decide) (za9 v hv)))
   exact z6d (g2.at 2 rfl) (qt (Nat.add_le_add_right hj 4) (by decide))
  refine aH ⟨l2,l3,rc (.int v),?_⟩;have g3:=g2.set 2 rfl (o':=.ba ((((ns.length:Int):: ns).take j).flatMap b4++b4 v));simp only[(gU ev).2,List.flatMap_append,(rfl:[v].flatMap b4=b4 v)];exact g3.tl
 ·rintro l m ⟨l2,l3,u,h⟩
  rw[show(((ns.length:Int):: ns).map V.int).length=((ns.length:Int):: ns).length from qg ..,List.take_length] at h
  have hj:(((ns.length:Int):: ns).flatMap b4).length=4*(ns.length+1):=lF;have h16:(((ns.length:Int):: ns).flatMap b4).length<=lim:=by rw[hj];exact qt (Nat.mul_le_mul_left 4 (Nat.succ_le_succ hl)) (by decide)
  have hn:((16:Int)-((((ns.length:Int):: ns).flatMap b4).length:Nat)).toNat=12-4*ns.length:=by rw[hj];exact le3 (P:=λk=>((16:Int)-((4*(k+1):Nat):Int)).toNat=12-4*k) rfl rfl rfl rfl hl
  apply aX
  ·apply aB
   ·exact aS (a8 l3) (z3E (h.at 1 rfl) h16)
   ·refine aS (aB (a8 l2) (aS (a8 l3) (lU (h.at 1 rfl) h16)) rfl) (jg (i:=(16:Int)-((((ns.length:Int):: ns).flatMap b4).length:Nat)) ⟨?_,?_⟩)
    ·rw[hj];exact le3 (P:=λk=>(0:Int)<=16-((4*(k+1):Nat):Int)) (by decide) (by decide) (by decide) (by decide) hl
    ·rw[hn];exact qt (Nat.sub_le ..) (by decide)
   ·refine z3z ?_
    rw[List.length_replicate,hn,hj];exact qt (qu (nI hl)) (by decide)
  refine⟨?_,h.tl.tl.tl⟩;show V.bytes _=V.bytes _;unfold fq;rw[hn]
end
section
variable {n:Nat}{cl:Nat->Option Nat}{l:Loc}{J J1 J2:MH}{ss:Ss}{Q:Fl×Loc->MH->Prop}{L:List (Nat×O)}
variable {x:Fx}{c:Cv}{s:St}{F:List (Nat×O)}{k:Int}
theorem z7A {m:Nat}(h:m+1<=4):4-(m+1)+1=4-m:=by
 rw[Nat.succ_sub_succ];exact(Nat.succ_sub (Nat.le_of_succ_le_succ h)).symm
theorem z6i {p:Int}(h:p∈[(0:Int),4,8,12]):c6 (.bytes bz) (.int p) (.int (p+4)) J = .ok (.bytes [0,0,0,0]) J:=by
 simp only[List.mem_cons,pZ,or_false] at h
 rcases h with rfl | rfl | rfl | rfl <;> rfl
theorem z4Q (h:Rr J L):Ok (al ah (n+1) (.fn 1) [.bytes bz] J) λv J'=>∃ b,v = .ref b/\Rr J' ((b,.lst [.int 0,.int 0,.int 0,.int 0]):: L):=by
 refine bc rfl rfl ?_;apply aq;exact aE aA rfl;have g:=h.push (.lst []);apply lw (xs:=[(0:Int),4,8,12].map V.int) (I:=λys l m=>∃ r:List Int,ys=r.map V.int/\(∀ p,p∈r->p∈[(0:Int),4,8,12])/\r.length<=4/\l 7=rc (.bytes bz)/\l 3=rc (.ref J.n)/\Rr m ((J.n,.lst (qi (4-r.length) (.int 0))):: L))
 ·rfl
 ·exact⟨[0,4,8,12],rfl,λ_ m=>m,qC 4,rfl,rfl,g⟩
 ·rintro y ys l m ⟨r,er,hr,hl,l7,l3,h⟩
  rcases r with _ | ⟨p,r⟩
  ·cases er
  cases er
  have hp:=hr p (.head _);refine .of rfl ?_;apply aq;exact ag;apply lw (xs:=[.int 0,.int 0,.int 0,.int 0]) (I:=λys l m'=>(∀ y,y∈ys->y = .int 0)/\l 4=rc (.int 0)/\l 7=rc (.bytes bz)/\l 3=rc (.ref J.n)/\m'=m)
  ·have q:evE (CX n λ_=>re) (.part (.loc 7) (.loc 8) (.bin .add (.loc 8) (.gint 0))) ((l.put 8 (.int p)).put 4 (.int 0)) m = .ok (.bytes [0,0,0,0]) m:=z5b (a8 l7) (a8 rfl) (aB (a8 rfl) (iQ rfl) rfl) (z6i hp)
   exact(bnd q).trans rfl
  ·exact⟨by simp,rfl,l7,l3,rfl⟩
  ·rintro y ys l m' ⟨hy,l4,l7,l3,rfl⟩
   obtain rfl:=hy y (.head _);refine .of rfl ?_;apply aq;exact aB (aB (a8 l4) ag rfl) (a8 rfl) rfl;exact aH ⟨λy m=>hy y (.tail _ m),rfl,l7,l3,rfl⟩
  ·rintro l m' ⟨_,l4,l7,l3,rfl⟩
   have hl:r.length+1<=4:=hl;apply av;apply bm;exact a8 l3;exact h.at 0 rfl;rfl;exact az (a8 l4)
   ·refine cm (h.at 0 rfl) ?_
    rw[List.length_replicate];exact pJ (Nat.sub_le ..) (by decide)
   refine aH ⟨r,rfl,λp m=>hr p (.tail _ m),Nat.le_of_succ_le hl,l7,l3,?_⟩;have g:=h.set 0 rfl (o':=.lst (qi (4-(p:: r).length) (.int 0)++[.int 0]));rw[show qi (4-(p:: r).length) (V.int 0)++[.int 0]=qi (4-r.length) (.int 0) from by
    rw[<-List.replicate_succ',pT,z7A hl]] at g ⊢
   exact g
 ·rintro l m ⟨r,er,_,_,l7,l3,h⟩
  cases r with
  | cons p r=>cases er
  | nil=>
  apply aX;exact a8 l3;exact⟨_,rfl,h⟩
theorem z6k (h:Rr J L):Ok (al ah (n+2) (.fn 2) [.bytes bz,.int 3] J) λv J'=>∃ b,v = .ref b/\Rr J' ((b,.lst []):: L):=by
 obtain⟨_,J1,e1,b,rfl,g⟩:=z4Q (n:=n) h;refine bc rfl rfl ?_;apply aq;exact aD rfl (az (a8 rfl)) e1;have i0 {l:Loc}(hl:l 11=rc (.ref b)):evE (CX (n+1) λ_=>re) (.idx (.loc 11) (.cint 0)) l J1 = .ok (.int 0) J1:=aW (a8 hl) ag (nZ (g.at 0 rfl) (by decide) rfl);have le {l:Loc}(hl:l 11=rc (.ref b)):evE (CX (n+1) λ_=>re) (.b1 .len (.loc 11)) l J1 = .ok (.int 4) J1:=aS (a8 hl) (ck (g.at 0 rfl) (by decide:4<=lim));apply ak
 ·apply dK;apply il;exact ax (le rfl) ag rfl
  apply il;exact ax (i0 rfl) (a8 rfl) rfl;apply jR;exact ax (i0 rfl) (le rfl) rfl
 apply aX
 ·apply z5b (a8 rfl) ag (aB ag (i0 rfl) rfl)
  exact(bnd (rdE (g.at 0 rfl))).trans ((bnd (gdE (by decide))).trans (nl (by decide:0<=lim)))
 exact⟨_,rfl,(g.push (.lst [])).sub (.cons_cons _ (.cons _ (.refl _)))⟩
theorem z9m (h:Rr J (LC x c s F))(C:COk c s)(I:Inv s)(R:Room s)(hz:(s.got 1).dat 1=bz):
  Ok (al ah (n+5) (.fn 27) [.ref x.jr] J) λv J'=>∃ c' b,v = .ref b/\COk c' (s.look 1)/\Kp s c c'/\Rr J' ((b,.lst []):: LC x c' (s.look 1) F):=by
 refine(oG (n:=n) h C I (λ_=>R) (k:=1) (by decide) (by decide)).elP λJ1 c1 e1 C1 K g1=>?_
 rw[hz] at e1
 obtain⟨_,J2,e2,b,rfl,g2⟩:=z6k (n:=n+2) g1;have:=(atJ h).1;have:=(atJ h).2;have:=(atJ g1).1;have:=(atJ g1).2;have:=(atC h).1;have:=(atC h).2;refine bc rfl rfl ?_;apply aq
 ·refine aD rfl (aa (v:=.bytes bz) (J1:=J1) ?_ (az (v:=.int 3) ?_)) e2
  ·apply aC;kst_p;assumption;rfl;assumption;rfl;rfl;exact az (by kst_p);exact e1
  ·kst_p
 apply dD (en:=rg) (xs:=[]) (a:=b) (I:=λ_ l m=>l 1=rc (.ref b)/\m=J2)
 ·exact lH (a8 rfl) (g2.at 0 rfl)
 ·rintro _ _ _ ⟨_,rfl⟩;exact g2.at 0 rfl
 ·exact⟨rfl,rfl⟩
 ·rintro _ _ _ _ e _;cases e
 ·rintro l m ⟨l1,rfl⟩
  apply aX;exact a8 l1;exact in24 c1 b rfl C1 K g2
end
section
variable {n:Nat}{J:MH}{x:Fx}{c:Cv}{s:St}{F:List (Nat×O)}{k:Int}
theorem iY (I:Inv s)(K:Cap 3 s):Room s:=by
 by_cases h8:s.row.length<8
 ·exact .inl h8
 ·refine .inr (Decidable.byContradiction λno=>?_)
  obtain⟨hl,l3,hh⟩:=K;have sub:s.row ⊆ hl++s.grp:=λk hk=>by
   by_cases e:s.hold k=0
   ·by_cases m:k∈s.grp
    ·exact ph _ m
    ·refine(no ⟨k,hk,?_⟩).elim
     unfold free;rw[e,decide_eq_false m];rfl
   ·exact pz _ (hh k e)
  have:=List.Nodup.length_le_of_subset I.nd sub;rw[pF] at this
  exact h8 (pJ (qt this (Nat.add_le_add l3 I.gl)) (by decide))
theorem fR:(s.look k).hold=s.hold:=by
 unfold St.look;rw[eO,fo,be,zaD,Int.add_sub_cancel (s.hold k) 1,zaC]
theorem jS {o:List UInt8}:(s.put k o).hold=s.hold:=by
 unfold St.put;rw[eO];show up (s.got k).hold k ((s.got k).hold k-1)=_;rw[fo,be,zaD,Int.add_sub_cancel (s.hold k) 1,zaC]
theorem z44:(s.look k).grp=s.grp:=(bq (·.grp) λ_ _ _ _=>rfl).trans z5h
theorem z5v {o:List UInt8}:(s.put k o).grp=s.grp:=(bq (·.grp) λ_ _ _ _=>rfl).trans z5h
theorem eP:(s.look k).calls=s.calls:=(bq (·.calls) λ_ _ _ _=>rfl).trans fO
theorem im {o:List UInt8}:(s.put k o).calls=s.calls:=(bq (·.calls) λ_ _ _ _=>rfl).trans fO
structure Gd (s:St):Prop where
 I:Inv s
 K:Cap 3 s
theorem Gd.R (G:Gd s){p:Prop}:p->Room s:=λ_=>iY G.I G.K
theorem Cap.of {t:St}{m:Nat}(K:Cap m s)(e:t.hold=s.hold):Cap m t:=by obtain⟨hl,l,h⟩:=K;exact⟨hl,l,λk q=>h k (by rw[<-e];exact q)⟩
theorem bf (h:k∈bg):0<=k/\k<12:=by
 have q:(bg.all λv=>decide (0<=v/\v<12))=true:=by decide
 exact of_decide_eq_true (List.all_eq_true.mp q k h)
theorem Gd.look (G:Gd s)(h:k∈bg):Gd (s.look k):=⟨G.I.look (bf h).1 (bf h).2 G.R,G.K.of fR⟩
theorem Gd.put {o:List UInt8}(G:Gd s)(h:k∈bg)(ho:o.length=16):Gd (s.put k o):=⟨G.I.put ho (bf h).1 (bf h).2 G.R,G.K.of jS⟩
theorem Gd.num (G:Gd s)(h:k∈s.grp):k∈bg:=dZ (G.I.bd k (G.I.gr k h))
theorem Gd.dat (G:Gd s)(h:k∈bg):((s.got k).dat k).length=16:=(G.I.got (bf h).1 (bf h).2 G.R).dl k bh
noncomputable def K2 (s:St)(c c':Cv):Prop:=(∀ j,s.hold j≠0->c'.ai j=c.ai j)/\c'.jnum=c.jnum
theorem K2.trans {t:St}{c' c'':Cv}(h:K2 s c c')(h2:K2 t c' c'')(e:t.hold=s.hold):K2 s c c'':=⟨λj q=>(h2.1 j (by rw[e];exact q)).trans (h.1 j q),h2.2.trans h.2⟩
noncomputable def St.fl (s:St):St:=(s.wFlushes (s.flushes+1))
noncomputable def St.fill1 (j n:Int)(s:St):St:=(s.look n).put (2+j) ((s.got n).dat n)
noncomputable def St.inst1 (n:Int)(s:St):St:=(s.look n).put n ((s.got n).dat n)
noncomputable def jo (g:List Int)(s:St):Nat->St
 | 0=>s
 | k+1=>(jo g s k).fill1 k (g.getD k 0)
noncomputable def iE (g:List Int)(s:St):Nat->St
 | 0=>s
 | k+1=>(iE g s k).inst1 (g.getD k 0)
noncomputable def St.filled (s:St):St:=(jo s.grp s s.grp.length).fl
noncomputable def St.headed (s:St)(ns:List Int):St:=(s.put 1 (fq ns)).fl
noncomputable def St.insted (s:St)(g:List Int):St:=(iE g s g.length).fl
theorem Gd.fl (G:Gd s):Gd s.fl:=⟨{ G.I with },G.K⟩
theorem z8E {j:Nat}(h:j<3):(2+(j:Int))∈bg:=by
 exact(by decide:∀ j:Fin 3,(2+((j.val:Nat):Int))∈bg) ⟨j,h⟩
theorem COk.fl' (C:COk c s):COk c s.fl:=⟨C.bn,C.bk,C.la,C.lk,C.kk,C.nt,C.nk,C.pn,C.uf,C.ul⟩
theorem zb3 (h:Rr J (LC x c s F))(C:COk c s):Ok (al ah (n+3) (.fn 42) [.ref x.cache] J) λv J'=>v = .none/\∃ c',COk c' s.fl/\K2 s c c'/\c'.unf=[]/\Rr J' (LC x c' s.fl F):=
 (zaU h C).mono λ_ _ z=>by obtain⟨e,es,a,K,g⟩:=z;exact⟨e,c.fl es a,(C.fl K).fl',⟨λ_ _=>rfl,rfl⟩,rfl,g⟩
structure LI (x:Fx)(c:Cv)(s t:St)(F:List (Nat×O))(u:Nat)(c':Cv)(m:MH):Prop where
 C:COk c' t
 G:Gd t
 h:t.hold=s.hold
 g:t.grp=s.grp
 K:K2 s c c'
 u:c'.unf.length<=u
 r:Rr m (LC x c' t F)
noncomputable def LN (x:Fx)(c:Cv)(s t:St)(F:List (Nat×O))(u:Nat)(w:V):V->MH->Prop:=λv J'=>v=w/\∃ c',LI x c s t F u c' J'
theorem LI.start (h:Rr J (LC x c s F))(C:COk c s)(G:Gd s)(hu:c.unf=[]):LI x c s s F 0 c J:=⟨C,G,rfl,rfl,⟨λ_ _=>rfl,rfl⟩,hu▸qC _,h⟩
theorem LI.looked {t:St}{u:Nat}{c':Cv}(h:LI x c s t F u c' J)(hk:k∈bg):Ok (al ah (n+4) (.fn 43) [.ref x.cache,.int k] J) (LN x c s (t.look k) F u (.bytes ((t.got k).dat k))):=by
 obtain⟨v,J1,e1,c1,e2,C1,K1,g1⟩:=oG (n:=n) h.r h.C h.G.I h.G.R (bf hk).1 (bf hk).2;exact .of e1 ⟨e2,c1,C1,h.G.look hk,fR.trans h.h,z44.trans h.g,h.K.trans ⟨K1.1,K1.2.1⟩ h.h,K1.2.2▸h.u,g1⟩
theorem LI.putted {t:St}{u:Nat}{c':Cv}{o:List UInt8}(h:LI x c s t F u c' J)(hk:k∈bg)(ho:o.length=16)(hu:u<12):Ok (al ah (n+4) (.fn 44) [.ref x.cache,.int k,.bytes o] J) (LN x c s (t.put k o) F (u+1) .none):=by
 obtain⟨v,J1,e1,e2,c1,C1,ea,ej,eu,g1⟩:=poke (n:=n) h.r h.C h.G.I h.G.R (bf hk).1 (bf hk).2 ho (pJ h.u hu);exact .of e1 ⟨e2,c1,C1,h.G.put hk ho,jS.trans h.h,z5v.trans h.g,h.K.trans ⟨ea,ej⟩ h.h,eu▸Nat.succ_le_succ h.u,g1⟩
theorem LI.flushed {t:St}{u:Nat}{c':Cv}(h:LI x c s t F u c' J):Ok (al ah (n+3) (.fn 42) [.ref x.cache] J) (LN x c s t.fl F 0 .none):=by
 obtain⟨v,J1,e1,e2,c1,C1,K1,eu,g1⟩:=zb3 (n:=n) h.r h.C;exact .of e1 ⟨e2,c1,C1,h.G.fl,h.h,h.g,h.K.trans K1 h.h,eu▸qC _,g1⟩
theorem iT {g:List Int}{j:Nat}{v:Int}(e:g[j]? = rc v):g.getD j 0=v:=by rw[List.getD_eq_getElem?_getD,e];rfl
theorem z7v {c0:Cv}{s0:St}(h:LI x c0 s0 s F 0 c J):
  Ok (al ah (n+5) (.fn 24) [.ref x.jr] J) (LN x c0 s0 s.filled F 0 .none):=by
 have:=(atJ h.r).1;have:=(atJ h.r).2;have G:=h.G;refine bc rfl rfl ?_;apply dD (en:=rg) (xs:=s.grp.map V.int) (a:=c.jnum) (I:=λj l m=>l 61=rc (.ref x.jr)/\∃ c',LI x c0 s0 (jo s.grp s j) F j c' m)
 ·exact lH (by kst_p) (h.r.at 11 rfl)
 ·rintro j l m ⟨_,c',h'⟩
  have:=h'.r.at 11 rfl
  rw[h'.g,<-h.g,h'.K.2,<-h.K.2] at this;exact this
 ·exact⟨rfl,c,h⟩
 ·rintro j y l m ey ⟨el,c1,h1⟩
  obtain⟨k,ek,rfl⟩:∃ k,s.grp[j]? = rc k/\V.int k=y:=by
   rw[pR] at ey
   exact Option.map_eq_some_iff.mp ey
  have hk:=G.num (pv ek);have hj:j<3:=Nat.lt_of_lt_of_le (List.getElem?_eq_some_iff.mp ek).1 G.I.gl;refine(h1.looked (n:=n) hk).el1 λm1 c2 e1 h2=>?_
  refine(h2.putted (n:=n) (z8E hj) (h1.G.dat hk) (Nat.lt_trans hj (by decide))).el1 λm2 c3 e2 h3=>?_
  have:=(atJ h1.r).1;have:=(atJ h1.r).2;have:=(atC h1.r).1;have:=(atC h1.r).2;have:=(atJ h2.r).1;have:=(atJ h2.r).2;have:=(atC h2.r).1;have:=(atC h2.r).2;have el':((l.put 8 (.int (qK j))).put 16 (.int k)) 61=rc (.ref x.jr):=el;refine .of rfl ?_;apply av;apply aC;apply aI (a8 el');assumption;rfl;assumption;rfl;assumption;rfl;assumption;rfl;rfl
  ·apply aa (v:=.int (2+(j:Int)))
   ·apply aB;apply aB;apply aI (a8 el');assumption;rfl;assumption;rfl;exact ag;rfl;exact a8 rfl;rfl
   ·apply az;apply aC;apply aI (a8 el');assumption;rfl;assumption;rfl;assumption;rfl;assumption;rfl;rfl;exact az (a8 rfl);exact e1
  ·exact e2
  refine aH ⟨el',c3,?_⟩;show LI x c0 s0 ((jo s.grp s j).fill1 j (s.grp.getD j 0)) F (j+1) c3 m2;refine(iT ek)▸?_;exact h3
 ·rintro l m ⟨el,c1,h1⟩
  rw[qg] at h1
  refine(h1.flushed (n:=n+1)).el1 λm1 c2 e1 h2=>?_
  have:=(atJ h1.r).1;have:=(atJ h1.r).2;have:=(atC h1.r).1;have:=(atC h1.r).2;apply av;apply aC;apply aI (a8 el);assumption;rfl;assumption;rfl;assumption;rfl;assumption;rfl;rfl;exact aA;exact e1;exact aH ⟨rfl,c2,h2⟩
end
section
variable {n:Nat}{J:MH}{x:Fx}{c c0:Cv}{s s0:St}{F:List (Nat×O)}{k:Int}
theorem z2l {a:Nat}{ns:List Int}(h:LI x c0 s0 s F 0 c J)(m:(a,O.lst (ns.map V.int))∈LC x c s F)(hl:ns.length<=3)(hb:∀ v,v∈ns->v∈bg):
  Ok (al ah (n+5) (.fn 25) [.ref x.jr,.ref a] J) (LN x c0 s0 (s.headed ns) F 0 .none):=by
 have:=(atJ h.r).1;have:=(atJ h.r).2;have:=(atC h.r).1;have:=(atC h.r).2;refine(z4b (n:=n+3) h.r m hl hb).el0 λm1 e1 g1=>?_
 have h1:LI x c0 s0 s F 0 c m1:={ h with r:=g1 }
 refine(h1.putted (n:=n) (k:=1) (by decide) (z28 hl) (by decide)).el1 λm2 c2 e2 h2=>?_
 have h2':LI x c0 s0 (s.put 1 (fq ns)) F 1 c2 m2:=h2;obtain⟨_,m3,e3,rfl,c3,h3⟩:=h2'.flushed (n:=n+1);have:=(atC g1).1;have:=(atC g1).2;have:=(atJ h2.r).1;have:=(atJ h2.r).2;have:=(atC h2.r).1;have:=(atC h2.r).2;refine bc rfl rfl ?_;apply av;apply aC;kst_p;assumption;rfl;assumption;rfl;rfl
 ·apply aa;kst_p;apply az;apply aD rfl;kst_p;exact e1
 ·exact e2
 apply av;apply aC;kst_p;assumption;rfl;assumption;rfl;rfl;exact aA;exact e3;exact aH ⟨rfl,c3,h3⟩
theorem z94 (h:LI x c0 s0 s F 0 c J):Ok (al ah (n+5) (.fn 26) [.ref x.jr,.ref c.jnum,.bool rj] J) (LN x c0 s0 (s.insted s.grp) F 0 .none):=by
 have G:=h.G;refine bc rfl rfl ?_;apply dD (en:=rg) (xs:=s.grp.map V.int) (a:=c.jnum) (I:=λj l m=>l 61=rc (.ref x.jr)/\l 85=rc (.bool rj)/\∃ c',LI x c0 s0 (iE s.grp s j) F j c' m)
 ·exact lH (a8 rfl) (h.r.at 11 rfl)
 ·rintro j l m ⟨_,_,c',h'⟩
  have:=h'.r.at 11 rfl
  rw[h'.g,<-h.g,h'.K.2,<-h.K.2] at this;exact this
 ·exact⟨rfl,rfl,c,h⟩
 ·rintro j y l m ey ⟨el,el2,c1,h1⟩
  obtain⟨k,ek,rfl⟩:∃ k,s.grp[j]? = rc k/\V.int k=y:=by
   rw[pR] at ey
   exact Option.map_eq_some_iff.mp ey
  have hk:=G.num (pv ek);have hj:j<3:=Nat.lt_of_lt_of_le (List.getElem?_eq_some_iff.mp ek).1 G.I.gl;refine(h1.looked (n:=n) hk).el1 λm1 c2 e1 h2=>?_
  refine(h2.putted (n:=n) hk (h1.G.dat hk) (Nat.lt_trans hj (by decide))).el1 λm2 c3 e2 h3=>?_
  have:=(atJ h1.r).1;have:=(atJ h1.r).2;have:=(atC h1.r).1;have:=(atC h1.r).2;have:=(atJ h2.r).1;have:=(atJ h2.r).2;have:=(atC h2.r).1;have:=(atC h2.r).2;have el':((l.put 8 (.int (qK j))).put 16 (.int k)) 61=rc (.ref x.jr):=el;have el2':((l.put 8 (.int (qK j))).put 16 (.int k)) 85=rc (.bool rj):=el2;refine .of rfl ?_;apply aq;apply aC;apply aI (a8 el');assumption;rfl;assumption;rfl;assumption;rfl;assumption;rfl;rfl
  ·exact az (fN (a8 el2') (a8 rfl))
  ·exact e1
  have el3:(((l.put 8 (.int (qK j))).put 16 (.int k)).put 7 (.bytes ((St.got k (iE s.grp s j)).dat k))) 61=rc (.ref x.jr):=el;apply av;apply aC;apply aI (a8 el3);assumption;rfl;assumption;rfl;assumption;rfl;assumption;rfl;rfl
  ·exact aa (a8 rfl) (az (a8 rfl))
  ·exact e2
  refine aH ⟨el',el2',c3,?_⟩;show LI x c0 s0 ((iE s.grp s j).inst1 (s.grp.getD j 0)) F (j+1) c3 m2;refine(iT ek)▸?_;exact h3
 ·rintro l m ⟨el,_,c1,h1⟩
  rw[qg] at h1
  refine(h1.flushed (n:=n+1)).el1 λm1 c2 e1 h2=>?_
  have:=(atJ h1.r).1;have:=(atJ h1.r).2;have:=(atC h1.r).1;have:=(atC h1.r).2;apply av;apply aC;apply aI (a8 el);assumption;rfl;assumption;rfl;assumption;rfl;assumption;rfl;rfl;exact aA;exact e1;exact aH ⟨rfl,c2,h2⟩
noncomputable def St.com0 (s:St):St:=((s.filled.headed s.grp).insted s.grp).headed []
noncomputable def St.commit (s:St):St:={ s.com0 with grp:=[] }
noncomputable def CT (x:Fx)(c0:Cv)(s0 t:St)(F:List (Nat×O)):V->MH->Prop:=λv J'=>v = .none/\∃ c',COk c' t/\Gd t/\t.hold=s0.hold/\(∀ j,s0.hold j≠0->c'.ai j=c0.ai j)/\c'.unf=[]/\Rr J' (LC x c' t F)
theorem commit (h:LI x c0 s0 s F 0 c J):Ok (al ah (n+6) (.fn 23) [.ref x.jr] J) (CT x c0 s0 s.commit F):=by
 have:=(atJ h.r).1;have:=(atJ h.r).2;have gs:s.grp=s0.grp:=h.g;have gl:=h.G.I.gl;have gb:∀ v,v∈s.grp->v∈bg:=λv m=>h.G.num m
 refine(z7v (n:=n) h).el1 λm1 c1 e1 h1=>?_
 have:=(atJ h1.r).1;have:=(atJ h1.r).2;have g1:=h1.g.trans gs.symm;have j1:(c1.jnum,O.lst (s.grp.map V.int))∈LC x c1 s.filled F:=by
  have:(LC x c1 s.filled F)[11]? = rc (c1.jnum,O.lst (s.filled.grp.map V.int)):=rfl;rw[g1] at this
  exact pv this
 refine(z2l (n:=n) h1 j1 gl gb).el1 λm2 c2 e2 h2=>?_
 have:=(atJ h2.r).1;have:=(atJ h2.r).2;have g2:=h2.g.trans gs.symm;refine(z94 (n:=n) h2).el1 λm3 c3 e3 h3=>?_
 replace h3:=g2▸h3;have:=(atJ h3.r).1;have:=(atJ h3.r).2;have h3':LI x c0 s0 ((s.filled.headed s.grp).insted s.grp) ((m3.n,.lst []):: F) 0 c3 (m3.push (.lst [])):={ h3 with r:=(h3.r.push (.lst [])).perm (by unfold LC;rw[<-pK,<-pK];exact List.perm_middle.symm) }
 refine(z2l (n:=n) (ns:=[]) (a:=m3.n) h3' (ph _ (ph _ (.head _))) (qB _) (λ_ q=>nomatch q)).el1 λm4 c4 e4 h4=>?_
 have h5:LI x c0 s0 s.com0 F 0 c4 m4:={ h4 with r:=h4.r.sub ((((oW _ _)).append_left _).append_left _) }
 have:=(atJ h5.r).1;have:=(atJ h5.r).2;have g5:s.com0.grp=s.grp:=h5.g.trans gs.symm;refine bc rfl rfl ?_;apply av;apply aC;kst_p;assumption;rfl;assumption;rfl;rfl;exact aA;exact e1;apply av;apply aC;kst_p;assumption;rfl;assumption;rfl;rfl;kst_p;exact e2;apply av;apply aC;kst_p;assumption;rfl;assumption;rfl;rfl;kst_p;exact e3;apply av;apply aC;kst_p;assumption;rfl;assumption;rfl;rfl;exact az (aE aA rfl);exact e4;apply dD (en:=rj) (xs:=s.grp.map V.int) (a:=c4.jnum) (I:=λj l m=>l 61=rc (.ref x.jr)/\∃ p:Int->Int,(∀ i,p i=if i∈s.grp.drop j then 1 else 0)/\Rr m (LC x { c4 with pin:=p } s.com0 F))
 ·refine cV (by kst_p) ?_
  refine g5▸?_;exact h5.r.at 11 rfl
 ·rintro j l m ⟨_,p,_,h'⟩
  have:=h'.at 11 rfl
  rw[g5] at this;exact this
 ·refine⟨rfl,c4.pin,λi=>?_,h5.r⟩
  rw[h5.C.pn i,g5];rfl
 ·rintro j y l m ey ⟨el,p,hp,h6⟩
  obtain⟨k,ek,rfl⟩:∃ k,s.grp[j]? = rc k/\V.int k=y:=by
   rw[pR] at ey
   exact Option.map_eq_some_iff.mp ey
  obtain⟨d1,_⟩:=gU ek;have hk:k∈s.com0.row:=h5.G.I.gr k (g5▸pv ek);have pk:p k=1:=by rw[hp k,d1];exact if_pos (.head _)
  have hb:af k ({ c4 with pin:=p }:Cv).ebn=rc (.ref (({ c4 with pin:=p }:Cv).ai k)):=h5.C.here hk;refine(zcO (n:=n+4) h6 hb hk h5.G.I.nd (by show p k≠0;rw[pk];decide)).el0 λm1 e1 h7=>?_
  have:=(atJ h6).1;have:=(atJ h6).2;have:=(atC h6).1;have:=(atC h6).2;have el':(l.put 16 (.int k)) 61=rc (.ref x.jr):=el;refine .of rfl ?_;apply av;apply aC;apply aI (a8 el');assumption;rfl;assumption;rfl;assumption;rfl;assumption;rfl;rfl;exact az (a8 rfl);exact e1;refine aH ⟨el',up p k (p k-1),λi=>?_,h7⟩;have nk:k∉s.grp.drop (j+1):=by
   have:=h.G.I.gn.sublist (List.drop_sublist j _);simp only[d1] at this
   exact(List.nodup_cons.mp this).1
  by_cases e:i=k
  ·rw[e,be,pk,if_neg nk];rfl
  ·rw[aY e,hp i,d1]
   by_cases mi:i∈s.grp.drop (j+1)
   ·rw[if_pos mi,if_pos (.tail _ mi)]
   ·rw[if_neg mi,if_neg];intro q;exact(List.mem_cons.mp q).elim e mi
 ·rintro l m ⟨el,p,hp,h6⟩
  rw[qg,List.drop_length] at hp
  have h7:=h6.push (.lst []);apply dC;exact aE aA rfl;exact a8 el
  ·apply sa;exact h7.at 10 rfl;rfl;exact h7.at 11 rfl;rfl
  refine Ok.ab (show Rr _ (LC x { c4 with pin:=p,jnum:=m.n } { s.com0 with grp:=[] } F) from(h7.set 11 rfl).repl (A:=[_,_,_,_,_,_,_,_,_,_,_])) λm2 h8=>?_
  have h9:=h8.push (.dct []);apply dC;exact rfl;exact a8 el
  ·apply sa;exact h9.at 10 rfl;rfl;exact h9.at 11 rfl;rfl
  refine Ok.ab (show Rr _ (LC x { c4 with pin:=p,jnum:=m.n,jnot:=m2.n,enot:=[] } { s.com0 with grp:=[] } F) from(h9.set 11 rfl).repl (A:=[_,_,_,_,_,_,_,_,_,_,_,_])) λm3 h10=>?_
  apply eA;exact a8 el;exact h10.at 9 rfl;rfl;exact h10.at 10 rfl;rfl;exact ag;rfl;rfl
  have C:=h5.C;have u0:c4.unf=[]:=oK (Nat.le_zero.mp h5.u);refine aH ⟨rfl,{ c4 with pin:=p,jnum:=m.n,jnot:=m2.n,enot:=[],com:=c4.com+1 },?_,⟨?_,h5.G.K⟩,h5.h,h5.K.1,u0,h10.set 10 rfl⟩
  ·exact { C with nt:=λi=>rfl,nk:=Ks.nil,pn:=hp }
  ·exact { h5.G.I with gr:=(λ_ q=>nomatch q),gl:=qB _,gn:=.nil,go:=(λ_ q=>nomatch q) }
end
section
variable {n:Nat}{J J1 J2:MH}{x:Fx}{c c0:Cv}{s s0:St}{F:List (Nat×O)}{k:Int}{cl:Nat->Option Nat}{l:Loc}
theorem z7S {j:Nat}{cs:Nat->Option Nat}{e:E}(hl:ky j=rc e)(h:l 13=rc (.clo j cs)):evE (CX (n+1) cl) (.dyn (.loc 13)) l J=evE (CX n cs) e (λ_=>re) J:=
 (bnd (a8 h)).trans ((bnd (lfE hl)).trans (bnd (gdE rfl)))
theorem z80 {j:Nat}{cs:Nat->Option Nat}{e:E}{v:V}(hl:ky j=rc e)(h:evE (CX n cs) e (λ_=>re) J = .ok v J1):al ah (n+2) (.fn 3) [.clo j cs] J = .ok v J1:=by
 have q:exS (CX (n+1) λ_=>re) (.tryRet (.dyn (.loc 13)) [(3,.cstr 14),(1,.cstr 15)]) (Loc.put (λ_=>re) 13 (.clo j cs)) J = .ok (.ret v,Loc.put (λ_=>re) 13 (.clo j cs)) J1:=by
  show fh ah _ _ _ (evE (CX (n+1) λ_=>re) (.dyn (.loc 13)) (Loc.put (λ_=>re) 13 (.clo j cs)) J)=_;rw[z7S hl rfl,h];rfl
 have q2:exSs (CX (n+1) λ_=>re) f0 _ J = .ok (.ret v,_) J1:=(bnd q).trans rfl;exact(mR rfl rfl).trans ((bnd q2).trans rfl)
theorem z5q {j:Nat}{cs:Nat->Option Nat}{e:E}{i w:Nat}(hl:ky j=rc e)(h:evE (CX n cs) e (λ_=>re) J = .exc i J1)(hw:(i=3/\w=14)∨(i=1/\w=15)):al ah (n+2) (.fn 3) [.clo j cs] J = .ok (.str w) J1:=by
 have q:exS (CX (n+1) λ_=>re) (.tryRet (.dyn (.loc 13)) [(3,.cstr 14),(1,.cstr 15)]) (Loc.put (λ_=>re) 13 (.clo j cs)) J = .ok (.ret (.str w),Loc.put (λ_=>re) 13 (.clo j cs)) J1:=by
  show fh ah _ _ _ (evE (CX (n+1) λ_=>re) (.dyn (.loc 13)) (Loc.put (λ_=>re) 13 (.clo j cs)) J)=_;rw[z7S hl rfl,h]
  rcases hw with ⟨rfl,rfl⟩ | ⟨rfl,rfl⟩ <;> rfl
 have q2:exSs (CX (n+1) λ_=>re) f0 _ J = .ok (.ret (.str w),_) J1:=(bnd q).trans rfl;exact(mR rfl rfl).trans ((bnd q2).trans rfl)
theorem eU {ss:Ss}{r:R (Fl×Loc)}{c:E}{a b:Ss}(h:evE (CX n cl) c l J = .ok (.bool rg) J1)(k:exSs (CX n cl) (kh a ss) l J1=r):exSs (CX n cl) (.cons (.cond c a b) ss) l J=r:=(z4v h).trans k
theorem j6 {ss:Ss}{r:R (Fl×Loc)}{c:E}{a b:Ss}(h:evE (CX n cl) c l J = .ok (.bool rj) J1)(k:exSs (CX n cl) (kh b ss) l J1=r):exSs (CX n cl) (.cons (.cond c a b) ss) l J=r:=(z4u h).trans k
theorem zaw {o:E}{m f a i c d:Nat}{b:Option BM}{as:Es}{fs:List (Nat×V)}{vs:List V}(h:evE (CX n cl) o l J = .ok (.ref a) J1)(h1:J1.get a=rc (.inst c d))(hm:mU c m=rc f)(h2:J1.get d=rc (.ns fs))(h3:(af m fs).isNone=rg)(hf:qX f 14=rj)(h4:evEs (CX n cl) as l J1 = .ok vs J1)(h5:al ah n (.fn f) (.ref a:: vs) J1 = .exc i J2):
  evE (CX n cl) (.meth o m b as) l J = .exc i J2:=(zav h h1 hm h2 h3 hf).trans ((bnd h4).trans h5)
noncomputable def St.begun (s:St):St:=(s.wCalls (s.calls+1))
theorem z72 (h:Rr J (LC x c s F))(hg:s.grp.length<=3)(h0:0<=s.calls)(h3:s.calls<=3)(hr:(s.grp.length:Int)+s.calls+1<=3):Ok (al ah (n+2) (.fn 20) [.ref x.jr] J) (CN x c s.begun F):=by
 have:=(atJ h).1;have:=(atJ h).2;have q:=z3W (n:=n) h hg h0 h3;rw[decide_eq_true hr] at q
 refine bc rfl rfl ?_;apply ak;kst_p;apply eA;iterate 8 kst_p
 exact aH ⟨rfl,h.set 10 rfl⟩
theorem z71 (h:Rr J (LC x c s F))(hg:s.grp.length<=3)(h0:0<=s.calls)(h3:s.calls<=3)(hr:¬(s.grp.length:Int)+s.calls+1<=3):al ah (n+2) (.fn 20) [.ref x.jr] J = .exc 3 J:=by
 have:=(atJ h).1;have:=(atJ h).2;have q:=z3W (n:=n) h hg h0 h3;rw[decide_eq_false hr] at q
 refine jQ rfl rfl ?_;apply eU;kst_p;exact dG rfl rfl
theorem z9T (h:Rr J (LC x c s F))(h0:s.calls=0){a:Nat}:al ah (n+2) (.fn 21) [.ref x.jr,.ref a] J = .exc 1 J:=by
 have:=(atJ h).1;have:=(atJ h).2;refine jQ rfl rfl ?_;apply eU;kst_p;exact dG rfl rfl
theorem z9U (h:Rr J (LC x c s F))(h0:s.calls≠0)(hk:k∈s.row)(ho:1<=k/\k<=4):al ah (n+2) (.fn 21) [.ref x.jr,.ref (c.ai k)] J = .exc 1 J:=by
 have:=(atJ h).1;have:=(atJ h).2;have:=(atB h hk).1;have:=(atB h hk).2.1;have:=(atB h hk).2.2;have q:=z7K (n:=n) (k:=k) h;rw[decide_eq_true ho.1,decide_eq_true (Int.lt_of_le_of_lt ho.2 (by decide))] at q
 replace q:al ah (n+1) (.fn 17) [.ref x.jr,.int k] J = .ok (.bool rg) J:=q;refine jQ rfl rfl ?_;apply j6;kst_p;apply eU;kst_p;exact dG rfl rfl
theorem mu (h:Rr J (LC x c s F))(ho:¬(1<=k/\k<=4)):al ah (n+1) (.fn 17) [.ref x.jr,.int k] J = .ok (.bool rj) J:=by
 rw[z7K h]
 congr 2
 by_cases e:1<=k
 ·rw[decide_eq_false (show ¬ k<5 by omega),Bool.and_false]
 ·rw[decide_eq_false e,Bool.false_and]
theorem z9V (h:Rr J (LC x c s F))(C:COk c s)(h0:s.calls≠0)(hk:k∈s.row)(ho:¬(1<=k/\k<=4))(hg:k∈s.grp)(hh:s.hold k≠0):al ah (n+2) (.fn 21) [.ref x.jr,.ref (c.ai k)] J = .ok .none J:=by
 have:=(atJ h).1;have:=(atJ h).2;have:=(atB h hk).1;have:=(atB h hk).2.1;have:=(atB h hk).2.2;have:=(atC h).1;have:=(atC h).2;have q:=mu (n:=n) h ho;have q2:=fU (n:=n) h hk (C.here hk) hh;have q3:=(fK (i:=k) (h.at 12 rfl)).trans (congrArg (R.ok · J) ((C.nt k).trans (decide_eq_true hg)))
 refine fx rfl rfl ?_;apply ak;kst_p;apply ak;kst_p;apply aN;kst_p;apply av;kst_p;exact jU ⟨rfl,rfl⟩
theorem z9W (h:Rr J (LC x c s F))(C:COk c s)(h0:s.calls≠0)(hk:k∈s.row)(ho:¬(1<=k/\k<=4))(hg:k∉s.grp)(hl:s.grp.length=3):al ah (n+2) (.fn 21) [.ref x.jr,.ref (c.ai k)] J = .exc 3 J:=by
 have:=(atJ h).1;have:=(atJ h).2;have:=(atB h hk).1;have:=(atB h hk).2.1;have:=(atB h hk).2.2;have:=(atC h).1;have:=(atC h).2;have q:=mu (n:=n) h ho;have q3:=(fK (i:=k) (h.at 12 rfl)).trans (congrArg (R.ok · J) ((C.nt k).trans (decide_eq_false hg)))
 have e:(s.grp.map V.int).length=3:=(qg ..).trans hl;have q4:bN .len (.ref c.jnum) J = .ok (.int 3) J:=(ck (h.at 11 rfl) (by rw[e];decide)).trans (by rw[e];rfl)
 refine jQ rfl rfl ?_;apply j6;kst_p;apply j6;kst_p;apply j6;kst_p;apply eU;kst_p;exact dG rfl rfl
noncomputable def St.joined (k:Int)(s:St):St:=(s.wGrp (s.grp++[k]))
theorem z9X (h:Rr J (LC x c s F))(C:COk c s)(I:Inv s)(h0:s.calls≠0)(hk:k∈s.row)(ho:¬(1<=k/\k<=4))(hg:k∉s.grp)(hl:s.grp.length<3)(hh:s.hold k≠0):
  Ok (al ah (n+3) (.fn 21) [.ref x.jr,.ref (c.ai k)] J) λv J'=>v = .none/\∃ c',COk c' (s.joined k)/\c'.ai=c.ai/\c'.unf=c.unf/\Rr J' (LC x c' (s.joined k) F):=by
 have:=(atJ h).1;have:=(atJ h).2;have:=(atB h hk).1;have:=(atB h hk).2.1;have:=(atB h hk).2.2;have:=(atC h).1;have:=(atC h).2;have q:=mu (n:=n+1) h ho;have q3:=(fK (i:=k) (h.at 12 rfl)).trans (congrArg (R.ok · J) ((C.nt k).trans (decide_eq_false hg)))
 have e:(s.grp.map V.int).length=s.grp.length:=qg ..;have hlim:(s.grp.map V.int).length<=lim:=by rw[e];exact qt (Nat.le_of_lt hl) (by decide)
 have q4:=ck (h.at 11 rfl) hlim;refine(pin (n:=n) h C hk I.nd hh).el0 λm1 e1 h1=>?_
 have:=(atJ h1).1;have:=(atJ h1).2;have:=(atB h1 hk).1;have:=(atB h1 hk).2.1;have:=(atB h1 hk).2.2;have q5:=ck (h1.at 11 rfl) hlim;refine bc rfl rfl ?_;apply ak;kst_p;apply ak;kst_p;apply ak;kst_p;apply ak
 ·apply ax;kst_p;kst_p;exact zad (df (by rw[e];exact λh=>Nat.not_le_of_lt hl (Int.ofNat_le.mp h)))
 apply av;kst_p;apply eY;kst_p;kst_p;kst_p;exact jV (h1.at 12 rfl) C.nk.lim;refine bX (I.bd k hk) λb1 b2=>?_
 refine Ok.ab (h1.set 12 rfl) λm2 h2=>?_
 have g1:m2.get (c.ai k)=rc (.inst 6 (c.an k)):=b_i (c:={ c.setPin k (c.pin k+1) with enot:=aJ k (.int (s.grp.map V.int).length) c.enot }) h2 hk;have g2:=b_n (c:={ c.setPin k (c.pin k+1) with enot:=aJ k (.int (s.grp.map V.int).length) c.enot }) h2 hk;apply av;apply bm;apply aI;exact a8 rfl;exact h2.at 9 rfl;rfl;exact h2.at 10 rfl;rfl;exact h2.at 11 rfl;rfl
 ·apply az;apply aI;exact a8 rfl;exact g1;rfl;exact g2;rfl
 ·exact cm (h2.at 11 rfl) (by rw[e];exact Nat.lt_trans hl (by decide))
 have h3:=h2.set 11 rfl (o':=.lst ((s.grp++[k]).map V.int));simp only[show(s.grp.map V.int)++[.int k]=(s.grp++[k]).map V.int from by simp only[List.map_append];rfl];refine aH ⟨rfl,{ c.setPin k (c.pin k+1) with enot:=aJ k (.int (s.grp.map V.int).length) c.enot },?_,rfl,rfl,h3⟩;exact { C with
  nt:=λi=>by
   show(af i (aJ k _ c.enot)).isSome=decide (i∈s.grp++[k]);rw[aU];by_cases e:i=k
   ·rw[if_pos e,e,decide_eq_true (ph _ (.head _))];rfl
   ·rw[if_neg e,C.nt i]
    congr 1
    exact propext ⟨λm=>pz _ m,λm=>(List.mem_append.mp m).resolve_right λq=>e (List.mem_singleton.mp q)⟩
  nk:=C.nk.put b1 b2
  pn:=λi=>by
   show up c.pin k (c.pin k+1) i=if i∈s.grp++[k] then 1 else 0
   by_cases e:i=k
   ·rw[e,be,C.pn k,if_neg hg,if_pos (ph _ (.head _))];rfl
   ·rw[aY e,C.pn i]
    by_cases m:i∈s.grp
    ·rw[if_pos m,if_pos (pz _ m)]
    ·rw[if_neg m,if_neg];intro q;exact(List.mem_append.mp q).elim m λq=>e (List.mem_singleton.mp q) }
theorem dq {a b:Nat}{ns:List Int}(h1:J.get a=rc (.lst (ns.map V.int)))(h2:J.get b=rc (.lst [])):aP .eq (.ref a) (.ref b) J = .ok ns.isEmpty J:=kK h1 h2 (by cases ns <;> rfl)
theorem zca (h:Rr J (LC x c s F))(h0:s.calls=0):al ah (n+1) (.fn 22) [.ref x.jr] J = .exc 1 J:=by
 have:=(atJ h).1;have:=(atJ h).2;refine jQ rfl rfl ?_;apply eU;kst_p;exact dG rfl rfl
noncomputable def St.down (s:St):St:=(s.wCalls (s.calls-1))
noncomputable def St.ended (s:St):St:=if s.down.calls=0/\s.grp≠[] then s.down.commit else s.down
theorem zb1 (h:LI x c0 s0 s F 0 c J)(h0:s.calls≠0):Ok (al ah (n+7) (.fn 22) [.ref x.jr] J) (CT x c0 s0 s.ended F):=by
 have:=(atJ h.r).1;have:=(atJ h.r).2;refine bc rfl rfl ?_;apply ak;kst_p;apply eA;iterate 8 kst_p
 refine Ok.ab (show Rr _ (LC x c s.down F) from h.r.set 10 rfl) λm1 h1=>?_
 have:=(atJ h1).1;have:=(atJ h1).2;have C1:COk c s.down:=⟨h.C.bn,h.C.bk,h.C.la,h.C.lk,h.C.kk,h.C.nt,h.C.nk,h.C.pn,h.C.uf,h.C.ul⟩
 have G1:Gd s.down:=⟨{ h.G.I with },h.G.K⟩
 have u0:c.unf=[]:=oK (Nat.le_zero.mp h.u);by_cases e:s.down.calls=0
 ·have h2:=h1.push (.lst [])
  have e2:=ax (n:=n+6) (cl:=λ_=>re) (op:=.ne) (J:=m1) (l:=Loc.put (λ_=>re) 61 (.ref x.jr)) (a:=.attr (.loc 61) 1) (b:=.list .nil) (by kst_p) (aE aA rfl) (iz (dq (h2.at 12 rfl) (h2.at 0 rfl)));have h3:LI x c0 s0 s.down F 0 c (m1.push (.lst [])):=⟨C1,G1,h.h,h.g,h.K,h.u,h2.tl⟩
  have:=(atJ h3.r).1;have:=(atJ h3.r).2;cases eg:s.grp with
  | nil=>
   have e3:s.ended=s.down:=if_neg λq=>q.2 eg
   rw[show s.down.grp=[] from eg] at e2
   apply ak;apply bM;apply eV;exact ax (by kst_p) ag (dJ (bT e));exact f7 e2;refine e3▸?_;exact aH ⟨rfl,c,C1,G1,h.h,h.K.1,u0,h3.r⟩
  | cons a r=>
   have e3:s.ended=s.down.commit:=if_pos ⟨e,by rw[eg];exact λq=>nomatch q⟩;rw[show s.down.grp=a:: r from eg] at e2
   refine(commit (n:=n) h3).el0 λm4 e4 q=>?_
   apply aN;apply bM;apply eV;exact ax (by kst_p) ag (dJ (bT e));exact f7 e2;apply av;kst_p;rw[e3];exact aH ⟨rfl,q⟩
 ·have e3:s.ended=s.down:=if_neg λq=>e q.1
  apply ak;apply bM;apply ix;exact ax (by kst_p) ag (dJ (bF e));refine e3▸?_;exact aH ⟨rfl,c,C1,G1,h.h,h.K.1,u0,h1⟩
theorem z6l (h:Rr J (LC x c s F))(h0:s.calls > 0):al ah (n+1) (.fn 28) [.ref x.jr] J = .exc 1 J:=by
 have:=(atJ h).1;have:=(atJ h).2;refine jQ rfl rfl ?_;apply eU;apply dK;apply o6;kst_p;exact dG rfl rfl
theorem z6m (h:Rr J (LC x c s F))(h0:¬s.calls > 0)(hg:s.grp≠[]):∃ J',al ah (n+1) (.fn 28) [.ref x.jr] J = .exc 1 J'/\Rr J' (LC x c s F):=by
 have:=(atJ h).1;have:=(atJ h).2;have h2:=h.push (.lst []);have q:=dq (h2.at 12 rfl) (h2.at 0 rfl);rw[show s.grp.isEmpty=rj from by
  cases eg:s.grp with
  | nil=>exact(hg eg).elim
  | cons a r=>rfl] at q
 refine⟨_,jQ rfl rfl ?_,h2.tl⟩;apply eU;apply dK;apply il;kst_p;apply jR;apply ax;kst_p;exact aE aA rfl
 ·exact kL q
 exact dG rfl rfl
theorem z6n (h:Rr J (LC x c s F))(C:COk c s)(G:Gd s)(h0:¬s.calls > 0)(hg:s.grp=[])(hz:(s.got 1).dat 1=bz):
  Ok (al ah (n+6) (.fn 28) [.ref x.jr] J) λv J'=>∃ c' b,v = .ref b/\COk c' (s.look 1)/\Kp s c c'/\Rr J' ((b,.lst []):: LC x c' (s.look 1) F):=by
 have:=(atJ h).1;have:=(atJ h).2;have h2:=h.push (.lst []);have e2:=ax (n:=n+5) (cl:=λ_=>re) (op:=.ne) (l:=Loc.put (λ_=>re) 61 (.ref x.jr)) (a:=.attr (.loc 61) 1) (b:=.list .nil) (by kst_p) (aE aA rfl) (iz (dq (h2.at 12 rfl) (h2.at 0 rfl)));rw[hg] at e2
 have h3:=h2.tl;have:=(atJ h3).1;have:=(atJ h3).2;refine(z9m (n:=n) h3 C G.I (iY G.I G.K) hz).elPb λm1 c1 b e1 C1 K1 h4=>?_
 have h5:=h4.push (.lst []);refine bc rfl rfl ?_;apply ak;apply dK;apply il;kst_p;exact jR e2;apply aq;kst_p;apply ak;apply ax;exact a8 rfl;exact aE aA rfl;exact iz (dq (ns:=[]) (h5.at 1 rfl) (h5.at 0 rfl));apply aX;exact a8 rfl;exact⟨c1,b,rfl,C1,K1,h5.tl⟩
end
section
variable {n:Nat}{J J1 J2:MH}{s:St}{F:List (Nat×O)}{k:Int}{cl:Nat->Option Nat}{l:Loc}
structure Wx where
 w:Nat
 wh:Nat
 wk:Nat
 wd:Nat
structure Wv where
 wr:Nat
 wo:Nat
 wg:Nat
 eo:List (Int×V)
 eh:List (Int×V)
 ek:List (Int×V)
noncomputable abbrev Wv.wEh (v:Wv)(x:List (Int×V)):Wv:={ v with eh:=x }
noncomputable abbrev Wv.wEk (v:Wv)(x:List (Int×V)):Wv:={ v with ek:=x }
noncomputable abbrev Wv.wEo (v:Wv)(x:List (Int×V)):Wv:={ v with eo:=x }
noncomputable abbrev Wv.wWo (v:Wv)(x:Nat):Wv:={ v with wo:=x }
noncomputable abbrev Wv.wWr (v:Wv)(x:Nat):Wv:={ v with wr:=x }
variable {y:Wx}{v:Wv}
noncomputable def wFL (y:Wx)(v:Wv)(s:St):List (Nat×V):=[(18,.ref v.wr),(7,.ref v.wo),(22,.ref y.wh),(34,.ref y.wk),(23,.ref v.wg),(26,.ref y.wd),(19,.int s.hits),(27,.int s.reads),(29,.int s.writes),(31,.int s.flushes),(44,.int s.calls)]
noncomputable def wO (y:Wx)(v:Wv)(s:St):O:=.sd (wFL y v s)
noncomputable def LWo (y:Wx)(v:Wv)(s:St)(o:O):List (Nat×O):=[(y.w,wO y v s),(v.wr,.lst (s.row.map V.int)),(v.wo,.dct v.eo),(y.wh,o),(y.wk,.dct v.ek),(v.wg,.lst (s.grp.map V.int)),(y.wd,.lst (bg.map λj=>.bytes (s.dsk j)))]
noncomputable def LW (y:Wx)(v:Wv)(s:St):List (Nat×O):=LWo y v s (.dct v.eh)
structure WOk (v:Wv)(s:St):Prop where
 oc:∀ k,af k v.eo=if k∈s.row then rc (.bytes (s.dat k)) else re
 ok:Ks v.eo
 he:∀ k,af k v.eh=if s.hold k=0 then re else rc (.int (s.hold k))
 hk:Ks v.eh
 kk:Ks v.ek
noncomputable def Wv.oh (v:Wv)(eo eh:List (Int×V)):Wv:=((v.wEo eo).wEh eh)
theorem du:∀ {r:List Int},fp k (r.map V.int)=rc (decide (k∈r))
 | []=>rfl
 | j:: r=>by
  show(fp k (r.map V.int)).map (λb=>(j==k)||b)=_;rw[du];show rc ((j==k)||decide (k∈r))=_
  congr 1
  by_cases e:k=j
  ·rw[e,decide_eq_true pH,beq_self_eq_true];rfl
  ·rw[beq_eq_false_iff_ne.mpr (qY e),Bool.false_or]
   exact decide_eq_decide.mpr ⟨.tail _,λm=>(List.mem_cons.mp m).resolve_left e⟩
theorem z9f {i:Nat}{j:Int}(h:bg[i]? = rc j):(i:Int)=j:=by
 have q:((List.range 12).all λi=>bg[i]? == rc (i:Int))=true:=by decide
 have hi:i<12:=(List.getElem?_eq_some_iff.mp h).1;have:=beq_iff_eq.mp (List.all_eq_true.mp q i (List.mem_range.mpr hi));rw[h] at this
 exact(qb this).symm
theorem jM (h:k∈bg):bg[k.toNat]? = rc k:=by
 have q:(bg.all λk=>bg[k.toNat]? == rc k)=true:=by decide
 exact beq_iff_eq.mp (List.all_eq_true.mp q k h)
theorem z86 {f g:Int->V}(hk:k∈bg)(h:∀ j,j≠k->g j=f j):(bg.map f).set k.toNat (g k)=bg.map g:=by
 refine List.ext_getElem? λi=>?_
 rw[List.getElem?_set,pR,pR];by_cases e:k.toNat=i
 ·have hl:=(List.getElem?_eq_some_iff.mp (jM hk)).1
  subst e;rw[if_pos rfl,jM hk,if_pos (by rw[qg];exact hl)];rfl
 ·rw[if_neg e]
  cases q:bg[i]? with
  | none=>rfl
  | some j=>
   have:=z9f q;exact congrArg rc (h j λz=>e ((congrArg Int.toNat (z.symm.trans this.symm)).trans rfl)).symm
theorem WOk.hget (W:WOk v s)(h:J.get y.wh=rc (.dct v.eh)):cp .get (.ref y.wh) [.int k,.int 0] J = .ok (.int (s.hold k)) J:=by
 refine(lf h).trans ?_;rw[W.he k];by_cases e:s.hold k=0
 ·rw[if_pos e,e];rfl
 ·rw[if_neg e];rfl
theorem ma (W:WOk v s):(af k v.eh).isSome = !(s.hold k==0):=by
 rw[W.he k];by_cases e:s.hold k=0
 ·rw[if_pos e,e];rfl
 ·rw[if_neg e,beq_eq_false_iff_ne.mpr e];rfl
theorem mS {f:Nat}{ps:List Nat}{ds vs vs':List V}{b:Ss}{Q:V->MH->Prop}{w:V}{L:List (Nat×O)}(hL:Rr J L)(h:Afn f=rc ⟨17:: ps,[17],ds,b⟩)(h1:bL (17:: ps).length vs ds=rc (w:: vs'))
  (h3:∀ m,bx (cW 17 J.n) ps vs' (λ_=>re) m = .ok l m)(k:∀ m,Rr m ((J.n,.cell (rc w)):: L)->Ok (exSs (CX n (cW 17 J.n)) b l m) λr J'=>Q (cA r.1) J'):Ok (al ah (n+1) (.fn f) vs J) Q:=by
 have g:=hL.push (.cell re);exact lL h h1 rfl (mI rfl (g.at 0 rfl) (h3 _)) (k _ (g.set 0 rfl))
theorem z5p (I:Inv s):(s.row.map V.int).length<=lim:=iZ I.le
theorem z5V {p:Int->Bool}{r:List Int}{f:Int}(h:r.find? p=rc f):((r.filter p).map V.int)[0]? = rc (.int f):=by
 rw[pR,<-List.head?_eq_getElem?,List.head?_filter,h];rfl
theorem z5j (hk:k∈s.row):s.got k=((s.wHits (s.hits+1)).wHold (up s.hold k (s.hold k+1))):=if_pos hk
theorem z5i (hk:k∉s.row):s.got k=((((s.wRow (s.room++[k])).wDat (up s.dat k (s.dsk k))).wReads (s.reads+1)).wHold (up s.hold k (s.hold k+1))):=if_neg hk
theorem WOk.held (W:WOk v s)(I:Inv s)(hk:k∈bg):(∀ j,af j (aJ k (.int (s.hold k+1)) v.eh)=if up s.hold k (s.hold k+1) j=0 then re else rc (.int (up s.hold k (s.hold k+1) j)))/\Ks (aJ k (.int (s.hold k+1)) v.eh):=by
 refine⟨λj=>?_,W.hk.put (bf hk).1 (bf hk).2⟩;rw[aU];by_cases e:j=k
 ·have:=I.hp k
  rw[if_pos e,e,be,if_neg (by omega)]
 ·rw[if_neg e,aY e];exact W.he j
noncomputable def WN (y:Wx)(v:Wv)(s:St)(F:List (Nat×O))(w:V):V->MH->Prop:=λr J'=>r=w/\∃ eo eh,WOk (v.oh eo eh) s/\Rr J' (LW y (v.oh eo eh) s++F)
noncomputable def St.gotN (k:Int)(s:St):St:=((((s.wRow (s.room++[k])).wDat (up s.dat k (s.dsk k))).wReads (s.reads+1)).wHold (up s.hold k (s.hold k+1)))
noncomputable def FR (a:Nat)(y:Wx)(v:Wv)(s:St)(F:List (Nat×O)):List (Nat×O):=(a,.cell (rc (.ref y.w))):: (LW y v s++F)
theorem nA (h:Rr J (LW y v s++F))(W:WOk v s)(G:Gd s)(hk:k∈bg):Ok (al ah (n+1) (.fn 4) [.ref y.w,.int k] J) (WN y v (s.got k) F .none):=by
 refine mS h rfl rfl (λ_=>dS rfl rfl) λm g=>?_
 have:=g.at 0 rfl;have:=g.at 1 rfl;have:=g.at 2 rfl
 have hi:fp k (s.row.map V.int)=_:=du;obtain⟨q1,q2⟩:=W.held G.I hk;by_cases hr:k∈s.row
 ·replace hi:=(decide_eq_true hr)▸hi
  rw[z5j hr];apply aN;kst_p;apply fC;kst_p;kst_p;kst_p;kst_p;rfl
  ·exact gP (g.at 1 rfl) rfl
  refine Ok.ab (show Rr _ (FR J.n y v (s.wHits (s.hits+1)) F) from g.set 1 rfl) λm2 g2=>?_
  have:=g2.at 0 rfl;have:=g2.at 1 rfl;have:=g2.at 4 rfl;have:=W.hget (k:=k) (g2.at 4 rfl)
  apply eY;kst_p;kst_p;kst_p
  ·exact jV (g2.at 4 rfl) W.hk.lim
  refine aH ⟨rfl,v.eo,aJ k (.int (s.hold k+1)) v.eh,⟨W.oc,W.ok,q1,q2,W.kk⟩,(g2.set 4 rfl).tl⟩
 ·rw[decide_eq_false hr] at hi
  rw[show s.got k=s.gotN k from z5i hr];have lr:=z5p G.I;apply ak;kst_p;have fin:∀ (m:MH)(r:List Int)(eo:List (Int×V)),r=s.room->Ks eo->(∀ j,af j eo=if j∈r then rc (.bytes (s.dat j)) else re)->Rr m (FR J.n y (v.wEo eo) (s.wRow r) F)->∀ l:Loc,l 16=rc (.int k)->Ok (exSs (CX n (cW 17 J.n)) (.cons (.expr (.meth (.idx (.cel 17) (.cstr 18)) 10 (rc .append) (.cons (.loc 16) .nil))) (.cons (.assign (.sub (.idx (.cel 17) (.cstr 7)) (.loc 16)) (.idx (.idx (.cel 17) (.cstr 26)) (.loc 16))) (.cons (.augIdx (.cel 17) (.cstr 27) .add (.cint 1)) (.cons (.assign (.sub (.idx (.cel 17) (.cstr 22)) (.loc 16)) (.bin .add (.meth (.idx (.cel 17) (.cstr 22)) 28 (rc .get) (.cons (.loc 16) (.cons (.cint 0) .nil))) (.cint 1))) .nil)))) l m) λr J'=>WN y v (s.gotN k) F .none (cA r.1) J':=by
   intro m r eo er ko ho g l l16;subst er;have:=g.at 0 rfl;have:=g.at 1 rfl
   apply av;apply bm;kst_p;exact g.at 2 rfl;rfl;exact az (a8 l16)
   ·exact cm (g.at 2 rfl) (by rw[qg];exact Nat.lt_trans (z4f G.I (iY G.I G.K)) (by decide))
   have g1:=g.set 2 rfl (o':=.lst ((s.room++[k]).map V.int));refine(show(s.room.map V.int)++[.int k]=(s.room++[k]).map V.int from by rw[List.map_append];rfl)▸?_;refine Ok.ab (show Rr _ (FR J.n y (v.wEo eo) (s.wRow (s.room++[k])) F) from g1) λm1 g1=>?_
   have:=g1.at 0 rfl;have:=g1.at 1 rfl
   have d1:cg (.ref y.wd) (.int k) m1 = .ok (.bytes (s.dsk k)) m1:=nZ (g1.at 7 rfl) ⟨(bf hk).1,Int.lt_trans (bf hk).2 (by decide)⟩ (by rw[pR,jM hk];rfl);apply eY
   ·apply aW;kst_p;exact a8 l16;exact d1
   ·kst_p
   ·exact a8 l16
   ·exact jV (g1.at 3 rfl) ko.lim
   refine Ok.ab (show Rr _ (FR J.n y (v.wEo (aJ k (.bytes (s.dsk k)) eo)) (s.wRow (s.room++[k])) F) from g1.set 3 rfl) λm2 g2=>?_
   have:=g2.at 0 rfl;have:=g2.at 1 rfl
   apply fC;kst_p;kst_p;kst_p;kst_p;rfl
   ·exact gP (g2.at 1 rfl) rfl
   refine Ok.ab (show Rr _ (FR J.n y (v.wEo (aJ k (.bytes (s.dsk k)) eo)) ((s.wRow (s.room++[k])).wReads (s.reads+1)) F) from g2.set 1 rfl) λm3 g3=>?_
   have:=g3.at 0 rfl;have:=g3.at 1 rfl;have:=g3.at 4 rfl;have:=W.hget (k:=k) (g3.at 4 rfl)
   apply eY
   ·apply aB;apply bm;kst_p;exact g3.at 4 rfl;rfl;exact aa (a8 l16) (az ag);assumption;exact ag;rfl
   ·kst_p
   ·exact a8 l16
   ·exact jV (g3.at 4 rfl) W.hk.lim
   refine aH ⟨rfl,aJ k (.bytes (s.dsk k)) eo,aJ k (.int (s.hold k+1)) v.eh,⟨λj=>?_,ko.put (bf hk).1 (bf hk).2,q1,q2,W.kk⟩,(g3.set 4 rfl).tl⟩;show af j (aJ k (.bytes (s.dsk k)) eo)=if j∈s.room++[k] then rc (.bytes (up s.dat k (s.dsk k) j)) else re
   rw[aU,ho j];by_cases e:j=k
   ·rw[if_pos e,e,be,if_pos (ph _ (.head _))]
   ·rw[if_neg e,aY e]
    by_cases mj:j∈s.room
    ·rw[if_pos mj,if_pos (pz _ mj)]
    ·rw[if_neg mj,if_neg];intro q;exact(List.mem_append.mp q).elim mj λq=>e (List.mem_singleton.mp q)
  by_cases l8:s.row.length=8
  ·have l8':¬ s.row.length<8:=λh=>Nat.lt_irrefl 8 (l8▸h)
   obtain⟨f,ef⟩:∃ f,s.row.find? (free s)=rc f:=by
    refine el12 ((iY G.I G.K).resolve_left l8') λj hj fr=>?_
    cases e:s.row.find? (free s) with
    | none=>exact absurd fr (List.find?_eq_none.mp e j hj)
    | some f=>exact⟨f,rfl⟩
   have hf:=List.mem_of_find?_eq_some ef;have er:s.row.erase f=s.room:=by unfold St.room;rw[if_neg l8',ef]
   apply aN
   ·apply ax;apply aS;kst_p;exact ck (g.at 2 rfl) lr;exact ag
    exact dJ (bT (by rw[qg,l8];rfl))
   obtain⟨_,_,e1,m2,rfl,rfl,rfl⟩:=fM (n:=n) (cl:=cW 17 J.n) (l:=(Loc.put (λ_=>re) 16 (.int k))) (ys:=s.row) (f:=V.int) (g:=V.int) (p:=λj=>!(!(s.hold j==0)) && !decide (j∈s.grp)) (t:=.loc 21) (it:=.of (.idx (.cel 17) (.cstr 18))) (el:=.loc 21) (c:=.and (.cons (.cmp .notin (.loc 21) (.idx (.cel 17) (.cstr 22))) (.cons (.cmp .notin (.loc 21) (.idx (.cel 17) (.cstr 23))) .nil))) (J:=m) (· = m) (cV (by kst_p) (g.at 2 rfl)) (λ_ e=>e▸g.at 2 rfl) rfl (λj hj m' e=>by
    subst e;have q3:aP .isin (.int j) (.ref y.wh) m' = .ok (!(s.hold j==0)) m':=(fK (g.at 4 rfl)).trans (by rw[ma W])
    have q4:aP .isin (.int j) (.ref v.wg) m' = .ok (decide (j∈s.grp)) m':=gS (g.at 6 rfl) du;exact .of rfl ⟨by kst_p,rfl,rfl⟩) (qt G.I.le (by decide))
   have g2:=g.push (.lst ((s.row.filter λj=>!(!(s.hold j==0)) && !decide (j∈s.grp)).map V.int));have ep:(λj=>!(!(s.hold j==0)) && !decide (j∈s.grp))=free s:=funext λj=>by rw[Bool.not_not];rfl
   apply aq;apply aW;exact e1;exact ag;exact nZ (g2.at 0 rfl) (by decide) (by rw[ep];exact z5V ef);refine Ok.ab g2.tl λm3 g3=>?_
   have:=g3.at 0 rfl;have:=g3.at 1 rfl
   refine el12 (jq (J:=m3) hf) λi f1 f2=>?_
   apply av;apply bm;kst_p;exact g3.at 2 rfl;rfl;exact az (a8 rfl);exact fS (g3.at 2 rfl) lr f1
   refine f2▸?_;refine Ok.ab (show Rr _ (FR J.n y v (s.wRow (s.row.erase f)) F) from g3.set 2 rfl) λm4 g4=>?_
   have:=g4.at 0 rfl;have:=g4.at 1 rfl
   apply av;apply bm;kst_p;exact g4.at 3 rfl;rfl;exact az (a8 rfl);exact z7Z (g4.at 3 rfl) W.ok.lim ((W.oc f).trans (if_pos hf))
   refine Ok.ab (show Rr _ (FR J.n y (v.wEo (bR f v.eo)) (s.wRow (s.row.erase f)) F) from g4.set 3 rfl) λm5 g5=>?_
   refine fin m5 _ (bR f v.eo) er W.ok.del (λj=>?_) g5 _ rfl;rw[eG W.ok.1,W.oc j];by_cases e:j=f
   ·rw[if_pos e,if_neg];intro q;exact(G.I.nd.mem_erase_iff.mp q).1 e
   ·rw[if_neg e]
    by_cases mj:j∈s.row
    ·rw[if_pos mj,if_pos (G.I.nd.mem_erase_iff.mpr ⟨e,mj⟩)]
    ·rw[if_neg mj,if_neg];intro q;exact mj (List.mem_of_mem_erase q)
  ·have er:s.row=s.room:=by unfold St.room;rw[if_pos (Nat.lt_of_le_of_ne G.I.le l8)]
   apply ak
   ·apply ax;apply aS;kst_p;exact ck (g.at 2 rfl) lr;exact ag
    exact dJ (bF (by rw[qg];exact λh=>l8 (qK.inj h)))
   exact fin m s.row v.eo er W.ok W.oc g _ rfl
end
section
variable {n:Nat}{J J1 J2:MH}{s s0 t:St}{F:List (Nat×O)}{k:Int}{cl:Nat->Option Nat}{l:Loc}{y:Wx}{v:Wv}
noncomputable def HN (y:Wx)(v:Wv)(s:St)(F:List (Nat×O)):V->MH->Prop:=λr J'=>r = .none/\∃ eh,WOk (v.oh v.eo eh) s/\Rr J' (LW y (v.oh v.eo eh) s++F)
theorem jC (h:Rr J (LW y v s++F))(W:WOk v s)(I:Inv s)(hk:k∈s.row)(hh:s.hold k≠0):Ok (al ah (n+1) (.fn 5) [.ref y.w,.int k] J) (HN y v (s.letGo k) F):=by
 have kb:=I.bd k hk;have:=h.at 0 rfl;have:=h.at 3 rfl
 have q1:af k v.eh=rc (.int (s.hold k)):=(W.he k).trans (if_neg hh)
 refine bc rfl rfl ?_;apply fC;kst_p;kst_p;kst_p;kst_p;rfl
 ·exact jV (h.at 3 rfl) W.hk.lim
 refine Ok.ab (show Rr _ (LW y (v.wEh (aJ k (.int (s.hold k-1)) v.eh)) s++F) from h.set 3 rfl) λm2 g2=>?_
 have:=g2.at 0 rfl;have:=g2.at 3 rfl
 have q2:af k (aJ k (.int (s.hold k-1)) v.eh)=rc (.int (s.hold k-1)):=aU.trans (if_pos rfl)
 have kp:Ks (aJ k (.int (s.hold k-1)) v.eh):=W.hk.put kb.1 kb.2;by_cases e:s.hold k=1
 ·apply aN;kst_p
  apply av;apply bm;kst_p;exact g2.at 3 rfl;rfl;kst_p;exact z7Z (g2.at 3 rfl) kp.lim q2
  refine Ok.ab (show Rr _ (LW y (v.wEh (bR k (aJ k (.int (s.hold k-1)) v.eh))) s++F) from g2.set 3 rfl) λm3 g3=>?_
  have:=g3.at 0 rfl;have:=g3.at 1 rfl
  refine el12 (jq (J:=m3) hk) λi f1 f2=>?_
  apply av;apply bm;kst_p;exact g3.at 1 rfl;rfl;kst_p;exact fS (g3.at 1 rfl) (z5p I) f1
  rw[f2];refine Ok.ab (show Rr _ (LW y (v.wEh (bR k (aJ k (.int (s.hold k-1)) v.eh))) (s.wRow (s.row.erase k))++F) from g3.set 1 rfl) λm4 g4=>?_
  have:=g4.at 0 rfl;have:=g4.at 1 rfl
  apply av;apply bm;kst_p;exact g4.at 1 rfl;rfl;kst_p
  ·refine cm (g4.at 1 rfl) ?_
   rw[qg];exact pJ (qt List.length_erase_le I.le) (by decide)
  have g5:=g4.set 1 rfl (o':=.lst ((s.row.erase k++[k]).map V.int));show Ok (exSs _ _ _ (m4.set v.wr (.lst ((s.row.erase k).map V.int++[.int k])))) _;rw[show((s.row.erase k).map V.int)++[.int k]=(s.row.erase k++[k]).map V.int from by simp only[List.map_append];rfl];have es:s.letGo k=(s.setHold k (s.hold k-1)).setRow (s.row.erase k++[k]):=if_pos e;rw[es];refine aH ⟨rfl,bR k (aJ k (.int (s.hold k-1)) v.eh),⟨λj=>?_,W.ok,λj=>?_,kp.del,W.kk⟩,g5⟩
  ·refine(W.oc j).trans ?_
   by_cases mj:j∈s.row
   ·rw[if_pos mj];exact(if_pos ((fy hk).mem_iff.mp mj)).symm
   ·rw[if_neg mj];exact(if_neg λq=>mj ((fy hk).mem_iff.mpr q)).symm
  ·show af j (bR k (aJ k (.int (s.hold k-1)) v.eh))=if up s.hold k (s.hold k-1) j=0 then re else rc (.int (up s.hold k (s.hold k-1) j))
   rw[eG kp.1,aU];by_cases e2:j=k
   ·rw[if_pos e2,e2,be,e];rfl
   ·rw[if_neg e2,if_neg e2,aY e2];exact W.he j
 ·apply ak;kst_p
  have es:s.letGo k=s.setHold k (s.hold k-1):=if_neg e;refine es▸?_;refine aH ⟨rfl,aJ k (.int (s.hold k-1)) v.eh,⟨W.oc,W.ok,λj=>?_,kp,W.kk⟩,g2⟩;show af j (aJ k (.int (s.hold k-1)) v.eh)=if up s.hold k (s.hold k-1) j=0 then re else rc (.int (up s.hold k (s.hold k-1) j))
  rw[aU];by_cases e2:j=k
  ·rw[if_pos e2,e2,be,if_neg (by lia)]
  ·rw[if_neg e2,aY e2];exact W.he j
theorem jF (h:Rr J (LW y v s++F))(W:WOk v s)(G:Gd s)(hk:k∈bg):Ok (al ah (n+2) (.fn 6) [.ref y.w,.int k] J) (WN y v (s.look k) F (.bytes ((s.got k).dat k))):=by
 refine(nA (n:=n) h W G hk).el22 λm1 eo eh e1 W1 g1=>?_
 have I1:=G.I.got (bf hk).1 (bf hk).2 G.R;refine(jC (n:=n) g1 W1 I1 bh (gE G.I)).el12 λm2 eh2 e2 W2 g2=>?_
 have:=g1.at 0 rfl;have:=g1.at 2 rfl;have:=(W1.oc k).trans (if_pos bh)
 refine bc rfl rfl ?_;apply av;apply aD rfl;kst_p;exact e1;apply aq;kst_p;apply av;apply aD rfl;kst_p;exact e2;apply aX;kst_p;exact⟨rfl,eo,eh2,W2,g2⟩
theorem bj {cx:Cx}{t:Tg}{ts:List Tg}{x:V}{xs:List V}{l1:Loc}{r:R Loc}(h:bindT cx t x l J = .ok l1 J1)(k:dI cx ts xs l1 J1=r):dI cx (t:: ts) (x:: xs) l J=r:=(bnd h).trans k
theorem gA {o i:E}{x a b:V}(h:evE (CX n cl) o l J = .ok a J)(h2:evE (CX n cl) i l J = .ok b J)(h3:cG a b x J = .ok () J1):bindT (CX n cl) (.sub o i) x l J = .ok l J1:=(bnd h).trans ((bnd h2).trans ((bnd h3).trans rfl))
theorem dR {ss:Ss}{Q:Fl×Loc->MH->Prop}{ts:List Tg}{es:Es}{xs:List V}{l1:Loc}(h:evEs (CX n cl) es l J = .ok xs J1)(h2:dI (CX n cl) ts xs l J1 = .ok l1 J2)(k:Ok (exSs (CX n cl) ss l1 J2) Q):Ok (exSs (CX n cl) (.cons (.tupL ts es) ss) l J) Q:=
 .eq (bnd ((bnd h).trans ((bnd h2).trans rfl):exS (CX n cl) (.tupL ts es) l J = .ok (.next,l1) J2)) k
theorem z85 {f:Int->V}:(bg.map f).length=12:=qg ..
theorem zcG {o:List UInt8}(h:Rr J (LW y v s++F))(W:WOk v s)(G:Gd s)(hk:k∈bg)(ho:o.length=16):Ok (al ah (n+2) (.fn 7) [.ref y.w,.int k,.bytes o] J) (WN y v (s.put k o) F .none):=by
 have kb:=bf hk;refine(nA (n:=n) h W G hk).el22 λm1 eo eh e1 W1 g1=>?_
 have I1:=G.I.put0 (k:=k) ho kb.1 kb.2 G.R;have W2:WOk (v.oh (aJ k (.bytes o) eo) eh) (s.put0 k o):=⟨λj=>by
  show af j (aJ k (.bytes o) eo)=if j∈(s.got k).row then rc (.bytes (up (s.got k).dat k o j)) else re
  rw[aU];by_cases e:j=k
  ·rw[if_pos e,e,if_pos bh,be]
  ·rw[if_neg e,aY e];exact W1.oc j,W1.ok.put kb.1 kb.2,W1.he,W1.hk,W1.kk⟩
 refine bc rfl rfl ?_;apply av;apply aD rfl;kst_p;exact e1;have:=g1.at 0 rfl
 apply dR;kst_p
 ·apply bj;apply gA;kst_p;kst_p;exact jV (g1.at 2 rfl) W1.ok.lim
  have g2:=g1.set 2 rfl (o':=.dct (aJ k (.bytes o) eo));have:=g2.at 0 rfl
  apply bj;apply gA;kst_p;kst_p;exact si_l (g2.at 6 rfl) ⟨kb.1,Int.lt_trans kb.2 (by decide),by simp only[z85];exact(Int.toNat_lt kb.1).mpr kb.2⟩;rfl
 have g2:=(g1.set 2 rfl (o':=.dct (aJ k (.bytes o) eo))).set 6 rfl (o':=.lst (bg.map λj=>.bytes (up (s.got k).dsk k o j)));rw[show(bg.map λj=>V.bytes ((s.got k).dsk j)).set k.toNat (.bytes o)=bg.map λj=>.bytes (up (s.got k).dsk k o j) from by
  have:=z86 (f:=λj=>V.bytes ((s.got k).dsk j)) (g:=λj=>V.bytes (up (s.got k).dsk k o j)) hk λj e=>congrArg V.bytes (aY e)
  simp only[be] at this
  exact this]
 refine Ok.ab (show Rr _ (LW y (v.oh (aJ k (.bytes o) eo) eh) (((s.got k).setDat k o).setDsk k o)++F) from g2) λm2 g2=>?_
 have:=g2.at 0 rfl
 apply fC;kst_p;kst_p;kst_p;kst_p;rfl
 ·exact gP (g2.at 0 rfl) rfl
 refine Ok.ab (show Rr _ (LW y (v.oh (aJ k (.bytes o) eo) eh) (s.put0 k o)++F) from g2.set 0 rfl) λm3 g3=>?_
 refine(jC (n:=n) g3 W2 I1 bh (gE G.I)).el12 λm4 eh2 e4 W3 g4=>?_
 apply av;apply aD rfl;kst_p;exact e4;exact aH ⟨rfl,aJ k (.bytes o) eo,eh2,W3,g4⟩
structure LV (y:Wx)(v:Wv)(s t:St)(F:List (Nat×O))(m:MH):Prop where
 G:Gd t
 h:t.hold=s.hold
 g:t.grp=s.grp
 W:∃ eo eh,WOk (v.oh eo eh) t/\Rr m (LW y (v.oh eo eh) t++F)
theorem LV.looked (h:LV y v s t F J)(hk:k∈bg):Ok (al ah (n+2) (.fn 6) [.ref y.w,.int k] J) λr J'=>r = .bytes ((t.got k).dat k)/\LV y v s (t.look k) F J':=by
 obtain⟨eo,eh,W,g⟩:=h.W;obtain⟨_,m1,e1,e2,eo1,eh1,W1,g1⟩:=jF (n:=n) g W h.G hk;exact .of e1 ⟨e2,h.G.look hk,fR.trans h.h,z44.trans h.g,eo1,eh1,W1,g1⟩
theorem LV.putted {o:List UInt8}(h:LV y v s t F J)(hk:k∈bg)(ho:o.length=16):Ok (al ah (n+2) (.fn 7) [.ref y.w,.int k,.bytes o] J) λr J'=>r = .none/\LV y v s (t.put k o) F J':=by
 obtain⟨eo,eh,W,g⟩:=h.W;obtain⟨_,m1,e1,e2,eo1,eh1,W1,g1⟩:=zcG (n:=n) g W h.G hk ho;exact .of e1 ⟨e2,h.G.put hk ho,jS.trans h.h,z5v.trans h.g,eo1,eh1,W1,g1⟩
theorem WOk.fl (W:WOk v s):WOk v s.fl:=⟨W.oc,W.ok,W.he,W.hk,W.kk⟩
theorem LV.flush {ss:Ss}{Q:Fl×Loc->MH->Prop}(h:LV y v s t F J)(hl:l 17=rc (.ref y.w))(k:∀ m,LV y v s t.fl F m->Ok (exSs (CX n cl) ss l m) Q):Ok (exSs (CX n cl) (.cons (.augIdx (.loc 17) (.cstr 31) .add (.cint 1)) ss) l J) Q:=by
 obtain⟨eo,eh,W,g⟩:=h.W;apply fC;exact a8 hl;exact aM;exact eM (g.at 0 rfl) rfl;exact ag;rfl
 ·exact gP (g.at 0 rfl) rfl
 exact k _ ⟨h.G.fl,h.h,h.g,eo,eh,W.fl,g.set 0 rfl⟩
end
section
variable {n:Nat}{J J1 J2:MH}{s s0 t:St}{F:List (Nat×O)}{k:Int}{cl:Nat->Option Nat}{l:Loc}{y:Wx}{v:Wv}
theorem z90 {e:E}{a:Nat}{xs:List V}{r:List UInt8}(h:evE (CX n cl) e l J = .ok (.ref a) J1)(h1:J1.get a=rc (.lst xs))(h2:1<=xs.length)(h3:jz xs=rc r)(h4:r.length<=lim):evE (CX n cl) (.meth .cbytes 30 (rc .join) (.cons e .nil)) l J = .ok (.bytes r) J1:=by
 have q:cp .join (.bytes []) [.ref a] J1 = .ok (.bytes r) J1:=(bnd (rdE h1)).trans ((bnd (gdE (dc h2))).trans ((bnd (lfE h3)).trans ((bnd (gdE (dc h4))).trans rfl)))
 exact(bnd (a:=V.bytes []) (J1:=J) rfl).trans ((bnd (lfE rfl)).trans ((bnd (gdE rfl)).trans ((bnd (az h)).trans q)))
theorem z5m:∀ {zs:List Int},jz (zs.map λv=>V.bytes (b4 v))=rc (zs.flatMap b4)
 | []=>rfl
 | a:: r=>by
  show(jz (r.map λv=>V.bytes (b4 v))).map (b4 a ++ ·)=_;rw[z5m];rfl
theorem z3X {a:Nat}{ns:List Int}(h:LV y v s t F J)(hm:∀ eo eh,(a,O.lst (ns.map V.int))∈LW y (v.oh eo eh) t++F)(hl:ns.length<=3)(hb:∀ v,v∈ns->v∈bg):
  Ok (al ah (n+3) (.fn 8) [.ref y.w,.ref a] J) λr J'=>r = .none/\LV y v s (t.headed ns) F J':=by
 obtain⟨eo,eh,W,g⟩:=h.W;have m0:=hm eo eh;have eL:(ns.map V.int).length=ns.length:=qg ..;have hlim:(ns.map V.int).length<=lim:=by rw[eL];exact qt hl (by decide)
 have hz:∀ v,v∈((ns.length:Int):: ns)->v∈bg:=λv m=>(List.mem_cons.mp m).elim (λe=>e▸z5o hl) (hb v)
 have g1:=g.push (.lst [.int (ns.map V.int).length]);have g2:=g1.push (.lst ([.int (ns.map V.int).length]++ns.map V.int));have ez:[V.int (ns.map V.int).length]++ns.map V.int=((ns.length:Int):: ns).map V.int:=by rw[eL];rfl
 rw[ez] at g2
 refine bc rfl rfl ?_;obtain⟨_,_,e1,m2,rfl,rfl,g3⟩:=iP (n:=n+2) (cl:=λ_=>re) (l:=(Loc.put (λ_=>re) 17 (.ref y.w)).put 1 (.ref a)) (ys:=((ns.length:Int):: ns)) (f:=V.int) (g:=λv=>V.bytes (b4 v)) (J:=J) (t:=.loc 21) (it:=.of (.bin .add (.list (.cons (.b1 .len (.loc 1)) .nil)) (.loc 1))) (el:=.b1 .bytes (.list (.cons (.loc 21) (.cons (.cint 0) (.cons (.cint 0) (.cons (.cint 0) .nil))))))
  (λm=>Rr m (((J.push (.lst [.int (ns.map V.int).length])).n,.lst (((ns.length:Int):: ns).map V.int)):: (LW y (v.oh eo eh) t++F)))
  (cV (aB (aE (az (aS (a8 rfl) (ck (g.mem m0) hlim))) rfl) (a8 rfl) ((z3A (g1.at 0 rfl) (g1.mem (.tail _ m0)) (by rw[pF,eL];show 1+_<=lim;exact qt (Nat.add_le_add_left hl 1) (by decide))).trans (by rw[ez]))) (g2.at 0 rfl))
  (λ_ h=>h.at 0 rfl) (g2.sub (.cons_cons _ (.cons _ (.refl _)))) (λv hv m h=>by
   have h2:=h.push (.lst [.int v,.int 0,.int 0,.int 0]);exact .of rfl (.of (aS (aE (aa (a8 rfl) (aa ag (aa ag (az ag)))) rfl) (jh (h2.at 0 rfl) (show 4<=lim by decide) (za9 v (hz v hv)))) ⟨rfl,h2.tl⟩)) (qt (Nat.succ_le_succ hl) (by decide))
 have g4:=g3.push (.lst (((ns.length:Int):: ns).map λv=>V.bytes (b4 v)));have hj:(((ns.length:Int):: ns).flatMap b4).length=4*(ns.length+1):=lF;have e2:=z90 e1 (g4.at 0 rfl) (by rw[qg];exact Nat.succ_pos _) z5m (by rw[hj];exact qt (Nat.mul_le_mul_left 4 (Nat.succ_le_succ hl)) (by decide));have hn:((12:Int)-4*((ns.length:Nat):Int)).toNat=12-4*ns.length:=le3 (P:=λk=>((12:Int)-4*(k:Int)).toNat=12-4*k) rfl rfl rfl rfl hl;have e3:evE (CX (n+2) λ_=>re) (.b1 .bytes (.bin .sub (.cint 12) (.bin .mul (.cint 4) (.b1 .len (.loc 1))))) ((Loc.put (λ_=>re) 17 (.ref y.w)).put 1 (.ref a)) (m2.push (.lst (((ns.length:Int):: ns).map λv=>V.bytes (b4 v)))) = .ok (.bytes (qi (12-4*ns.length) 0)) (m2.push (.lst (((ns.length:Int):: ns).map λv=>V.bytes (b4 v)))):=by
  rw[<-hn];exact aS (aB ag (aB ag (aS (a8 rfl) ((ck (g4.mem (.tail _ (.tail _ m0))) hlim).trans (by rw[eL]))) (bi (zce (Nat.le_succ_of_le hl)))) rfl) (jg ⟨le3 (P:=λk=>(0:Int)<=12-4*(k:Int)) (by decide) (by decide) (by decide) (by decide) hl,by rw[hn];exact qt (Nat.sub_le ..) (by decide)⟩)
 have e4:=aB e2 e3 (z3z (by rw[List.length_replicate,hj];exact qt (qu (nI hl)) (by decide)));have h5:LV y v s t F (m2.push (.lst (((ns.length:Int):: ns).map λv=>V.bytes (b4 v)))):=⟨h.G,h.h,h.g,eo,eh,W,g4.tl.tl⟩
 refine(h5.putted (n:=n) (k:=1) (o:=fq ns) (by decide) (z28 hl)).el0 λm6 e6 h6=>?_
 apply av;exact aD rfl (aa (a8 rfl) (aa ag (az e4))) e6;refine h6.flush rfl λm7 h7=>?_
 exact aH ⟨rfl,h7⟩
theorem z3M (h:LV y v s t F J):Ok (al ah (n+4) (.fn 9) [.ref y.w] J) λr J'=>r = .none/\∃ v',v'.ek=v.ek/\WOk v' t.commit/\Rr J' (LW y v' t.commit++F):=by
 have gs:t.grp=s.grp:=h.g;have gl:=h.G.I.gl;have gb:∀ v,v∈t.grp->v∈bg:=λv m=>h.G.num m
 have gm:∀ {t':St}{F':List (Nat×O)},t'.grp=s.grp->∀ eo eh,(v.wg,O.lst (t.grp.map V.int))∈LW y (v.oh eo eh) t'++F':=λ{t' F'} e eo eh=>by
  have:(LW y (v.oh eo eh) t'++F')[5]? = rc (v.wg,O.lst (t'.grp.map V.int)):=rfl;rw[e,<-gs] at this
  exact pv this
 have gw:∀ {t':St}{m:MH},LV y v s t' F m->m.get v.wg=rc (.lst (t.grp.map V.int)):=λ{t' m} h'=>by
  refine el22 h'.W λeo eh W g=>?_
  exact g.mem (gm h'.g eo eh)
 have ww:∀ {t':St}{m:MH}{l:Loc},LV y v s t' F m->l 17=rc (.ref y.w)->evE (CX (n+3) λ_=>re) (.idx (.loc 17) (.cstr 23)) l m = .ok (.ref v.wg) m:=λ{t' m l} h' e=>by
  refine el22 h'.W λeo eh W g=>?_
  exact aW (a8 e) aM (eM (g.at 0 rfl) rfl)
 refine bc rfl rfl ?_;apply dD (en:=rg) (xs:=t.grp.map V.int) (a:=v.wg) (I:=λj l m=>l 17=rc (.ref y.w)/\LV y v s (jo t.grp t j) F m)
 ·exact lH (ww h rfl) (gw h)
 ·rintro _ _ _ ⟨_,h'⟩;exact gw h'
 ·exact⟨rfl,h⟩
 ·rintro j yy l m ey ⟨el,h1⟩
  obtain⟨k,ek,rfl⟩:∃ k,t.grp[j]? = rc k/\V.int k=yy:=by
   rw[pR] at ey
   exact Option.map_eq_some_iff.mp ey
  have hk:=gb k (pv ek);have hj:j<3:=Nat.lt_of_lt_of_le (List.getElem?_eq_some_iff.mp ek).1 gl;refine(h1.looked (n:=n+1) hk).el0 λm1 e1 h2=>?_
  refine(h2.putted (n:=n+1) (z8E hj) (h1.G.dat hk)).el0 λm2 e2 h3=>?_
  have el':((l.put 8 (.int (qK j))).put 16 (.int k)) 17=rc (.ref y.w):=el;refine .of rfl ?_;apply av;exact aD rfl (aa (a8 el') (aa (v:=.int (2+(j:Int))) (aB ag (a8 rfl) rfl) (az (aD rfl (aa (a8 el') (az (a8 rfl))) e1)))) e2;refine aH ⟨el',?_⟩;show LV y v s ((jo t.grp t j).fill1 j (t.grp.getD j 0)) F m2;refine(iT ek)▸?_;exact h3
 ·rintro l m ⟨el,h1⟩
  rw[qg] at h1
  refine h1.flush el λm h1=>?_
  have h1':LV y v s t.filled F m:=h1;refine(z3X (n:=n) h1' (λeo eh=>gm h1'.g eo eh) gl gb).el0 λm2 e2 h2=>?_
  apply av;exact aD rfl (aa (a8 el) (az (ww h1' el))) e2;apply dD (en:=rj) (xs:=t.grp.map V.int) (a:=v.wg) (I:=λj l m=>l 17=rc (.ref y.w)/\LV y v s (iE t.grp (t.filled.headed t.grp) j) F m)
  ·exact cV (ww h2 el) (gw h2)
  ·rintro _ _ _ ⟨_,h'⟩;exact gw h'
  ·exact⟨el,h2⟩
  ·rintro j yy l m ey ⟨el,h1⟩
   obtain⟨k,ek,rfl⟩:∃ k,t.grp[j]? = rc k/\V.int k=yy:=by
    rw[pR] at ey
    exact Option.map_eq_some_iff.mp ey
   have hk:=gb k (pv ek);refine(h1.looked (n:=n+1) hk).el0 λm1 e1 h2=>?_
   refine(h2.putted (n:=n+1) hk (h1.G.dat hk)).el0 λm2 e2 h3=>?_
   have el':(l.put 16 (.int k)) 17=rc (.ref y.w):=el;refine .of rfl ?_;apply av;exact aD rfl (aa (a8 el') (aa (a8 rfl) (az (aD rfl (aa (a8 el') (az (a8 rfl))) e1)))) e2;refine aH ⟨el',?_⟩;show LV y v s ((iE t.grp (t.filled.headed t.grp) j).inst1 (t.grp.getD j 0)) F m2;refine(iT ek)▸?_;exact h3
  ·rintro l m ⟨el,h1⟩
   rw[qg] at h1
   refine h1.flush el λm h1=>?_
   have h3:LV y v s ((t.filled.headed t.grp).insted t.grp) F m:=h1;refine el22 h3.W λeo eh W g=>?_
   have h4:LV y v s ((t.filled.headed t.grp).insted t.grp) ((m.n,.lst []):: F) (m.push (.lst [])):=⟨h3.G,h3.h,h3.g,eo,eh,W,(g.push _).toF⟩
   refine(z3X (n:=n) (ns:=[]) (a:=m.n) h4 (λeo eh=>ph _ (.head _)) (qB _) (λ_ q=>nomatch q)).el0 λm5 e5 h5=>?_
   apply av;exact aD rfl (aa (a8 el) (az (aE aA rfl))) e5;refine el22 h5.W λeo eh W g=>?_
   have g6:=g.noF.push (.lst []);apply eY;exact aE aA rfl;exact a8 el;exact aM;exact gP (g6.at 1 rfl) rfl;refine aH ⟨rfl,{ v.oh eo eh with wg:=m5.n },rfl,⟨W.oc,W.ok,W.he,W.hk,W.kk⟩,(g6.set 1 rfl).repl (A:=[_,_,_,_,_])⟩
end
section
variable {n:Nat}{J J1 J2:MH}{s s0 t:St}{F:List (Nat×O)}{k:Int}{cl:Nat->Option Nat}{l:Loc}{x:Fx}{y:Wx}{c:Cv}{v:Wv}
theorem toW {X:List (Nat×O)}(h:Rr J (LC x c s (X++F))):Rr J (X++LC x c s F):=h.perm ((pj _ (oL ..)).trans (oL ..))
theorem toC {X:List (Nat×O)}(h:Rr J (X++LC x c s F)):Rr J (LC x c s (X++F)):=h.perm ((oL ..).trans (pj _ (oL ..)))
theorem inn {X:List (Nat×O)}{p:Nat×O}(h:Rr J (p:: LC x c s (X++F))):Rr J (LC x c s (X++p:: F)):=toC ((h.perm ((pj _ (oL ..)).trans (oL ..) |>.cons p)).toF.perm (pj _ (List.Perm.trans List.perm_middle.symm (pj _ List.perm_middle.symm))))
theorem out {X:List (Nat×O)}{p:Nat×O}(h:Rr J (LC x c s (X++p:: F))):Rr J (LC x c s (X++F)):=h.sub ((((oW _ _).append_left _).append_left _).append_left _)
theorem inF {X:List (Nat×O)}{p:Nat×O}(h:p∈F):p∈LC x c s (X++F):=ph _ (ph _ (ph _ h))
structure Rel (c:Cv)(v:Wv)(s:St):Prop where
 C:COk c s
 G:Gd s
 W:WOk v s
 u:c.unf=[]
 lk:∀ k,s.hold k≠0->af k v.ek=rc (.ref (c.ai k))
 z1:s.dsk 1=bz
 z2:1∈s.row->s.dat 1=bz
 c0:0<=s.calls
 c3:s.calls<=3
noncomputable def gf (x:Fx)(y:Wx)(F:List (Nat×O))(r:V)(m:MH):Prop:=∃ a b c v s,r = .t2 a b/\aP .eq a b m = .ok rg m/\Rel c v s/\Rr m (LC x c s (LW y v s++F))
theorem dh {i:Int}:∀ {r:List Int},(lG i r).Perm (i:: r)
 | []=>.refl _
 | j:: r=>by
  show(if i<=j then i:: j:: r else j:: lG i r).Perm _;by_cases e:i<=j
  ·rw[if_pos e]
  ·rw[if_neg e];exact(dh.cons j).trans (.swap ..)
theorem bP:∀ {r:List Int},(bW r).Perm r
 | []=>.refl _
 | i:: r=>dh.trans (bP.cons i)
theorem z40 {j:Int}:∀ {es:List (Int×V)},j∈es.map (·.1)->(af j es).isSome=rg
 | (i,w):: r,h=>by
  show(if i=j then rc w else af j r).isSome=rg;by_cases e:i=j
  ·rw[if_pos e];rfl
  ·rw[if_neg e];exact z40 ((List.mem_cons.mp h).resolve_left (qY e))
theorem WOk.key (W:WOk v s){j:Int}(h:j∈v.eh.map (·.1)):s.hold j≠0:=λe=>by
 have:=z40 h;rw[W.he j,if_pos e] at this
 cases this
theorem WOk.keyed (W:WOk v s){j:Int}(h:s.hold j≠0):j∈v.eh.map (·.1):=Decidable.byContradiction λq=>by
 have:=W.he j;rw[j9 q,if_neg h] at this
 cases this
theorem WOk.len (W:WOk v s)(K:Cap 3 s):v.eh.length<=3:=by
 obtain⟨hl,h3,hh⟩:=K;have:=List.Nodup.length_le_of_subset W.hk.1 (λj m=>hh j (W.key m));rw[qg] at this
 exact qt this h3
theorem WOk.cap (W:WOk v s)(K:Cap 3 s)(h:v.eh.length<3∨s.hold k≠0):Cap 3 (s.got k):=by
 unfold Cap;rw[fo]
 rcases h with h | h
 ·refine⟨k:: v.eh.map (·.1),by rw[pT,qg];exact h,λj q=>?_⟩
  by_cases e:j=k
  ·rw[e];exact .head _
  ·rw[aY e] at q;exact .tail _ (W.keyed q)
 ·obtain⟨hl,h3,hh⟩:=K
  refine⟨hl,h3,λj q=>?_⟩;by_cases e:j=k
  ·rw[e];exact hh k h
  ·rw[aY e] at q;exact hh j q
theorem Rel.num (H:Rel c v s)(h:s.hold k≠0):k∈bg:=dZ (H.G.I.bd k (H.G.I.hr k h))
theorem da {es:List (Int×V)}:((bW (es.map (·.1))).map V.int).length=es.length:=by rw[qg,bP.length_eq,qg]
theorem z9J {es:List (Int×V)}{i:Nat}(h:i<es.length):∃ j,((bW (es.map (·.1))).map V.int)[i]? = rc (.int j)/\j∈es.map (·.1):=by
 have hi:i<(bW (es.map (·.1))).length:=by rw[bP.length_eq,qg];exact h
 exact⟨(bW (es.map (·.1)))[i],by rw[pR,oP hi];rfl,bP.mem_iff.mp (List.getElem_mem hi)⟩
theorem ku {r m:Int}(h:0<m):0<=r.fmod m/\r.fmod m<m:=⟨Int.fmod_nonneg_of_pos r h,Int.fmod_lt_of_pos r h⟩
theorem fb {a b:Int}(h:b≠0):fc .mod (.int a) (.int b) J = .ok (.int (a.fmod b)) J:=bi (by show(if b=0 then re else rc (a.fmod b))=_;rw[if_neg h])
theorem pick {a:Nat}{r:Int}{m:Int}(W:WOk v s)(h:J.get a=rc (.lst ((bW (v.eh.map (·.1))).map V.int)))(hm:0<m)(hl:m<=v.eh.length)(hb:m<100):∃ j,cg (.ref a) (.int (r.fmod m)) J = .ok (.int j) J/\s.hold j≠0:=by
 obtain⟨b1,b2⟩:=ku (r:=r) hm;obtain⟨j,e,q⟩:=z9J (es:=v.eh) (i:=(r.fmod m).toNat) ((Int.toNat_lt b1).mpr (Int.lt_of_lt_of_le b2 hl));exact⟨j,nZ h ⟨b1,Int.lt_trans b2 (Int.lt_trans hb (by decide))⟩ e,W.key q⟩
theorem nB (z1:s.dsk 1=bz)(z2:1∈s.row->s.dat 1=bz)(h:1∈(s.got k).row):(s.got k).dat 1=bz:=by
 by_cases hk:k∈s.row
 ·rw[z5j hk] at h ⊢;exact z2 h
 ·rw[z5i hk] at h ⊢
  show up s.dat k (s.dsk k) 1=bz;by_cases e:1=k
  ·rw[<-e,be];exact z1
  ·rw[aY e]
   exact z2 (fA ((List.mem_append.mp h).resolve_right λq=>e (List.mem_singleton.mp q)))
theorem gf.off {p:Nat×O}{r:V}:gf x y (p:: F) r J->gf x y F r J:=by
 rintro⟨a,b,c,v,s,e1,e2,e3,e4⟩;exact⟨a,b,c,v,s,e1,e2,e3,out e4⟩
theorem zbQ (H:Rel c v s)(h:Rr J (LC x c s (LW y v s++F))){r:Int}:Ok (al ah (n+4) (.fn 10) [.ref y.w,.ref x.cache,.int 0,.int r] J) (gf x y F):=by
 have W:=H.W;have l3:=W.len H.G.K;refine mS h rfl rfl (λ_=>dS rfl (dS rfl (dS rfl rfl))) λm g=>?_
 have g1:=inn g;have gw:=toW g1;have:=g1.mem (inF (.head _));have:=gw.at 0 rfl
 apply aq;apply aS;kst_p;exact ji (gw.at 3 rfl) (pJ l3 (by decide)) (by rw[da];exact qt l3 (by decide));have g2:=inn (g1.push (.lst ((bW (v.eh.map (·.1))).map V.int)));have gs:=g2.mem (inF (.head _));have gc:=g2.mem (inF (.tail _ (.head _)));apply aN;kst_p;have q0:∃ k,evE (CX (n+3) (cW 17 J.n)) (.ite (.cmp .lt (.b1 .len (.loc 22)) (.cint 3)) (.bin .mod (.loc 33) (.cint 12)) (.idx (.loc 22) (.bin .mod (.loc 33) (.cint 3)))) ((((Loc.put (λ_=>re) 35 (.ref x.cache)).put 32 (.int 0)).put 33 (.int r)).put 22 (.ref m.n)) (m.push (.lst ((bW (v.eh.map (·.1))).map V.int))) = .ok (.int k) (m.push (.lst ((bW (v.eh.map (·.1))).map V.int)))/\k∈bg/\(v.eh.length<3∨s.hold k≠0):=by
  have el:=ck gs (by rw[da];exact qt l3 (by decide));rw[da] at el
  by_cases e:v.eh.length<3
  ·exact⟨_,iR (ax (aS (a8 rfl) el) ag (mN (dc (Int.ofNat_lt.mpr e)))) (aB (a8 rfl) ag (fb (by decide))),dZ (ku (by decide)),.inl e⟩
  ·refine el12 (pick (r:=r) (m:=3) W gs (by decide) (Int.ofNat_le.mpr (Nat.le_of_not_lt e)) (by decide)) λj e1 e2=>?_
   exact⟨j,fN (ax (aS (a8 rfl) el) ag (mN (df λh=>e (Int.ofNat_lt.mp h)))) (aW (a8 rfl) (aB (a8 rfl) ag (fb (by decide))) e1),H.num e2,.inr e2⟩
 refine el13 q0 λk en hk hc=>?_
 have kb:=bf hk;apply aq;exact en;refine(get (n:=n) g2 H.C H.G.I H.G.R kb.1 kb.2).elP λm3 c1 e3 C1 K1 g3=>?_
 have:=(atC g2).1;have:=(atC g2).2;have gw3:=toW g3;have:=g3.mem (inF (.tail _ (.head _)));have:=gw3.at 0 rfl
 apply eY;apply aC;kst_p;assumption;rfl;assumption;rfl;rfl;kst_p;exact e3;kst_p;kst_p;exact jV (gw3.at 4 rfl) W.kk.lim;have g4:=gw3.set 4 rfl (o':=.dct (aJ k (.ref (c1.ai k)) v.ek));refine Ok.ab (show Rr _ (LW y (v.wEk (aJ k (.ref (c1.ai k)) v.ek)) s++_) from g4) λm4 g4=>?_
 have:=(toC g4).mem (inF (.tail _ (.head _)));refine(nA (n:=n+2) g4 ⟨W.oc,W.ok,W.he,W.hk,W.kk.put kb.1 kb.2⟩ H.G hk).el22 λm5 eo eh e5 W5 g5=>?_
 apply av;apply aD rfl;kst_p;exact e5;have g6:=toC g5;have:=g6.mem (inF (.tail _ (.head _)));have:=g5.at 0 rfl;have:=g5.at 4 rfl
 have:=(atB g6 (bh (k:=k) (s:=s))).1;have:=(atB g6 (bh (k:=k) (s:=s))).2.1;have:=(atB g6 (bh (k:=k) (s:=s))).2.2;have ek:af k (aJ k (.ref (c1.ai k)) v.ek)=rc (.ref (c1.ai k)):=aU.trans (if_pos rfl)
 apply aX;kst_p;refine⟨_,_,c1,{ v.oh eo eh with ek:=aJ k (.ref (c1.ai k)) v.ek },s.got k,rfl,dJ (bT rfl),⟨C1,⟨H.G.I.got kb.1 kb.2 H.G.R,W.cap H.G.K hc⟩,W5,K1.2.2.trans H.u,λj hj=>?_,?_,?_,?_,?_⟩,out (out g6)⟩
 ·show af j (aJ k (.ref (c1.ai k)) v.ek)=_
  rw[aU];by_cases e:j=k
  ·rw[if_pos e,e]
  ·rw[if_neg e]
   have hj':s.hold j≠0:=by rw[fo,aY e] at hj;exact hj
   rw[H.lk j hj',K1.1 j hj']
 ·rw[z5g];exact H.z1
 ·exact nB H.z1 H.z2
 ·rw[fO];exact H.c0
 ·rw[fO];exact H.c3
end
section
variable {n:Nat}{J J1 J2:MH}{s s0 t:St}{F:List (Nat×O)}{k:Int}{cl:Nat->Option Nat}{l:Loc}{x:Fx}{y:Wx}{c:Cv}{v:Wv}
theorem z1i:(s.letGo k).calls=s.calls:=bq (·.calls) λ_ _ _ _=>rfl
theorem Rel.letGo (H:Rel c v s){eh:List (Int×V)}(hk:k∈s.row)(hh:s.hold k≠0)(W:WOk (v.oh v.eo eh) (s.letGo k)):Rel c (v.oh v.eo eh) (s.letGo k) where
 C:=H.C.letGo hk
 G:=⟨H.G.I.letGo hk hh,by
  obtain⟨hl,h3,h⟩:=H.G.K;refine⟨hl,h3,λj q=>h j λz=>q ?_⟩;rw[eO];have ne:j≠k:=λe=>hh (e▸z)
  rw[aY ne];exact z⟩
 W:=W
 u:=H.u
 lk j q:=H.lk j λz=>q (by
  rw[eO];have ne:j≠k:=λe=>hh (e▸z)
  rw[aY ne];exact z)
 z1:=(congrFun (bq (·.dsk) λ_ _ _ _=>rfl) 1).trans H.z1
 z2 q:=(congrFun (bq (·.dat) λ_ _ _ _=>rfl) 1).trans (H.z2 ((z2N hk).mp q))
 c0:=by rw[z1i];exact H.c0
 c3:=by rw[z1i];exact H.c3
theorem jf {Q:V->MH->Prop}{w r:Int}(H:Rel c v s)(h:Rr J (LC x c s (LW y v s++F)))
  (k:∀ m tl ca,Rr m (LC x c s (LW y v s++(tl,.lst ((bW (v.eh.map (·.1))).map V.int)):: (ca,.cell (rc (.ref y.w))):: F))->Ok (exSs (CX n (cW 17 ca)) (match z02 with | .cons _ ss=>ss | .nil=>.nil) ((((Loc.put (λ_=>re) 35 (.ref x.cache)).put 32 (.int w)).put 33 (.int r)).put 22 (.ref tl)) m) λr J'=>Q (cA r.1) J'):Ok (al ah (n+1) (.fn 10) [.ref y.w,.ref x.cache,.int w,.int r] J) Q:=by
 have W:=H.W;have l3:=W.len H.G.K;refine mS h rfl rfl (λ_=>dS rfl (dS rfl (dS rfl rfl))) λm g=>?_
 have g1:=inn g;have gw:=toW g1;have:=g1.mem (inF (.head _));have:=gw.at 0 rfl
 apply aq;apply aS;kst_p;exact ji (gw.at 3 rfl) (pJ l3 (by decide)) (by rw[da];exact qt l3 (by decide));exact k _ _ _ (inn (g1.push (.lst ((bW (v.eh.map (·.1))).map V.int))))
theorem z6F {es:List (Int×V)}:(bW (es.map (·.1))).isEmpty=es.isEmpty:=by
 cases es with
 | nil=>rfl
 | cons a r=>
  have:(bW ((a:: r).map (·.1))).length=r.length+1:=by rw[bP.length_eq,qg];rfl
  cases e:bW ((a:: r).map (·.1)) with
  | nil=>rw[e] at this;cases this
  | cons=>rfl
theorem zbR (H:Rel c v s)(h:Rr J (LC x c s (LW y v s++F))){r:Int}:Ok (al ah (n+3) (.fn 10) [.ref y.w,.ref x.cache,.int 1,.int r] J) (gf x y F):=by
 refine jf H h λm tl ca g=>?_
 have W:=H.W;have l3:=W.len H.G.K;apply ak;kst_p;have g2:=inn (g.push (.lst []));have e2:=ax (n:=n+2) (cl:=cW 17 ca) (op:=.ne) (J:=m) (l:=(((Loc.put (λ_=>re) 35 (.ref x.cache)).put 32 (.int 1)).put 33 (.int r)).put 22 (.ref tl)) (a:=.loc 22) (b:=.list .nil) (a8 rfl) (aE aA rfl) (iz (dq (g2.mem (inF (.tail _ (.head _)))) (g2.mem (inF (.head _)))));rw[z6F] at e2
 have gs:=g2.mem (inF (.tail _ (.head _)));have gc:=g2.mem (inF (.tail _ (.tail _ (.head _))));cases ee:v.eh with
 | nil=>
  rw[ee] at e2
  apply ak;apply bM;apply eV;kst_p;exact f7 e2;apply ak;kst_p;apply ak;kst_p;apply aX;kst_p;exact gp _ _ c v s rfl rfl H (out (out (out g2)))
 | cons a0 r0=>
  rw[ee] at e2
  apply aN;apply bM;apply eV;kst_p;exact f7 e2;have gw:=toW g2;have:=gw.at 0 rfl
  have lp:0<v.eh.length:=by rw[ee];exact Nat.succ_pos _
  refine el12 (pick (r:=r) (m:=(v.eh.length:Int)) W gs (Int.natCast_pos.mpr lp) (Int.le_refl _) (Int.ofNat_lt.mpr (pJ l3 (by decide)))) λk e1 hh=>?_
  have el:=ck gs (by rw[da];exact qt l3 (by decide));rw[da] at el
  apply aq;apply aW;kst_p;exact aB (a8 rfl) (aS (a8 rfl) el) (fb (Int.ne_of_gt (Int.natCast_pos.mpr lp)));exact e1;have hr:=H.G.I.hr k hh;refine(release (n:=n) g2 hr H.G.I.nd H.G.I.le H.C hh).el0 λm3 e3 g3=>?_
  have:=(atC g2).1;have:=(atC g2).2;have:=gw.at 4 rfl;have:=H.lk k hh
  apply aq;apply aC;kst_p;assumption;rfl;assumption;rfl;rfl;kst_p;exact e3;have:=g3.mem (inF (.tail _ (.tail _ (.head _))));refine(jC (n:=n+1) (toW g3) W H.G.I hr hh).el12 λm4 eh e4 W4 g4=>?_
  apply av;apply aD rfl;kst_p;exact e4;apply aX;kst_p;exact⟨_,_,c,_,s.letGo k,rfl,rfl,H.letGo hr hh W4,out (out (out (toC g4)))⟩
theorem zbe (z1:s.dsk 1=bz)(z2:1∈s.row->s.dat 1=bz)(h:1∈(s.look k).row):(s.look k).dat 1=bz:=
 (congrFun (bq (·.dat) λ_ _ _ _=>rfl) 1).trans (nB z1 z2 ((z2N bh).mp h))
theorem Rel.look {c':Cv}{eo eh:List (Int×V)}(H:Rel c v s)(hk:k∈bg)(C:COk c' (s.look k))(K:Kp s c c')(W:WOk (v.oh eo eh) (s.look k)):Rel c' (v.oh eo eh) (s.look k) where
 C:=C
 G:=H.G.look hk
 W:=W
 u:=K.2.2.trans H.u
 lk j q:=by
  rw[fR] at q
  rw[K.1 j q];exact H.lk j q
 z1:=(congrFun ((bq (·.dsk) λ_ _ _ _=>rfl).trans z5g) 1).trans H.z1
 z2:=zbe H.z1 H.z2
 c0:=by rw[eP];exact H.c0
 c3:=by rw[eP];exact H.c3
theorem eq_bytes {o:List UInt8}:aP .eq (.bytes o) (.bytes o) J = .ok rg J:=(show aP .eq (.bytes o) (.bytes o) J = .ok (o==o) J from rfl).trans (by rw[beq_self_eq_true])
theorem zbS (H:Rel c v s)(h:Rr J (LC x c s (LW y v s++F))){r:Int}:Ok (al ah (n+5) (.fn 10) [.ref y.w,.ref x.cache,.int 5,.int r] J) (gf x y F):=by
 refine jf H h λm tl ca g=>?_
 have hk:r.fmod 12∈bg:=dZ (ku (by decide));have kb:=bf hk;refine(oG (n:=n) g H.C H.G.I H.G.R kb.1 kb.2).elP λm1 c1 e1 C1 K1 g1=>?_
 have:=g1.mem (inF (.tail _ (.head _)));refine(jF (n:=n+2) (toW g1) H.W H.G hk).el22 λm2 eo eh e2 W2 g2=>?_
 have:=(atC g).1;have:=(atC g).2;have em:∀ {m:MH},fc .mod (.int r) (.int 12) m = .ok (.int (r.fmod 12)) m:=fb (by decide);apply ak;kst_p;apply ak;apply bM;apply ix;kst_p;apply aN;kst_p;apply aX;apply cM
 ·apply aC;kst_p;assumption;rfl;assumption;rfl;rfl;exact az (aB (a8 rfl) ag em);exact e1
 ·apply aD rfl (aa ?_ (az (aB (a8 rfl) ag em))) e2;kst_p
 exact gp _ _ c1 _ (s.look (r.fmod 12)) rfl eq_bytes (H.look hk C1 K1 W2) (out (out (toC g2)))
end
section
variable {n:Nat}{J J1 J2:MH}{s s0 t:St}{F:List (Nat×O)}{k:Int}{cl:Nat->Option Nat}{l:Loc}{x:Fx}{y:Wx}{c:Cv}{v:Wv}
theorem zaR {a:Nat}{xs:List V}{es:List (Int×V)}(h:J.get a=rc (.lst xs))(h2:xs.length<=lim)(h3:fZ xs=rc es)(h4:(es.map (·.1)).Nodup):bN .dict (.ref a) J = .ok (.ref J.n) (J.push (.dct es)):=(bnd (rdE h)).trans ((bnd (gdE (dc h2))).trans ((bnd (lfE h3)).trans ((bnd (gdE (dc h4))).trans rfl)))
theorem z2R {f:Int->V}:∀ {r:List Int},fZ (r.map λk=>V.t2 (.int k) (f k))=rc (r.map λk=>(k,f k))
 | []=>rfl
 | a:: r=>by
  show(fZ (r.map λk=>V.t2 (.int k) (f k))).map ((a,f a):: ·)=_;rw[z2R];rfl
theorem jA {f:Int->V}{r:List Int}:(r.map λk=>(k,f k)).map (·.1)=r:=by
 induction r with
 | nil=>rfl
 | cons a r ih=>exact congrArg (a:: ·) ih
theorem z2F {f:Int->V}{j:Int}:∀ {r:List Int},af j (r.map λk=>(k,f k))=if j∈r then rc (f j) else re
 | []=>rfl
 | a:: r=>by
  show(if a=j then rc (f a) else af j (r.map λk=>(k,f k)))=_;by_cases e:a=j
  ·rw[if_pos e,e,if_pos pH]
  ·rw[if_neg e,z2F]
   by_cases m:j∈r
   ·rw[if_pos m,if_pos (.tail _ m)]
   ·rw[if_neg m,if_neg];intro q;exact(List.mem_cons.mp q).elim (qY e) m
theorem cC {j:Int}:j∈s.forgot.row↔j∈s.row/\free s j=false:=by
 show j∈s.row.filter _↔_;rw[List.mem_filter,Bool.not_eq_true']
theorem Inv.forgot (I:Inv s):Inv s.forgot:={ I with
 nd:=I.nd.filter _
 le:=qt (List.length_filter_le ..) I.le
 bd:=λj m=>I.bd j (cC.mp m).1
 dl:=λj m=>I.dl j (cC.mp m).1
 hr:=λj q=>cC.mpr ⟨I.hr j q,iS (.inl q)⟩
 gr:=λj q=>cC.mpr ⟨I.gr j q,iS (.inr q)⟩ }
theorem z5u {j:Int}{m:MH}{W:WOk v s}(l:Loc)(hl:l 21=rc (.int j)){ca:Nat}{o:O}(ho:o = .dct v.eh∨o = .cdct v.eh)(gc:m.get ca=rc (.cell (rc (.ref y.w))))(gw:m.get y.w=rc (wO y v s))(g3:m.get y.wh=rc o)(g5:m.get v.wg=rc (.lst (s.grp.map V.int))):
  evE (CX n (cW 17 ca)) (.or (.cons (.cmp .isin (.loc 21) (.idx (.cel 17) (.cstr 22))) (.cons (.cmp .isin (.loc 21) (.idx (.cel 17) (.cstr 23))) .nil))) l m = .ok (.bool (!free s j)) m:=by
 have q3:aP .isin (.int j) (.ref y.wh) m = .ok (!(s.hold j==0)) m:=by
  rcases ho with rfl | rfl
  ·exact(fK g3).trans (by rw[ma W])
  ·exact(z8X g3).trans (by rw[ma W])
 have q4:aP .isin (.int j) (.ref v.wg) m = .ok (decide (j∈s.grp)) m:=gS g5 du;have e:(!free s j)=(!(s.hold j==0)||decide (j∈s.grp)):=by unfold free;rw[Bool.not_and,Bool.not_not]
 rw[e];apply dK;apply zcC
 ·apply ax;exact a8 hl;kst_p;exact q3
 ·apply jR;apply ax;exact a8 hl;kst_p;exact q4
theorem zbT (H:Rel c v s)(h:Rr J (LC x c s (LW y v s++F))){r:Int}:Ok (al ah (n+3) (.fn 10) [.ref y.w,.ref x.cache,.int 7,.int r] J) (gf x y F):=by
 refine jf H h λm tl ca g=>?_
 have W:=H.W;apply ak;kst_p;apply ak;apply bM;apply ix;kst_p;apply ak;kst_p;apply aN;kst_p;refine(zb6 (n:=n) g H.C H.G.I).el12 λm1 es e1 C1 g1=>?_
 have:=(atC g).1;have:=(atC g).2;apply aq;apply aC;kst_p;assumption;rfl;assumption;rfl;rfl;exact aA;exact e1;have w1:=toW g1;have c1:=g1.mem (inF (.tail _ (.head _)));have:=w1.at 0 rfl
 obtain⟨_,_,e2,m2,rfl,rfl,rfl⟩:=fM (n:=n+2) (cl:=cW 17 ca) (l:=((((Loc.put (λ_=>re) 35 (.ref x.cache)).put 32 (.int 7)).put 33 (.int r)).put 22 (.ref tl)).put 36 .none) (ys:=s.row) (f:=V.int) (g:=V.int) (p:=λj=>!free s j) (t:=.loc 21) (it:=.of (.idx (.cel 17) (.cstr 18))) (el:=.loc 21) (c:=.or (.cons (.cmp .isin (.loc 21) (.idx (.cel 17) (.cstr 22))) (.cons (.cmp .isin (.loc 21) (.idx (.cel 17) (.cstr 23))) .nil))) (J:=m1) (· = m1) (cV (by kst_p) (w1.at 1 rfl)) (λ_ e=>e▸w1.at 1 rfl) rfl (λj hj m' e=>by
  obtain rfl:=e.symm;exact .of rfl ⟨z5u (W:=W) _ rfl (.inl rfl) c1 (w1.at 0 rfl) (w1.at 3 rfl) (w1.at 5 rfl),rfl,rfl⟩) (qt H.G.I.le (by decide))
 have w2:=w1.push (.lst (s.forgot.row.map V.int));have c2:=(inn (toC w1 |>.push (.lst (s.forgot.row.map V.int)))).mem (inF (.tail _ (.tail _ (.head _))));apply eY;exact e2;exact aV rfl c2;exact aM;exact gP (w2.at 1 rfl) rfl;refine Ok.ab (show Rr _ (LW y (v.wWr m2.n) s.forgot++_) from(w2.set 1 rfl).repl (A:=[_])) λm3 w3=>?_
 have c3:=(toC w3).mem (inF (.tail _ (.head _)));have:=w3.at 0 rfl
 obtain⟨_,_,e4,m4,rfl,rfl,rfl⟩:=iP (n:=n+2) (cl:=cW 17 ca) (l:=((((Loc.put (λ_=>re) 35 (.ref x.cache)).put 32 (.int 7)).put 33 (.int r)).put 22 (.ref tl)).put 36 .none) (ys:=s.forgot.row) (f:=V.int) (g:=λj=>V.t2 (.int j) (.bytes (s.dat j))) (t:=.loc 21) (it:=.of (.idx (.cel 17) (.cstr 18))) (el:=.t2 (.loc 21) (.idx (.idx (.cel 17) (.cstr 7)) (.loc 21))) (J:=m3) (· = m3) (cV (by kst_p) (w3.at 1 rfl)) (λ_ e=>e▸w3.at 1 rfl) rfl (λj hj m' e=>by
  obtain rfl:=e.symm;have:=w3.at 2 rfl
  have:=(W.oc j).trans (if_pos (cC.mp hj).1)
  exact .of rfl (.of (by kst_p) ⟨rfl,rfl⟩)) (qt H.G.I.forgot.le (by decide))
 have w4:=w3.push (.lst (s.forgot.row.map λj=>V.t2 (.int j) (.bytes (s.dat j))));have w5:=(w4.push (.dct (s.forgot.row.map λk=>(k,V.bytes (s.dat k))))).sub (.cons_cons _ (.cons _ (.refl _)));have c5:((m4.push (.lst (s.forgot.row.map λj=>V.t2 (.int j) (.bytes (s.dat j))))).push (.dct (s.forgot.row.map λk=>(k,V.bytes (s.dat k))))).get ca=rc (.cell (rc (.ref y.w))):=w5.mem (.tail _ (ph _ (ph _ (ph _ (.tail _ (.head _))))));apply eY;apply aS e4 (zaR (w4.at 0 rfl) (by rw[qg];exact qt H.G.I.forgot.le (by decide)) z2R (by refine jA▸?_;exact H.G.I.forgot.nd));exact aV rfl c5;exact aM;exact gP (w5.at 1 rfl) rfl;refine Ok.ab (show Rr _ (LW y (((v.wWr m2.n).wWo ((m4.push (.lst (s.forgot.row.map λj=>V.t2 (.int j) (.bytes (s.dat j))))).n)).wEo (s.forgot.row.map λk=>(k,V.bytes (s.dat k)))) s.forgot++_) from(w5.set 1 rfl).repl (A:=[_,_])) λm6 w6=>?_
 apply aX;kst_p;refine gp _ _ (c.bn es) ((((v.wWr m2.n).wWo ((m4.push (.lst (s.forgot.row.map λj=>V.t2 (.int j) (.bytes (s.dat j))))).n)).wEo (s.forgot.row.map λk=>(k,V.bytes (s.dat k))))) s.forgot rfl rfl ⟨C1,⟨H.G.I.forgot,H.G.K⟩,⟨λj=>z2F,⟨by rw[jA];exact H.G.I.forgot.nd,λj m=>H.G.I.forgot.bd j (by rw[jA] at m;exact m)⟩,W.he,W.hk,W.kk⟩,H.u,H.lk,H.z1,λq=>H.z2 (cC.mp q).1,H.c0,H.c3⟩ (out (out (toC w6)))
end
section
variable {n:Nat}{J J1 J2:MH}{s s0 t:St}{F:List (Nat×O)}{k:Int}{cl:Nat->Option Nat}{l:Loc}{x:Fx}{y:Wx}{c:Cv}{v:Wv}{ss:Ss}{Q:Fl×Loc->MH->Prop}
theorem zaA {e:E}{w:V}{z a:Nat}{u:Option V}(h:evE (CX n cl) e l J = .ok w J1)(hc:cl z=rc a)(hg:J1.get a=rc (.cell u))(k:Ok (exSs (CX n cl) ss l (J1.set a (.cell (rc w)))) Q):Ok (exSs (CX n cl) (.cons (.assign (.cel z) e) ss) l J) Q:=
 have q:bindT (CX n cl) (.cel z) w l J1 = .ok l (J1.set a (.cell (rc w))):=(bnd (nN hc hg)).trans rfl
 .eq (bnd ((bnd h).trans ((bnd q).trans rfl):exS (CX n cl) (.assign (.cel z) e) l J = .ok (.next,l) (J1.set a (.cell (rc w))))) k
theorem ouf {X:List (Nat×O)}{p:Nat×O}(h:Rr J (LC x c s (X++p:: F))):Rr J (p:: LC x c s (X++F)):=((h.perm (pj _ (pj _ List.perm_middle))).perm (pj _ List.perm_middle)).ofF
theorem sw {X:List (Nat×O)}{p q:Nat×O}(h:Rr J (LC x c s (X++p:: q:: F))):Rr J (LC x c s (X++q:: p:: F)):=h.perm (pj _ (pj _ (pj _ (.swap ..))))
theorem kR {j:Nat}(h:J.get (nY j)=rc .tab):evE (CX n cl) (.lam j) l J = .ok (.clo j cl) J:=(bnd (rdE h)).trans rfl
theorem z6s (H:Rel c v s){o:List UInt8}(hk:k∈s.row)(hw:¬(1<=k/\k<=4))(ho:o.length=16):Rel c (v.wEo (aJ k (.bytes o) v.eo)) (s.setDat k o) where
 C:=⟨H.C.bn,H.C.bk,H.C.la,H.C.lk,H.C.kk,H.C.nt,H.C.nk,H.C.pn,H.C.uf,H.C.ul⟩
 G:=⟨H.G.I.setDat ho,H.G.K⟩
 W:=⟨λj=>by
  show af j (aJ k (.bytes o) v.eo)=if j∈s.row then rc (.bytes (up s.dat k o j)) else re
  rw[aU];by_cases e:j=k
  ·rw[if_pos e,e,if_pos hk,be]
  ·rw[if_neg e,aY e];exact H.W.oc j,H.W.ok.put (H.G.I.bd k hk).1 (H.G.I.bd k hk).2,H.W.he,H.W.hk,H.W.kk⟩
 u:=H.u
 lk:=H.lk
 z1:=H.z1
 z2 q:=(aY λe=>hw (by rw[<-e];decide)).trans (H.z2 q)
 c0:=H.c0
 c3:=H.c3
theorem z6a {c':Cv}(H:Rel c v s)(hk:k∈s.row)(hw:¬(1<=k/\k<=4))(hg:k∉s.grp)(hl:s.grp.length<3)(C:COk c' (s.joined k))(ea:c'.ai=c.ai)(eu:c'.unf=c.unf):Rel c' v (s.joined k) where
 C:=C
 G:=⟨{ H.G.I with
  gr:=λj m=>(List.mem_append.mp m).elim (H.G.I.gr j) λm=>List.mem_singleton.mp m▸hk
  gl:=by show(s.grp++[k]).length<=3;rw[pF];exact hl
  gn:=z5s H.G.I.gn hg
  go:=λj m=>(List.mem_append.mp m).elim (H.G.I.go j) λm=>List.mem_singleton.mp m▸hw },H.G.K⟩
 W:=⟨H.W.oc,H.W.ok,H.W.he,H.W.hk,H.W.kk⟩
 u:=eu.trans H.u
 lk j q:=by rw[ea];exact H.lk j q
 z1:=H.z1
 z2:=H.z2
 c0:=H.c0
 c3:=H.c3
noncomputable def z6O:Ss:=match cR with | .cons _ (.cons _ (.cons _ ss))=>ss | _=>.nil
noncomputable def zaJ:Ss:=match z6O with | .cons _ ss=>ss | _=>.nil
structure Cells (x:Fx)(y:Wx)(cl:Nat->Option Nat)(k:Int)(a b d:Nat)(F:List (Nat×O)):Prop where
 a1:cl 17=rc a
 b1:cl 42=rc b
 d1:cl 16=rc d
 a2:(a,O.cell (rc (.ref y.w)))∈F
 b2:(b,O.cell (rc (.ref x.jr)))∈F
 d2:(d,O.cell (rc (.int k)))∈F
 t:(1,O.tab)∈F
variable {a b d:Nat}
theorem z8G (Z9:Cells x y cl k a b d F)(H:Rel c v s)(h:Rr J (LC x c s (LW y v s++F)))(hh:s.hold k≠0):evEs (CX n cl) (.cons (.idx (.idx (.cel 17) (.cstr 34)) (.cel 16)) .nil) l J = .ok [.ref (c.ai k)] J:=by
 have gw:=toW h;exact az (aW (aW (aV Z9.a1 (h.mem (inF Z9.a2))) aM (eM (gw.at 0 rfl) rfl)) (aV Z9.d1 (h.mem (inF Z9.d2))) (mY (gw.at 4 rfl) (H.lk k hh)))
theorem zaH {m':MH}{w:V}(Z9:Cells x y cl k a b d F)(H:Rel c v s)(h:Rr J (LC x c s (LW y v s++F)))(hh:s.hold k≠0)(e:al ah n (.fn 21) [.ref x.jr,.ref (c.ai k)] J = .ok w m'):evE (CX (n+2) cl) (.call 3 (.cons (.lam 0) .nil)) l J = .ok w m':=by
 have j1:=(atJ h).1;have j2:=(atJ h).2;exact aD rfl (az (kR (h.mem (inF Z9.t)))) (z80 (e:=og) rfl (aC (aV Z9.b1 (h.mem (inF Z9.b2))) j1 rfl j2 rfl rfl (z8G Z9 H h hh) e))
theorem nS {m':MH}{i w:Nat}(Z9:Cells x y cl k a b d F)(H:Rel c v s)(h:Rr J (LC x c s (LW y v s++F)))(hh:s.hold k≠0)(e:al ah n (.fn 21) [.ref x.jr,.ref (c.ai k)] J = .exc i m')(hw:(i=3/\w=14)∨(i=1/\w=15)):evE (CX (n+2) cl) (.call 3 (.cons (.lam 0) .nil)) l J = .ok (.str w) m':=by
 have j1:=(atJ h).1;have j2:=(atJ h).2;exact aD rfl (az (kR (h.mem (inF Z9.t)))) (z5q (e:=og) rfl (zaw (aV Z9.b1 (h.mem (inF Z9.b2))) j1 rfl j2 rfl rfl (z8G Z9 H h hh) e) hw)
theorem m9 (Z9:Cells x y cl k a b d F)(h:Rr J (LC x c s (LW y v t++F))):evE (CX n cl) (.cmp2 .le .le (.cint 1) (.cel 16) (.cint 4)) l J = .ok (.bool (decide (1<=k)&&decide (k<=4))) J:=
 z5a ag (aV Z9.d1 (h.mem (inF Z9.d2))) (mM rfl) ag (mM rfl)
theorem zcE (h:1<=k/\k<=4):(decide (1<=k)&&decide (k<=4))=true:=by rw[decide_eq_true h.1,decide_eq_true h.2];rfl
theorem ownF (h:¬(1<=k/\k<=4)):(decide (1<=k)&&decide (k<=4))=false:=by
 by_cases e:1<=k
 ·rw[decide_eq_false λq=>h ⟨e,q⟩,Bool.and_false]
 ·rw[decide_eq_false e,Bool.false_and]
theorem zcU (Z9:Cells x y cl k a b d F)(H:Rel c v s)(h:Rr J (LC x c s (LW y v s++F)))(hh:s.hold k≠0):Ok (exSs (CX (n+5) cl) z6O l J) λr m=>gf x y F (cA r.1) m:=by
 have hk:=H.G.I.hr k hh;have arg:∀ l:Loc,l 36=rc (.str 15)->(s.calls=0∨(1<=k/\k<=4))->Ok (exSs (CX (n+5) cl) zaJ l J) λr m=>gf x y F (cA r.1) m:=λl l36 hc=>by
  have gw:=toW h;apply aN
  ·by_cases e:s.calls=0
   ·apply dK;apply o6;exact ax (aW (aV Z9.a1 (h.mem (inF Z9.a2))) aM (eM (gw.at 0 rfl) rfl)) ag (dJ (bT e))
   ·apply dK;apply il;exact ax (aW (aV Z9.a1 (h.mem (inF Z9.a2))) aM (eM (gw.at 0 rfl) rfl)) ag (dJ (bF e))
    apply jR;have:=m9 (n:=n+5) (l:=l) Z9 h;rw[zcE (hc.resolve_left e)] at this;exact this
  apply aq;exact aM;apply aX;exact cM (a8 l36) (a8 rfl);exact gp _ _ c v s rfl rfl H h
 by_cases e0:s.calls=0
 ·apply dR;exact aa (nS (n:=n+3) Z9 H h hh (z9T h e0) (.inr ⟨rfl,rfl⟩)) (az bu);exact bj rfl (bj rfl rfl)
  exact arg _ rfl (.inl e0)
 by_cases ow:1<=k/\k<=4
 ·apply dR;exact aa (nS (n:=n+3) Z9 H h hh (z9U h e0 hk ow) (.inr ⟨rfl,rfl⟩)) (az bu);exact bj rfl (bj rfl rfl)
  exact arg _ rfl (.inr ow)
 have c1:∀ {m:MH}{c:Cv}{t:St}{l:Loc},Rr m (LC x c t (LW y v s++F))->evE (CX (n+5) cl) (.or (.cons (.cmp .eq (.idx (.cel 17) (.cstr 44)) (.cint 0)) (.cons (.cmp2 .le .le (.cint 1) (.cel 16) (.cint 4)) .nil))) l m = .ok (.bool rj) m:=λ{m c t l} h=>by
  have gw:=toW h;apply dK;apply il;exact ax (aW (aV Z9.a1 (h.mem (inF Z9.a2))) aM (eM (gw.at 0 rfl) rfl)) ag (dJ (bF e0));apply jR;have:=m9 (n:=n+5) (l:=l) Z9 h;rw[ownF ow] at this;exact this
 have nin:∀ {m:MH}{c:Cv}{t:St}{l:Loc},Rr m (LC x c t (LW y v s++F))->evE (CX (n+5) cl) (.cmp .notin (.cel 16) (.idx (.cel 17) (.cstr 23))) l m = .ok (.bool (!decide (k∈s.grp))) m:=λ{m c t l} h=>by
  have gw:=toW h;exact ax (aV Z9.d1 (h.mem (inF Z9.d2))) (aW (aV Z9.a1 (h.mem (inF Z9.a2))) aM (eM (gw.at 0 rfl) rfl)) (z3J (gS (gw.at 5 rfl) du))
 have len:∀ {m:MH}{c:Cv}{t:St}{l:Loc},Rr m (LC x c t (LW y v s++F))->evE (CX (n+5) cl) (.cmp .eq (.b1 .len (.idx (.cel 17) (.cstr 23))) (.cint 3)) l m = .ok (.bool ((s.grp.length:Int)==3)) m:=λ{m c t l} h=>by
  have gw:=toW h;have e:(s.grp.map V.int).length=s.grp.length:=qg ..;refine ax (aS (aW (aV Z9.a1 (h.mem (inF Z9.a2))) aM (eM (gw.at 0 rfl) rfl)) ((ck (gw.at 5 rfl) ?_).trans (by rw[e]))) ag (dJ rfl);rw[e];exact qt H.G.I.gl (by decide)
 by_cases hg:k∈s.grp
 ·have hn:=@nin;rw[decide_eq_true hg] at hn
  apply dR;exact aa (zaH (n:=n+3) Z9 H h hh (z9V h H.C e0 hk ow hg hh)) (az bu);exact bj rfl (bj rfl rfl);apply ak;exact c1 h;apply ak;exact bM (ix (hn h));apply ak;exact hn h;apply aX;exact cM (a8 rfl) (a8 rfl);exact gp _ _ c v s rfl rfl H h
 have hn:=@nin;rw[decide_eq_false hg] at hn
 by_cases h3:s.grp.length=3
 ·have hl:=@len;rw[h3] at hl
  apply dR;exact aa (nS (n:=n+3) Z9 H h hh (z9W h H.C e0 hk ow hg h3) (.inl ⟨rfl,rfl⟩)) (az bu);exact bj rfl (bj rfl rfl);apply ak;exact c1 h;apply aN;exact bM (eV (hn h) (f7 (hl h)));apply aq;exact aM;apply aX;exact cM (a8 rfl) (a8 rfl);exact gp _ _ c v s rfl rfl H h
 ·have h3':s.grp.length<3:=Nat.lt_of_le_of_ne H.G.I.gl h3
  have hl:=@len;rw[show((s.grp.length:Int)==3)=rj from bF (by lia)] at hl
  refine(z9X (n:=n) h H.C H.G.I e0 hk ow hg h3' hh).el14 λm1 c' e1 C' ea eu g1=>?_
  apply dR;exact aa (zaH (n:=n+3) Z9 H h hh e1) (az bu);exact bj rfl (bj rfl rfl);apply ak;exact c1 g1;apply ak;exact bM (eV (hn g1) (f7 (hl g1)));apply aN;exact hn g1;have gw:=toW g1;apply av;apply bm;exact aW (aV Z9.a1 (g1.mem (inF Z9.a2))) aM (eM (gw.at 0 rfl) rfl);exact gw.at 5 rfl;rfl;exact az (aV Z9.d1 (g1.mem (inF Z9.d2)))
  ·exact cm (gw.at 5 rfl) (by rw[qg];exact Nat.lt_trans h3' (by decide))
  rw[show(s.grp.map V.int)++[.int k]=(s.grp++[k]).map V.int from by simp only[List.map_append];rfl];have g2:=gw.set 5 rfl (o':=.lst ((s.grp++[k]).map V.int));apply aX;exact cM (a8 rfl) (a8 rfl);exact gp _ _ c' v (s.joined k) rfl rfl (z6a H hk ow hg h3' C' ea eu) (toC g2)
end
section
variable {n:Nat}{J J1 J2:MH}{s s0 t:St}{F:List (Nat×O)}{k:Int}{cl:Nat->Option Nat}{l:Loc}{x:Fx}{y:Wx}{c:Cv}{v:Wv}{ss:Ss}{Q:Fl×Loc->MH->Prop}
theorem innL {X P:List (Nat×O)}(h:Rr J (P++LC x c s (X++F))):Rr J (LC x c s (X++(P++F))):=h.perm ((oL ..).trans (pj _ ((oL ..).trans (pj _ (oL ..)))))
theorem z8T {i:Int}(h:0<=i/\i<256):fG [.int i]=rc [UInt8.ofNat i.toNat]:=by
 show(hV i).bind _=_;unfold hV;rw[if_pos h];rfl
theorem zcc {r:Int}(h:0<=r/\r<1000000000000):fc .fdiv (.int r) (.int 3) J = .ok (.int (r.fdiv 3)) J:=bi (by
 show(if(3:Int)=0∨(!small r)=rg then re else rc (r.fdiv 3))=_;have:small r=true:=dc (jW h.1 h.2);rw[if_neg];rintro(q | q)
 ·exact absurd q (by decide)
 ·rw[this] at q;cases q)
theorem zcw {u:UInt8}:fc .mul (.bytes [u]) (.int 16) J = .ok (.bytes (qi 16 [u]).flatten) J:=(bnd (gdE (dc ⟨(λq=>nomatch q),(by decide:1<=16),by decide,by decide⟩))).trans rfl
noncomputable def z6N:Ss:=match cR with | .cons _ (.cons _ ss)=>ss | _=>.nil
theorem wr_1 {a b d:Nat}(Z9:Cells x y cl k a b d F)(H:Rel c v s)(h:Rr J (LC x c s (LW y v s++F)))(hh:s.hold k≠0){r:Int}(l33:l 33=rc (.int r))(hr:0<=r/\r<1000000000000):Ok (exSs (CX (n+5) cl) z6N l J) λr m=>gf x y F (cA r.1) m:=by
 have hk:=H.G.I.hr k hh;have own:=m9 (n:=n+5) (l:=l) Z9 h;by_cases ow:1<=k/\k<=4
 ·rw[zcE ow] at own
  apply ak;exact mP own;exact zcU Z9 H h hh
 ·rw[ownF ow] at own
  apply aN;exact zak own;have hb:=ku (r:=r.fdiv 3) (m:=256) (by decide);have h1:=inn (h.push (.lst [.int ((r.fdiv 3).fmod 256)]));have ho:(qi 16 [UInt8.ofNat ((r.fdiv 3).fmod 256).toNat]).flatten.length=16:=rfl;generalize eo:(qi 16 [UInt8.ofNat ((r.fdiv 3).fmod 256).toNat]).flatten=o at ho
  have gw:=toW h1;apply eY
  ·refine aB (aS (aE (az (aB (aB (a8 l33) ag (zcc hr)) ag (fb (by decide)))) rfl) (jh (h1.mem (inF (.head _))) (show 1<=lim by decide) (z8T hb))) ag (zcw.trans (by rw[eo]))
  ·exact aW (aV Z9.a1 (h1.mem (inF (.tail _ Z9.a2)))) aM (eM (gw.at 0 rfl) rfl)
  ·exact aV Z9.d1 (h1.mem (inF (.tail _ Z9.d2)))
  ·exact jV (gw.at 2 rfl) H.W.ok.lim
  refine Ok.ab (show Rr _ (LC x c s (LW y (v.wEo (aJ k (.bytes o) v.eo)) s++F)) from out (toC (gw.set 2 rfl))) λm2 g2=>?_
  have gw2:=toW g2;refine(zcd (n:=n+4) g2 hk H.G.I.nd ho (H.G.I.dl k hk)).el0 λm3 e3 g3=>?_
  have ew {l:Loc}:evE (CX (n+5) cl) (.cel 17) l m2 = .ok (.ref y.w) m2:=aV Z9.a1 (g2.mem (inF Z9.a2));have ek {l:Loc}:evE (CX (n+5) cl) (.cel 16) l m2 = .ok (.int k) m2:=aV Z9.d1 (g2.mem (inF Z9.d2));have b1:=(atB g2 hk).1;have b2:=(atB g2 hk).2.1;apply av;apply aC;exact aW (aW ew aM (eM (gw2.at 0 rfl) rfl)) ek (mY (gw2.at 4 rfl) (H.lk k hh));exact b1;rfl;exact b2;rfl;rfl
  ·exact az (aW (aW ew aM (eM (gw2.at 0 rfl) rfl)) ek (mY (gw2.at 2 rfl) (aU.trans (if_pos rfl))))
  ·exact e3
  exact zcU Z9 (z6s H hk ow ho) g3 hh
theorem zcT {a b d:Nat}{p:Nat×O}(h:Rr J (LC x c s (LW y v s++(d,.cell (rc (.int k))):: p:: (b,.cell (rc (.ref x.jr))):: (a,.cell (rc (.ref y.w))):: F)))(q1:cl 17=rc a)(q2:cl 42=rc b)(q3:cl 16=rc d)(ht:(1,O.tab)∈F)(H:Rel c v s)(hh:s.hold k≠0){r:Int}(l33:l 33=rc (.int r))(hr:0<=r/\r<1000000000000):Ok (exSs (CX (n+5) cl) z6N l J) λr m=>gf x y F (cA r.1) m:=
 (wr_1 ⟨q1,q2,q3,.tail _ (.tail _ (.tail _ (.head _))),.tail _ (.tail _ (.head _)),.head _,.tail _ (.tail _ (.tail _ (.tail _ ht)))⟩ H h hh l33 hr).mono λ_ _ q=>q.off.off.off.off
theorem z9Y (H:Rel c v s)(h:Rr J (LC x c s (LW y v s++F)))(ht:(1,O.tab)∈F)(hne:0<v.eh.length){r:Int}(hr:0<=r/\r<1000000000000):Ok (al ah (n+6) (.fn 11) [.ref y.w,.ref x.jr,.int r] J) (gf x y F):=by
 have W:=H.W;have l3:=W.len H.G.K;have g3:=((h.push (.cell re)).push (.cell re)).push (.cell re);have g4:=g3.set 2 rfl (o':=.cell (rc (.ref y.w)));have g5:=g4.set 1 rfl (o':=.cell (rc (.ref x.jr)));refine lL rfl rfl rfl (mI rfl (g3.at 2 rfl) (mI rfl (g4.at 1 rfl) (dS rfl rfl))) ?_;have g6:=innL (P:=[_,_,_]) g5;have gw:=toW g6;apply aq;apply aS;exact aW (aV rfl (g5.at 2 rfl)) aM (eM (gw.at 0 rfl) rfl);exact ji (gw.at 3 rfl) (pJ l3 (by decide)) (by rw[da];exact qt l3 (by decide));have g7:=sw (inn (g6.push (.lst ((bW (v.eh.map (·.1))).map V.int))));have gs:=g7.mem (inF (.tail _ (.head _)));have el:=ck gs (by rw[da];exact qt l3 (by decide));rw[da] at el
 refine el12 (pick (r:=r) (m:=(v.eh.length:Int)) W gs (Int.natCast_pos.mpr hne) (Int.le_refl _) (Int.ofNat_lt.mpr (pJ l3 (by decide)))) λk e1 hh=>?_
 apply zaA;exact aW (a8 rfl) (aB (a8 rfl) (aS (a8 rfl) el) (fb (Int.ne_of_gt (Int.natCast_pos.mpr hne)))) e1;rfl;exact g7.mem (inF (.head _));refine Ok.ab (inn ((ouf g7).set 0 rfl)) λm8 g8=>?_
 exact zcT g8 rfl rfl rfl ht H hh rfl hr
end
section
variable {n:Nat}{J J1 J2:MH}{s s0 t:St}{F:List (Nat×O)}{k:Int}{cl:Nat->Option Nat}{l:Loc}{x:Fx}{y:Wx}{c:Cv}{v:Wv}{ss:Ss}{Q:Fl×Loc->MH->Prop}
theorem z1g {g:List Int}:∀ {j:Nat},(jo g s j).calls=s.calls
 | 0=>rfl
 | j+1=>im.trans (eP.trans z1g)
theorem z1h {g:List Int}:∀ {j:Nat},(iE g s j).calls=s.calls
 | 0=>rfl
 | j+1=>im.trans (eP.trans z1h)
theorem z0T {ns:List Int}:(s.headed ns).calls=s.calls:=im
theorem z0R:s.commit.calls=s.calls:=z0T.trans ((z1h (s:=s.filled.headed s.grp)).trans (z0T.trans z1g))
theorem zcH {o:List UInt8}:(s.put k o).dsk k=o/\(s.put k o).dat k=o:=
 ⟨(congrFun (bq (·.dsk) λ_ _ _ _=>rfl) k).trans (be ..),(congrFun (bq (·.dat) λ_ _ _ _=>rfl) k).trans (be ..)⟩
theorem z3L:s.commit.dsk 1=bz/\s.commit.dat 1=bz:=zcH (s:=(s.filled.headed s.grp).insted s.grp) (k:=1) (o:=fq [])
theorem fg {w:Int}{Q:V->MH->Prop}(h:Rr J (LC x c s (LW y v s++F)))
  (k:∀ m a,Rr m (LC x c s (LW y v s++(a,.cell (rc (.ref x.jr))):: F))->Ok (exSs (CX n (cW 42 a)) z09 ((Loc.put (λ_=>re) 17 (.ref y.w)).put 32 (.int w)) m) λr m=>Q (cA r.1) m):Ok (al ah (n+1) (.fn 12) [.ref y.w,.ref x.jr,.int w] J) Q:=by
 have g:=h.push (.cell re);exact lL rfl rfl rfl (dS rfl (mI rfl (g.at 0 rfl) (dS rfl rfl))) (k _ _ (inn (g.set 0 rfl)))
variable {a:Nat}
theorem oD {m':MH}{w:V}{j f:Nat}{mt:Nat}(hl:ky j=rc (.meth (.cel 42) mt re .nil))(hj:(nY j,O.tab)∈F)(hm:mU 5 mt=rc f)(ho:(af mt (match jO x c s with | .ns fs=>fs | _=>[])).isNone=rg)(hf:qX f 14=rj)(hc:cl 42=rc a)(h:Rr J (LC x c s (LW y v t++(a,.cell (rc (.ref x.jr))):: F)))(e:al ah n (.fn f) [.ref x.jr] J = .ok w m'):evE (CX (n+2) cl) (.call 3 (.cons (.lam j) .nil)) l J = .ok w m':=by
 have j1:=(atJ h).1;have j2:=(atJ h).2;exact aD rfl (az (kR (h.mem (inF (.tail _ hj))))) (z80 hl (aC (aV hc (h.mem (inF (.head _)))) j1 hm j2 ho hf aA e))
theorem o4 {m':MH}{i w:Nat}{j f:Nat}{mt:Nat}(hl:ky j=rc (.meth (.cel 42) mt re .nil))(hj:(nY j,O.tab)∈F)(hm:mU 5 mt=rc f)(ho:(af mt (match jO x c s with | .ns fs=>fs | _=>[])).isNone=rg)(hf:qX f 14=rj)(hc:cl 42=rc a)(h:Rr J (LC x c s (LW y v t++(a,.cell (rc (.ref x.jr))):: F)))(e:al ah n (.fn f) [.ref x.jr] J = .exc i m')(hw:(i=3/\w=14)∨(i=1/\w=15)):evE (CX (n+2) cl) (.call 3 (.cons (.lam j) .nil)) l J = .ok (.str w) m':=by
 have j1:=(atJ h).1;have j2:=(atJ h).2;exact aD rfl (az (kR (h.mem (inF (.tail _ hj))))) (z5q hl (zaw (aV hc (h.mem (inF (.head _)))) j1 hm j2 ho hf aA e) hw)
theorem z7c (H:Rel c v s)(h:Rr J (LC x c s (LW y v s++F)))(ht:(2,O.tab)∈F):Ok (al ah (n+5) (.fn 12) [.ref y.w,.ref x.jr,.int 2] J) (gf x y F):=by
 refine fg h λm a g=>?_
 have gw:=toW g;have g0:=gw.at 0 rfl
 have gl:=H.G.I.gl;have el:bN .len (.ref v.wg) m = .ok (.int s.grp.length) m:=(ck (gw.at 5 rfl) (by rw[qg];exact qt gl (by decide))).trans (by rw[qg])
 apply aN;kst_p;have ec:evE (CX (n+4) (cW 42 a)) (.cmp .gt (.bin .add (.bin .add (.b1 .len (.idx (.loc 17) (.cstr 23))) (.idx (.loc 17) (.cstr 44))) (.cint 1)) (.cint 3)) ((Loc.put (λ_=>re) 17 (.ref y.w)).put 32 (.int 2)) m = .ok (.bool (decide ((3:Int)<(s.grp.length:Int)+s.calls+1))) m:=by kst_p
 by_cases hr:(s.grp.length:Int)+s.calls+1<=3
 ·rw[decide_eq_false (Int.not_lt.mpr hr)] at ec
  apply aq;exact fN ec bu;apply fC;kst_p;kst_p;kst_p;exact aS (ax (a8 rfl) bu rfl) rfl;rfl
  ·exact gP (gw.at 0 rfl) rfl
  refine Ok.ab (toC (gw.set 0 rfl):Rr _ (LC x c s (LW y v s.begun++_))) λm1 g1=>?_
  refine(z72 (n:=n) g1 gl H.c0 H.c3 hr).el0 λm2 e2 g2=>?_
  apply aX;exact cM (oD (j:=1) rfl ht rfl rfl rfl rfl g1 e2) (a8 rfl);refine gp _ _ c v s.begun rfl rfl ⟨⟨H.C.bn,H.C.bk,H.C.la,H.C.lk,H.C.kk,H.C.nt,H.C.nk,H.C.pn,H.C.uf,H.C.ul⟩,⟨{ H.G.I with },H.G.K⟩,⟨H.W.oc,H.W.ok,H.W.he,H.W.hk,H.W.kk⟩,H.u,H.lk,H.z1,H.z2,?_,?_⟩ (out g2)
  ·exact Int.add_nonneg H.c0 (by decide)
  ·exact Int.le_trans (Int.add_le_add_right (Int.le_add_of_nonneg_left (Int.natCast_nonneg _)) 1) hr
 ·rw[decide_eq_true (Int.not_le.mp hr)] at ec
  apply aq;exact iR ec aM;apply fC;kst_p;kst_p;kst_p;exact aS (ax (a8 rfl) bu rfl) rfl;rfl
  ·exact gP (gw.at 0 rfl) rfl
  have gx:=gw.set 0 rfl (o':=wO y v (s.wCalls (s.calls+0)));have es:((s.wCalls (s.calls+0)):St)=s:=by rw[Int.add_zero]
  refine Ok.ab (show Rr _ (LC x c s (LW y v (s.wCalls (s.calls+0))++_)) from toC gx) λm1 g1=>?_
  replace g1:=es▸g1;apply aX;exact cM (o4 (j:=1) rfl ht rfl rfl rfl rfl g1 (z71 (n:=n) g1 gl H.c0 H.c3 hr) (.inl ⟨rfl,rfl⟩)) (a8 rfl);exact gp _ _ c v s rfl rfl H (out g1)
theorem z7e (H:Rel c v s)(h:Rr J (LC x c s (LW y v s++F)))(ht:(2,O.tab)∈F):Ok (al ah (n+9) (.fn 12) [.ref y.w,.ref x.jr,.int 6] J) (gf x y F):=by
 refine fg h λm a g=>?_
 have gw:=toW g;have g0:=gw.at 0 rfl
 apply ak;kst_p;apply aN;kst_p;by_cases hc:s.calls > 0
 ·apply aq;exact o4 (j:=2) rfl ht rfl rfl rfl rfl g (z6l (n:=n+5) g hc) (.inr ⟨rfl,rfl⟩)
  apply aN;apply dK;apply o6;kst_p;apply aX;exact cM (a8 rfl) aM;exact gp _ _ c v s rfl rfl H (out g)
 by_cases hg:s.grp=[]
 ·obtain⟨_,m1,e1,c1,b,rfl,C1,K1,g1⟩:=z6n (n:=n) g H.C H.G hc hg (nB H.z1 H.z2 bh)
  apply aq;exact oD (j:=2) rfl ht rfl rfl rfl rfl g e1;have g2:=inn g1;have gw2:=toW g2;have g3:=inn (g2.push (.lst []));have gw3:=toW g3;have g02:=gw2.at 0 rfl
  apply ak;apply dK;apply il;kst_p
  ·apply jR;apply ax;kst_p;exact aE aA rfl
   refine eJ ((dq (ns:=[]) ?_ (g3.mem (inF (.head _)))));have:=gw3.at 5 rfl
   rw[hg] at this;exact this
  refine(jF (n:=n+6) (k:=1) gw3 H.W H.G (by decide)).el22 λm4 eo eh e4 W4 g4=>?_
  apply av;apply aD rfl;kst_p;exact e4;have g5:=g4.push (.lst []);apply aX;exact cM (a8 rfl) (aE aA rfl);refine gp _ _ c1 _ (s.look 1) rfl ?_ (H.look (by decide) C1 K1 W4) (out (out (out (toC g5.tl))));exact dq (ns:=[]) (g5.mem (.tail _ (ph _ (ph _ (ph _ (.tail _ (.head _))))))) (g5.at 0 rfl)
 ·refine el12 (z6m (n:=n+5) g hc hg) λm1 e1 g1=>?_
  apply aq;exact o4 (j:=2) rfl ht rfl rfl rfl rfl g e1 (.inr ⟨rfl,rfl⟩);have gw1:=toW g1;have g01:=gw1.at 0 rfl
  have g2:=gw1.push (.lst []);have q2:=dq (g2.at 6 rfl) (g2.at 0 rfl);replace q2:=(show s.grp.isEmpty=rj from by
   cases eg:s.grp with
   | nil=>exact(hg eg).elim
   | cons a r=>rfl)▸q2
  apply aN;apply dK;apply il;kst_p
  ·apply jR;apply ax;kst_p;exact aE aA rfl
   exact kL q2
  apply aX;exact cM (a8 rfl) aM;exact gp _ _ c v s rfl rfl H (out (toC g2.tl))
theorem z7d (H:Rel c v s)(h:Rr J (LC x c s (LW y v s++F)))(ht:(2,O.tab)∈F):Ok (al ah (n+10) (.fn 12) [.ref y.w,.ref x.jr,.int 4] J) (gf x y F):=by
 refine fg h λm a g=>?_
 have gw:=toW g;have g0:=gw.at 0 rfl
 apply ak;kst_p;apply ak;kst_p;by_cases hc:s.calls=0
 ·apply aq;exact o4 (j:=3) rfl ht rfl rfl rfl rfl g (zca (n:=n+6) g hc) (.inr ⟨rfl,rfl⟩)
  apply aN;kst_p;apply aX;exact cM (a8 rfl) aM;exact gp _ _ c v s rfl rfl H (out g)
 ·obtain⟨_,m1,e1,rfl,c1,C1,G1,h1,a1,u1,g1⟩:=zb1 (n:=n) (LI.start g H.C H.G H.u) hc
  apply aq;exact oD (j:=3) rfl ht rfl rfl rfl rfl g e1;have gw1:=toW g1;have g01:=gw1.at 0 rfl
  apply ak;kst_p;apply fC;kst_p;kst_p;kst_p;kst_p;rfl
  ·exact gP (gw1.at 0 rfl) rfl
  refine Ok.ab (show Rr _ (LW y v s.down++_) from gw1.set 0 rfl) λm2 g2=>?_
  have g02:=g2.at 0 rfl
  have W2:WOk v s.down:=⟨H.W.oc,H.W.ok,H.W.he,H.W.hk,H.W.kk⟩
  have G2:Gd s.down:=⟨{ H.G.I with },H.G.K⟩
  have d0:0<=s.down.calls:=Int.le_sub_one_of_lt (Int.lt_iff_le_and_ne.mpr ⟨H.c0,qY hc⟩);have d3:s.down.calls<=3:=Int.le_trans (Int.sub_le_self _ (by decide)) H.c3;have lk:∀ (v':Wv),v'.ek=v.ek->∀ j,s.ended.hold j≠0->af j v'.ek=rc (.ref (c1.ai j)):=λv' ev j q=>by
   rw[h1] at q
   rw[ev,a1 j q];exact H.lk j q
  by_cases e:s.down.calls=0
  ·have g3:=g2.push (.lst [])
   have ge:=dq (g3.at 6 rfl) (g3.at 0 rfl);cases eg:s.grp with
   | nil=>
    have e3:s.ended=s.down:=if_neg λq=>q.2 eg
    rw[show s.down.grp=[] from eg] at ge
    rw[e3] at C1 lk g3
    apply ak;apply bM;apply eV;kst_p;apply f7;apply ax;kst_p;exact aE aA rfl;exact eJ ge;apply aX;exact cM (a8 rfl) bu;exact gp _ _ c1 v s.down rfl rfl ⟨C1,G2,W2,u1,lk v rfl,H.z1,H.z2,d0,d3⟩ (out (toC g3.tl))
   | cons p r=>
    have e3:s.ended=s.down.commit:=if_pos ⟨e,by rw[eg];exact λq=>nomatch q⟩;rw[show s.down.grp=p:: r from eg] at ge
    rw[e3] at C1 G1 lk g3
    refine(z3M (n:=n+5) (s:=s.down) (v:=v) (y:=y) (t:=s.down) (J:=m2.push (.lst [])) ⟨G2,rfl,rfl,v.eo,v.eh,W2,g3.tl⟩).el13 λm4 v4 e4 k4 W4 g4=>?_
    apply aN;apply bM;apply eV;kst_p;apply f7;apply ax;kst_p;exact aE aA rfl;exact kL ge;apply av;apply aD rfl;kst_p;exact e4;apply aX;exact cM (a8 rfl) bu;refine gp _ _ c1 v4 s.down.commit rfl rfl ⟨C1,G1,W4,u1,lk v4 k4,z3L.1,λ_=>z3L.2,?_,?_⟩ (out (toC g4))
    ·rw[z0R];exact d0
    ·rw[z0R];exact d3
  ·have e3:s.ended=s.down:=if_neg λq=>e q.1
   rw[e3] at C1 lk g2
   apply ak;apply bM;apply ix;kst_p;apply aX;exact cM (a8 rfl) bu;exact gp _ _ c1 v s.down rfl rfl ⟨C1,G2,W2,u1,lk v rfl,H.z1,H.z2,d0,d3⟩ (out (toC g2))
end
section
variable {n:Nat}{J J1 J2:MH}{s s0 t:St}{F:List (Nat×O)}{k:Int}{cl:Nat->Option Nat}{l:Loc}{x:Fx}{y:Wx}{c:Cv}{v:Wv}{ss:Ss}{Q:Fl×Loc->MH->Prop}
theorem z4C {β:Type}{f:β->V}{ys:List β}{it:Ite}{tg:Tg}{el cn:E}(h:evIt (CX n cl) it l J = .ok ⟨ys.map f,re⟩ J1)
  (hs:∀ y,y∈ys->∃ l',bindT (CX n cl) tg (f y) (λ_=>re) J1 = .ok l' J1/\evE (CX n cl) cn l' J1 = .ok (.bool rj) J1):evE (CX n cl) (.compIf el tg it cn) l J = .ok (.ref J1.n) (J1.push (.lst [])):=by
 obtain⟨vs,J2,e1,e2,h2⟩:=mB (jk (f:=f) (g:=λ_=>re) (I:=(· = J1)) (it:=ys.map f) (turn:=λx=>do let l'<-bindT (CX n cl) tg x (λ_=>re);if<-aQ (<-evE (CX n cl) cn l') then do pure (rc (<-evE (CX n cl) el l')) else pure re) ys J1 (λy m J i=>by
  subst i;refine el12 (hs y m) λl' q1 q2=>?_
  exact .of ((bnd q1).trans ((bnd q2).trans ((bnd (a:=rj) (J1:=J) rfl).trans rfl))) ⟨rfl,rfl⟩) rfl)
 have e3:vs=[]:=by refine e2▸?_;exact List.filterMap_eq_nil_iff.mpr λ_ _=>rfl
 subst e3;obtain rfl:=h2.symm;exact(bnd h).trans ((bnd e1).trans (nl (qB _)))
theorem z24:∀ {r:List Int},V.eqAll (r.map V.int) (r.map V.int)=rc rg
 | []=>rfl
 | a:: r=>by
  show(match rc (a==a),V.eqAll (r.map V.int) (r.map V.int) with | some x,rc y=>rc (x&&y) | _,_=>re)=_;rw[z24,beq_self_eq_true];rfl
theorem z58 {a b:Nat}{r:List Int}(h1:J.get a=rc (.lst (r.map V.int)))(h2:J.get b=rc (.lst (r.map V.int))):aP .eq (.ref a) (.ref b) J = .ok rg J:=kK h1 h2 (by rw[if_pos rfl,z24])
theorem zck {e:E}{a:Nat}{es:List (Int×V)}(h:evE (CX n cl) e l J = .ok (.ref a) J1)(hx:J1.get a=rc (.cdct es)):evIt (CX n cl) (.of e) l J = .ok ⟨es.map λe=>V.int e.1,re⟩ J1:=(bnd h).trans ((bnd (rdE hx)).trans rfl)
noncomputable def TL (L:List (Nat×O)):V->MH->Prop:=λr J'=>r = .bool rg/\Rr J' L
noncomputable def cts (s:St):List V:=[V.int s.hits,.int s.reads,.int s.writes,.int s.flushes,.int s.calls,.int (3-(s.grp.length:Int))]
theorem same (H:Rel c v s)(h:Rr J (LC x c s (LWo y v s (.cdct v.eh)++F))):Ok (al ah (n+3) (.fn 14) [.ref y.w,.ref x.cache,.ref x.jr] J) (TL (LC x c s (LWo y v s (.cdct v.eh)++F))):=by
 have W:=H.W;have gl:=H.G.I.gl;refine mS h rfl rfl (λ_=>dS rfl (dS rfl rfl)) λm g=>?_
 have g1:=inn g;have gw:=toW g1;have:=(atC g1).1;have:=(atC g1).2;have:=(atD g1).1;have:=(atD g1).2;have:=(atJ g1).1;have:=(atJ g1).2;have el:=left (n:=n+1) g1 gl;apply aq
 ·exact aE (vs:=[V.int s.hits,.int s.reads,.int s.writes,.int s.flushes,.int s.calls,.int (3-(s.grp.length:Int))]) (by kst_p) (show decide (6<=lim)=rg by decide)
 have g2:=inn (g1.push (.lst (cts s)));have gw2:=toW g2;have gc2:=g2.mem (inF (.tail _ (.head _)));have g02:=gw2.at 0 rfl
 have lg:bN .len (.ref v.wg) (m.push (.lst (cts s))) = .ok (.int s.grp.length) _:=(ck (gw2.at 5 rfl) (by rw[qg];exact qt gl (by decide))).trans (by rw[qg])
 have g3:=inn (g2.push (.lst (cts s)));apply ak
 ·apply ax;exact a8 rfl
  ·exact aE (vs:=[V.int s.hits,.int s.reads,.int s.writes,.int s.flushes,.int s.calls,.int (3-(s.grp.length:Int))]) (by kst_p) (show decide (6<=lim)=rg by decide)
  ·exact eJ (z58 (r:=[s.hits,s.reads,s.writes,s.flushes,s.calls,3-(s.grp.length:Int)]) (g3.mem (inF (.tail _ (.head _)))) (g3.mem (inF (.head _))))
 refine Ok.ab (out g3) λm4 g4=>?_
 have gw4:=toW g4;have gc4:=g4.mem (inF (.tail _ (.head _)));have g04:=gw4.at 0 rfl
 obtain⟨_,_,e5,m5,rfl,rfl,rfl⟩:=fM (n:=n+2) (cl:=cW 17 J.n) (l:=((Loc.put (λ_=>re) 35 (.ref x.cache)).put 42 (.ref x.jr)).put 49 (.ref m.n)) (ys:=s.row) (f:=V.int) (g:=V.int) (p:=λj=>!free s j) (t:=.loc 21) (it:=.of (.idx (.cel 17) (.cstr 18))) (el:=.loc 21) (c:=.or (.cons (.cmp .isin (.loc 21) (.idx (.cel 17) (.cstr 22))) (.cons (.cmp .isin (.loc 21) (.idx (.cel 17) (.cstr 23))) .nil))) (J:=m4) (· = m4) (cV (by kst_p) (gw4.at 1 rfl)) (λ_ e=>e▸gw4.at 1 rfl) rfl (λj hj m' e=>by
  obtain rfl:=e.symm;exact .of rfl ⟨z5u (W:=W) _ rfl (.inr rfl) gc4 g04 (gw4.at 3 rfl) (gw4.at 5 rfl),rfl,rfl⟩) (qt H.G.I.le (by decide))
 apply aq;exact e5;have g6:=inn (g4.push (.lst ((s.row.filter λj=>!free s j).map V.int)));obtain⟨_,m7,e7,kl,rfl,g7⟩:=zcq (n:=n+1) g6 H.G.I.le;refine(z4E (n:=n) (inn g7) H.C H.G.I.le).el0 λm8 e8 g8=>?_
 have:=(atC g6).1;have:=(atC g6).2;have:=(atC (inn g7)).1;have:=(atC (inn g7)).2;have gc7:=(inn g7).mem (inF (.tail _ (.tail _ (.tail _ (.head _)))));have gw7:=toW (inn g7);have g07:=gw7.at 0 rfl
 have gw6:=toW g6;have fl:(s.row.filter λj=>!free s j).length<=lim:=qt (List.length_filter_le ..) (qt H.G.I.le (by decide));apply ak
 ·apply dK;apply il
  ·apply ax;apply aC;kst_p;assumption;rfl;assumption;rfl;rfl;exact aA;exact e7;kst_p
   exact eJ (z58 (g7.at 0 rfl) (gw7.at 1 rfl))
  ·apply jR;apply ax;apply aC;kst_p;assumption;rfl;assumption;rfl;rfl;exact aA;exact e8
   ·apply aB;exact ag;apply aS;exact a8 rfl;exact ck (g8.mem (inF (.tail _ (.head _)))) (by rw[qg];exact fl);rfl
   ·exact eJ (dJ (bT (by rw[qg])))
 have gw8:=toW g8;have gc8:=g8.mem (inF (.tail _ (.tail _ (.tail _ (.head _)))));have g08:=gw8.at 0 rfl
 have e9:=z4C (n:=n+2) (cl:=cW 17 J.n) (l:=(((Loc.put (λ_=>re) 35 (.ref x.cache)).put 42 (.ref x.jr)).put 49 (.ref m.n)).put 51 (.ref m5.n)) (ys:=v.eh) (f:=λe=>V.int e.1) (tg:=.loc 21) (it:=.of (.idx (.cel 17) (.cstr 22))) (el:=.loc 21) (cn:=.cmp .ne (.meth (.idx (.idx (.cel 17) (.cstr 34)) (.loc 21)) 7 re .nil) (.idx (.idx (.cel 17) (.cstr 7)) (.loc 21))) (zck (by kst_p) (gw8.at 3 rfl)) (λe me=>by
  have hh:=W.key (List.mem_map_of_mem (f:=(·.1)) me);have hr:=H.G.I.hr e.1 hh;have b1:=(atB g8 hr).1;have b2:=(atB g8 hr).2.1;refine⟨_,rfl,ax (aC (aW (aW (aV rfl gc8) aM (eM g08 rfl)) (a8 rfl) (mY (gw8.at 4 rfl) (H.lk e.1 hh))) b1 rfl b2 rfl rfl aA (mr (n:=n+1) g8 hr (cI (H.G.I.dl e.1 hr)))) (aW (aW (aV rfl gc8) aM (eM g08 rfl)) (a8 rfl) (mY (gw8.at 2 rfl) ((W.oc e.1).trans (if_pos hr)))) (eJ eq_bytes)⟩)
 have g9:=inn (g8.push (.lst []));have g10:=inn (g9.push (.lst []));apply aX;apply ax;exact e9;exact aE aA rfl;exact dq (ns:=[]) (g10.mem (inF (.tail _ (.head _)))) (g10.mem (inF (.head _)));exact⟨rfl,out (out (out (out (out (out g10)))))⟩
end
section
variable {n:Nat}{J J1 J2:MH}{s s0 t:St}{F:List (Nat×O)}{k:Int}{cl:Nat->Option Nat}{l:Loc}{x:Fx}{y:Wx}{c:Cv}{v:Wv}{ss:Ss}{Q:Fl×Loc->MH->Prop}
theorem zcu {w h:Nat}{r:List V}{es:List (Nat×V)}{hs:List (Int×V)}{z:V}{m':MH}{call:List V->M V}(h1:J.get w=rc (.sd es))(h2:af 22 es=rc (.ref h))(h3:J.get h=rc (.dct hs))(h4:call (.ref w:: r) (J.set h (.cdct hs)) = .ok z m'):dL 22 call (.ref w:: r) J = .ok z (m'.set h (.dct hs)):=by
 have q:l6 J 22 (.ref w:: r)=rc (h,hs):=by
  show((J.get w).bind _).bind _=_;rw[h1];show((af 22 es).bind _).bind _=_;rw[h2];show(J.get h).bind _=_;rw[h3];rfl
 unfold dL;rw[q];show(match call (.ref w:: r) (J.set h (.cdct hs)) with | .ok v J'=>R.ok v (J'.set h (.dct hs)) | _=>.bad)=_;rw[h4]
theorem zbd (H:Rel c v s)(h:Rr J (LC x c s (LW y v s++F))):Ok (dA ah (al ah (n+3)) (.fn 14) [.ref y.w,.ref x.cache,.ref x.jr] J) (TL (LC x c s (LW y v s++F))):=by
 have gw:=toW h;have g1:Rr (J.set y.wh (.cdct v.eh)) (LC x c s (LWo y v s (.cdct v.eh)++F)):=toC (gw.set 3 rfl);refine(same (n:=n) H g1).el0 λm2 e2 g2=>?_
 refine .of (zcu (gw.at 0 rfl) rfl (gw.at 3 rfl) e2) ⟨rfl,toC ((toW g2).set 3 rfl)⟩
theorem mA {tg:Tg}{e:E}{w:V}{l1:Loc}(h:evE (CX n cl) e l J = .ok w J1)(h2:bindT (CX n cl) tg w l J1 = .ok l1 J2)(k:Ok (exSs (CX n cl) ss l1 J2) Q):Ok (exSs (CX n cl) (.cons (.tupE tg e) ss) l J) Q:=
 .eq (bnd ((bnd h).trans ((bnd h2).trans rfl):exS (CX n cl) (.tupE tg e) l J = .ok (.next,l1) J2)) k
noncomputable def zbM (x:Fx)(y:Wx)(F:List (Nat×O))(r:V)(m:MH):Prop:=r = .bool rg/\∃ c v s,Rel c v s/\Rr m (LC x c s (LW y v s++F))
noncomputable def z6L:Ss:=match z01 with | .cons _ (.cons _ ss)=>ss | _=>.nil
theorem fj {e:E}(h:Ok (evE (CX (n+3) cl) e l J) (gf x y F))(h17:l 17=rc (.ref y.w))(h35:l 35=rc (.ref x.cache))(h42:l 42=rc (.ref x.jr)):
  Ok (exSs (CX (n+3) cl) (.cons (.tupE (.pair (.loc 36) (.loc 41)) e) z6L) l J) λr m=>zbM x y F (cA r.1) m:=by
 obtain⟨_,m1,e1,a,b,c,v,s,rfl,eq,H,g⟩:=h;refine(zbd (n:=n) H g).el0 λm2 e2 g2=>?_
 apply mA;exact e1;exact(bnd (a:=l.put 36 a) (J1:=m1) rfl).trans rfl;apply aX
 ·apply bM;apply eV;exact ax (a8 rfl) (a8 rfl) eq
  have q17:((l.put 36 a).put 41 b) 17=rc (.ref y.w):=h17;have q35:((l.put 36 a).put 41 b) 35=rc (.ref x.cache):=h35;have q42:((l.put 36 a).put 41 b) 42=rc (.ref x.jr):=h42;exact f7 ((bnd (aa (a8 q17) (aa (a8 q35) (az (a8 q42))))).trans e2)
 exact⟨rfl,c,v,s,H,g2⟩
theorem zc4 {w:Int}(h:w∈([0,1,2,3,4,5,6,7]:List Int)):w=0∨w=1∨w=2∨w=3∨w=4∨w=5∨w=6∨w=7:=
 (List.mem_cons.mp h).imp_right λh=>(List.mem_cons.mp h).imp_right λh=>(List.mem_cons.mp h).imp_right λh=>(List.mem_cons.mp h).imp_right λh=>(List.mem_cons.mp h).imp_right λh=>(List.mem_cons.mp h).imp_right λh=>(List.mem_cons.mp h).imp_right List.mem_singleton.mp
theorem deed (H:Rel c v s)(h:Rr J (LC x c s (LW y v s++F)))(t1:(1,O.tab)∈F)(t2:(2,O.tab)∈F){i:Int}(hi:0<=i/\i<1000000000000):Ok (al ah (n+11) (.fn 13) [.ref y.w,.ref x.cache,.ref x.jr,.int i] J) (zbM x y F):=by
 have hb:=ku (r:=i) (m:=8) (by decide);have hd:0<=i.fdiv 8/\i.fdiv 8<1000000000000:=by
  rw[Int.fdiv_eq_ediv_of_nonneg _ (by decide)];exact⟨Int.ediv_nonneg hi.1 (by decide),Int.lt_of_le_of_lt (Int.ediv_le_self _ hi.1) hi.2⟩
 have ed:fc .fdiv (.int i) (.int 8) J = .ok (.int (i.fdiv 8)) J:=bi (by
  show(if(8:Int)=0∨(!small i)=rg then re else rc (i.fdiv 8))=_;have:small i=true:=dc (jW hi.1 hi.2);rw[if_neg];rintro(q | q)
  ·exact absurd q (by decide)
  ·replace q:=this▸q;cases q)
 refine bc rfl rfl ?_;apply dR;exact aa (aB (a8 rfl) ag (fb (by decide))) (az (aB (a8 rfl) ag ed));exact bj rfl (bj rfl rfl);generalize i.fmod 8=w at hb
 generalize i.fdiv 8=r at hd
 have g1:=inn (h.push (.lst ([0,1,5,7].map V.int)));have hw:w∈([0,1,2,3,4,5,6,7]:List Int):=z4q (m:=8) (by decide) hb;have hin:∀ {l:Loc}{b:Bool},l 32=rc (.int w)->fp w ([0,1,5,7].map V.int)=rc b->evE (CX (n+10) λ_=>re) (.cmp .isin (.loc 32) (.list (.cons (.cint 0) (.cons (.cint 1) (.cons (.cint 5) (.cons (.cint 7) .nil)))))) l J = .ok (.bool b) (J.push (.lst ([0,1,5,7].map V.int))):=λe q=>
  ax (a8 e) (aE (vs:=[.int 0,.int 1,.int 5,.int 7]) (aa ag (aa ag (aa ag (az ag)))) rfl) (gS (g1.mem (inF (.head _))) q)
 rcases zc4 hw with rfl | rfl | rfl | rfl | rfl | rfl | rfl | rfl
 ·apply aN;exact hin rfl rfl
  refine fj ?_ rfl rfl rfl;refine el22 (zbQ (n:=n+6) H g1 (r:=r)) λ_ m e q=>?_
  exact .of (aD rfl (aa (a8 rfl) (aa (a8 rfl) (aa (a8 rfl) (az (a8 rfl))))) e) q.off
 ·apply aN;exact hin rfl rfl
  refine fj ?_ rfl rfl rfl;refine el22 (zbR (n:=n+7) H g1 (r:=r)) λ_ m e q=>?_
  exact .of (aD rfl (aa (a8 rfl) (aa (a8 rfl) (aa (a8 rfl) (az (a8 rfl))))) e) q.off
 ·apply ak;exact hin rfl rfl
  apply ak;exact ax (a8 rfl) ag rfl;refine fj ?_ rfl rfl rfl;refine el22 (z7c (n:=n+5) H g1 (.tail _ t2)) λ_ m e q=>?_
  exact .of (aD rfl (aa (a8 rfl) (aa (a8 rfl) (az (a8 rfl)))) e) q.off
 ·apply ak;exact hin rfl rfl
  apply aN;exact ax (a8 rfl) ag rfl;refine fj ?_ rfl rfl rfl;have g2:=inn (g1.push (.dct []));have gw:=toW g2;have ec:evE (CX (n+10) λ_=>re) (.cmp .ne (.idx (.loc 17) (.cstr 22)) .dict0) _ (J.push (.lst ([0,1,5,7].map V.int))) = .ok (.bool (!(v.eh.length==0))) ((J.push (.lst ([0,1,5,7].map V.int))).push (.dct [])):=ax (aW (a8 (l:=(((((Loc.put (λ_=>re) 17 (.ref y.w)).put 35 (.ref x.cache)).put 42 (.ref x.jr)).put 48 (.int i)).put 32 (.int 3)).put 33 (.int r)) rfl) aM (eM ((toW g1).at 0 rfl) rfl)) rfl (iz (z7i (gw.at 3 rfl) (g2.mem (inF (.head _)))));refine if e0:v.eh.length=0 then ?_ else ?_
  ·replace ec:=e0▸ec
   exact .of (fN ec (cM bu bu)) ⟨_,_,c,v,s,rfl,rfl,H,out (out g2)⟩
  ·simp only[show(v.eh.length==0)=rj from beq_eq_false_iff_ne.mpr e0] at ec
   refine el22 (z9Y (n:=n+4) H g2 (.tail _ (.tail _ t1)) (Nat.pos_of_ne_zero e0) hd) λ_ m e q=>?_
   exact .of (iR ec (aD rfl (aa (a8 rfl) (aa (a8 rfl) (az (a8 rfl)))) e)) q.off.off
 ·apply ak;exact hin rfl rfl
  apply ak;exact ax (a8 rfl) ag rfl;refine fj ?_ rfl rfl rfl;refine el22 (z7d (n:=n) H g1 (.tail _ t2)) λ_ m e q=>?_
  exact .of (aD rfl (aa (a8 rfl) (aa (a8 rfl) (az (a8 rfl)))) e) q.off
 ·apply aN;exact hin rfl rfl
  refine fj ?_ rfl rfl rfl;refine el22 (zbS (n:=n+5) H g1 (r:=r)) λ_ m e q=>?_
  exact .of (aD rfl (aa (a8 rfl) (aa (a8 rfl) (aa (a8 rfl) (az (a8 rfl))))) e) q.off
 ·apply ak;exact hin rfl rfl
  apply ak;exact ax (a8 rfl) ag rfl;refine fj ?_ rfl rfl rfl;refine el22 (z7e (n:=n+1) H g1 (.tail _ t2)) λ_ m e q=>?_
  exact .of (aD rfl (aa (a8 rfl) (aa (a8 rfl) (az (a8 rfl)))) e) q.off
 ·apply aN;exact hin rfl rfl
  refine fj ?_ rfl rfl rfl;refine el22 (zbT (n:=n+7) H g1 (r:=r)) λ_ m e q=>?_
  exact .of (aD rfl (aa (a8 rfl) (aa (a8 rfl) (aa (a8 rfl) (az (a8 rfl))))) e) q.off
end
section
variable {n:Nat}{J J1 J2:MH}{s s0 t:St}{F L:List (Nat×O)}{k:Int}{cl:Nat->Option Nat}{l:Loc}{x:Fx}{y:Wx}{c:Cv}{v:Wv}{ss:Ss}{Q:Fl×Loc->MH->Prop}
theorem Rr.pick (h:Rr J L):∀ {is:List Nat},is.Nodup->Rr J (is.filterMap λi=>L[i]?)
 | []=>λ_=>⟨.nil,λ_ m=>absurd m pZ⟩
 | i:: r=>by
  intro nd;refine bX (List.nodup_cons.mp nd) λn1 n2=>?_
  have q:=Rr.pick h n2;simp only[pC];cases e:L[i]? with
  | none=>exact q
  | some p=>
   have mp:=pv e;refine⟨List.nodup_cons.mpr ⟨λm=>?_,q.1⟩,λz m=>h.2 z ?_⟩
   ·refine el12 (List.mem_map.mp m) λz mz ez=>?_
    refine el12 (List.mem_filterMap.mp mz) λj mj ej=>?_
    have hi:i<(L.map (·.1)).length:=by simp only[qg];exact(List.getElem?_eq_some_iff.mp e).1
    have:i=j:=(List.getElem?_inj hi h.1).mp (by simp only[pR,pR,e,ej];exact congrArg rc ez.symm);exact n1 (this▸mj)
   ·rcases List.mem_cons.mp m with rfl | m
    ·exact mp
    ·refine el12 (List.mem_filterMap.mp m) λj _ ej=>?_
     exact pv ej
variable {a d:Nat}
theorem bw {f:Nat}{e:E}{w:V}{fs:List (Nat×V)}{q:Nat}(hq:iI q f=rg)(h:Rr J ((a,.inst q d):: (d,.ns fs):: L))(hl:l 61=rc (.ref a))(he:evE (CX n cl) e l J = .ok w J)(h6:decide (fs.length<=100)=rg)(k:∀ m,Rr m ((a,.inst q d):: (d,.ns (aJ f w fs)):: L)->Ok (exSs (CX n cl) ss l m) Q):Ok (exSs (CX n cl) (.cons (.attr (.loc 61) f e) ss) l J) Q:=by
 apply dC;exact he;exact a8 hl;exact sa (h.at 0 rfl) hq (h.at 1 rfl) h6;exact k _ (h.set 1 rfl)
theorem gu {f:Nat}{e:E}{o:O}{fs:List (Nat×V)}{q:Nat}(hq:iI q f=rg)(h:Rr J ((a,.inst q d):: (d,.ns fs):: L))(hl:l 61=rc (.ref a))(he:evE (CX n cl) e l J = .ok (.ref J.n) (J.push o))(h6:decide (fs.length<=100)=rg)(k:∀ m z,Rr m ((a,.inst q d):: (d,.ns (aJ f (.ref z) fs)):: (z,o):: L)->Ok (exSs (CX n cl) ss l m) Q):Ok (exSs (CX n cl) (.cons (.attr (.loc 61) f e) ss) l J) Q:=by
 have g:=h.push o;apply dC;exact he;exact a8 hl;exact sa (g.at 1 rfl) hq (g.at 2 rfl) h6;exact k _ _ ((g.set 2 rfl).perm ((List.Perm.swap ..).trans ((List.Perm.swap ..).cons _)))
noncomputable def nD (ke la un:Nat):List (Nat×V):=[(60,.int 12),(2,.int 16),(34,.ref ke),(95,.ref la),(58,.ref un),(29,.int 0),(31,.int 0),(96,.none),(97,.none),(98,.bool rj)]
noncomputable def nC (di row bn:Nat):List (Nat×V):=[(26,.ref di),(12,.int 8),(2,.int 16),(18,.ref row),(91,.ref bn),(19,.int 0),(27,.int 0),(29,.int 0)]
noncomputable def nJ (ca nu no:Nat):List (Nat×V):=[(35,.ref ca),(59,.int 1),(2,.int 4),(62,.int 3),(12,.int 3),(64,.int 1),(1,.ref nu),(66,.ref no),(44,.int 0),(67,.int 0)]
theorem zc3 (h:Rr J ((a,.inst 8 d):: (d,.ns []):: L)):Ok (al ah (n+1) (.fn 48) [.ref a,.int 12,.int 16] J) λr m=>r = .none/\∃ ke la un,Rr m ((a,.inst 8 d):: (d,.ns (nD ke la un)):: (un,.lst []):: (la,.dct []):: (ke,.dct []):: L):=by
 refine bc rfl rfl ?_;apply ak;kst_p;refine bw rfl h rfl (a8 rfl) rfl λm h=>?_
 refine bw rfl h rfl (a8 rfl) rfl λm h=>?_
 refine gu rfl h rfl rfl rfl λm ke h=>?_
 refine gu rfl h rfl rfl rfl λm la h=>?_
 refine gu rfl h rfl (aE aA rfl) rfl λm un h=>?_
 refine bw rfl h rfl ag rfl λm h=>?_
 refine bw rfl h rfl ag rfl λm h=>?_
 refine bw rfl h rfl bu rfl λm h=>?_
 refine bw rfl h rfl bu rfl λm h=>?_
 refine bw rfl h rfl z59 rfl λm h=>?_
 exact aH ⟨rfl,ke,la,un,h⟩
theorem zbY {di dn:Nat}{fs:List (Nat×V)}(h:Rr J ((a,.inst 7 d):: (d,.ns []):: (di,.inst 8 dn):: (dn,.ns fs):: L))(hf:af 2 fs=rc (.int 16)):Ok (al ah (n+1) (.fn 33) [.ref a,.ref di,.int 8] J) λr m=>r = .none/\∃ row bn,Rr m ((a,.inst 7 d):: (d,.ns (nC di row bn)):: (bn,.dct []):: (row,.lst []):: (di,.inst 8 dn):: (dn,.ns fs):: L):=by
 refine bc rfl rfl ?_;apply ak;kst_p;refine bw rfl h rfl (a8 rfl) rfl λm h=>?_
 refine bw rfl h rfl (a8 rfl) rfl λm h=>?_
 refine bw rfl h rfl (aI (a8 rfl) (h.at 2 rfl) rfl (h.at 3 rfl) hf) rfl λm h=>?_
 refine gu rfl h rfl (aE aA rfl) rfl λm row h=>?_
 refine gu rfl h rfl rfl rfl λm bn h=>?_
 refine bw rfl h rfl ag rfl λm h=>?_
 refine bw rfl h rfl ag rfl λm h=>?_
 refine bw rfl h rfl ag rfl λm h=>?_
 exact aH ⟨rfl,row,bn,h⟩
theorem z7p {e f:E}{i j:Int}(h1:evE (CX n cl) e l J = .ok (.int i) J)(h2:evE (CX n cl) f l J = .ok (.int j) J):evE (CX n cl) (.min e f) l J = .ok (.int (if j<i then j else i)) J:=(bnd h1).trans ((bnd h2).trans rfl)
theorem zcn {ca cn di dn:Nat}{fs cs:List (Nat×V)}(h:Rr J ((a,.inst 5 d):: (d,.ns []):: (ca,.inst 7 cn):: (cn,.ns cs):: (di,.inst 8 dn):: (dn,.ns fs):: L))(hf:af 60 fs=rc (.int 12))(hd:af 26 cs=rc (.ref di))(h2:af 2 cs=rc (.int 16))(h12:af 12 cs=rc (.int 8)):
  Ok (al ah (n+1) (.fn 16) [.ref a,.ref ca,.int 1,.int 4,.int 1] J) λr m=>r = .none/\∃ nu no,Rr m ((a,.inst 5 d):: (d,.ns (nJ ca nu no)):: (no,.dct []):: (nu,.lst []):: (ca,.inst 7 cn):: (cn,.ns cs):: (di,.inst 8 dn):: (dn,.ns fs):: L):=by
 refine bc rfl rfl ?_;apply ak
 ·apply dK;apply il;kst_p;apply il;kst_p;apply jR
  exact ax (aB (a8 rfl) (a8 rfl) rfl) (aI (aI (a8 rfl) (h.at 2 rfl) rfl (h.at 3 rfl) hd) (h.at 4 rfl) rfl (h.at 5 rfl) hf) rfl
 refine bw rfl h rfl (a8 rfl) rfl λm h=>?_
 refine bw rfl h rfl (a8 rfl) rfl λm h=>?_
 refine bw rfl h rfl (a8 rfl) rfl λm h=>?_
 refine bw rfl h rfl (z7p (aB (a8 rfl) ag rfl) (aB (aB (aI (a8 rfl) (h.at 2 rfl) rfl (h.at 3 rfl) h2) (iQ rfl) rfl) ag rfl)) rfl λm h=>?_
 refine bw rfl h rfl (z7p (aI (a8 rfl) (h.at 0 rfl) rfl (h.at 1 rfl) rfl) (aB (aI (a8 rfl) (h.at 2 rfl) rfl (h.at 3 rfl) h12) (iQ rfl) rfl)) rfl λm h=>?_
 apply ak;exact ax (aI (a8 rfl) (h.at 0 rfl) rfl (h.at 1 rfl) rfl) ag rfl;refine bw rfl h rfl (fN (ax (a8 rfl) bu rfl) (a8 rfl)) rfl λm h=>?_
 apply ak;exact mP (jl ag (aI (a8 rfl) (h.at 0 rfl) rfl (h.at 1 rfl) rfl) rfl (aI (a8 rfl) (h.at 0 rfl) rfl (h.at 1 rfl) rfl) rfl);refine gu rfl h rfl (aE aA rfl) rfl λm nu h=>?_
 refine gu rfl h rfl rfl rfl λm no h=>?_
 refine bw rfl h rfl ag rfl λm h=>?_
 refine bw rfl h rfl ag rfl λm h=>?_
 exact aH ⟨rfl,nu,no,h⟩
end
section
variable {n:Nat}{J J1 J2:MH}{F L:List (Nat×O)}{k:Int}{cl:Nat->Option Nat}{l:Loc}{x:Fx}{y:Wx}{c:Cv}{v:Wv}{ss:Ss}{Q:Fl×Loc->MH->Prop}
noncomputable def st0:St:=⟨[],λ_=>bz,λ_=>0,[],λ_=>bz,0,0,0,0,0⟩
noncomputable def cv0 (un nu no:Nat):Cv:=⟨un,nu,no,λ_=>0,λ_=>0,λ_=>0,[],[],[],[],[],λ_=>0,0,0⟩
noncomputable def wv0 (wr wo wg:Nat):Wv:=⟨wr,wo,wg,[],[],[]⟩
theorem rel0 {un nu no wr wo wg:Nat}:Rel (cv0 un nu no) (wv0 wr wo wg) st0 where
 C:=⟨λ_=>rfl,Ks.nil,λ_=>rfl,Ks.nil,Ks.nil,λ_=>rfl,Ks.nil,λ_=>rfl,(λ_ m=>absurd m pZ),qB _⟩
 G:=⟨⟨.nil,qB _,(λ_ m=>absurd m pZ),(λ_ m=>absurd m pZ),λ_=>rfl,λ_=>Int.le_refl 0,λ_ q=>(q rfl).elim,(λ_ m=>absurd m pZ),qB _,.nil,(λ_ m=>absurd m pZ)⟩,[],qB _,λ_ q=>(q rfl).elim⟩
 W:=⟨λ_=>rfl,Ks.nil,λ_=>rfl,Ks.nil,Ks.nil⟩
 u:=rfl
 lk _ q:=(q rfl).elim
 z1:=rfl
 z2 m:=nomatch m
 c0:=Int.le_refl 0
 c3:=(by decide:(0:Int)<=3)
noncomputable def z55:Ss:=match z6M with | .cons _ ss=>ss | _=>.nil
noncomputable def z8N:Ss:=match z55 with | .cons _ (.cons _ (.cons _ (.cons _ (.cons _ ss))))=>ss | _=>.nil
theorem z1f {f:Int->List UInt8}:∀ {r:List Int},V.eqAll (r.map λj=>V.bytes (f j)) (r.map λj=>V.bytes (f j))=rc rg
 | []=>rfl
 | a:: r=>by
  show(match rc (f a==f a),V.eqAll (r.map λj=>V.bytes (f j)) (r.map λj=>V.bytes (f j)) with | some x,rc y=>rc (x&&y) | _,_=>re)=_;rw[z1f,beq_self_eq_true];rfl
theorem zcs {s:St}{tm ce:Nat}{ms:List Int}(hm:∀ i,i∈ms->0<=i/\i<1000000000000)(H:Rel c v s)(h:Rr J (LC x c s (LW y v s++[(tm,.lst (ms.map V.int)),(ce,.cell (rc (.ref x.disk))),(2,.tab),(1,.tab)])))
  (hc:cl 26=rc ce)(l54:l 54=rc (.ref tm))(l17:l 17=rc (.ref y.w))(l35:l 35=rc (.ref x.cache))(l42:l 42=rc (.ref x.jr)):Ok (exSs (CX (n+11) cl) z8N l J) λr m=>cA r.1 = .bool rg/\m.get 1=rc .tab/\m.get 2=rc .tab:=by
 have t2:(2,O.tab)∈[(tm,O.lst (ms.map V.int)),(ce,.cell (rc (.ref x.disk))),(2,.tab),(1,.tab)]:=.tail _ (.tail _ (.head _));have t1:(1,O.tab)∈[(tm,O.lst (ms.map V.int)),(ce,.cell (rc (.ref x.disk))),(2,.tab),(1,.tab)]:=.tail _ (.tail _ (.tail _ (.head _)));have step:∀ {m:MH}{l:Loc}{i:Int}{w:E}{I:Loc->MH->Prop}{Q:Fl×Loc->MH->Prop},(∃ c v s,Rel c v s/\Rr m (LC x c s (LW y v s++[(tm,.lst (ms.map V.int)),(ce,.cell (rc (.ref x.disk))),(2,.tab),(1,.tab)])))->l 17=rc (.ref y.w)->l 35=rc (.ref x.cache)->l 42=rc (.ref x.jr)->(0<=i/\i<1000000000000)->evE (CX (n+11) cl) w l m = .ok (.int i) m->(∀ m,(∃ c v s,Rel c v s/\Rr m (LC x c s (LW y v s++[(tm,.lst (ms.map V.int)),(ce,.cell (rc (.ref x.disk))),(2,.tab),(1,.tab)])))->I l m)->Ok (exSs (CX (n+11) cl) (.cons (.cond (.not (.call 13 (.cons (.loc 17) (.cons (.loc 35) (.cons (.loc 42) (.cons w .nil)))))) (.cons .stop .nil) .nil) .nil) l m) (Lp I Q):=by
  rintro m l i w I Q ⟨c,v,s,H,h⟩ l17 l35 l42 hi e k;refine(deed (n:=n) H h t1 t2 hi).el0 λm1 e1 q=>?_
  apply ak;exact mP (aD rfl (aa (a8 l17) (aa (a8 l35) (aa (a8 l42) (az e)))) e1);exact aH (k m1 q)
 apply dD (en:=rj) (xs:=ms.map V.int) (a:=tm) (I:=λ_ l m=>l 17=rc (.ref y.w)/\l 35=rc (.ref x.cache)/\l 42=rc (.ref x.jr)/\∃ c v s,Rel c v s/\Rr m (LC x c s (LW y v s++[(tm,.lst (ms.map V.int)),(ce,.cell (rc (.ref x.disk))),(2,.tab),(1,.tab)])))
 ·exact cV (a8 l54) (h.mem (inF (.head _)))
 ·rintro _ _ _ ⟨_,_,_,c,v,s,_,h⟩;exact h.mem (inF (.head _))
 ·exact⟨l17,l35,l42,c,v,s,H,h⟩
 ·rintro j yy l m ey ⟨l17,l35,l42,q⟩
  obtain⟨i,ei,rfl⟩:∃ i,ms[j]? = rc i/\V.int i=yy:=by
   rw[pR] at ey
   exact Option.map_eq_some_iff.mp ey
  exact .of rfl (step (l:=l.put 48 (.int i)) q l17 l35 l42 (hm i (pv ei)) (a8 rfl) λm q=>⟨l17,l35,l42,q⟩)
 ·rintro l m ⟨l17,l35,l42,c,v,s,H,h⟩
  have gw:=toW h;have hl:decide ((0,s.calls,1)∈n8)=true:=dc (by
   obtain⟨j,e⟩:=oQ H.c0;rw[e];exact(by decide:∀ j:Fin 4,((0:Int),((j.val:Nat):Int),(1:Int))∈n8) ⟨j,Nat.lt_succ_of_le (Int.ofNat_le.mp (e▸H.c3))⟩)
  apply lw (I:=λ_ l m=>l 17=rc (.ref y.w)/\l 35=rc (.ref x.cache)/\l 42=rc (.ref x.jr)/\∃ c v s,Rel c v s/\Rr m (LC x c s (LW y v s++[(tm,.lst (ms.map V.int)),(ce,.cell (rc (.ref x.disk))),(2,.tab),(1,.tab)])))
  ·exact(bnd (aW (a8 l17) aM (eM (gw.at 0 rfl) rfl))).trans ((bnd (gdE hl)).trans rfl)
  ·exact⟨l17,l35,l42,c,v,s,H,h⟩
  ·rintro yy ys l m ⟨l17,l35,l42,q⟩
   exact .of rfl (step (l:=l.put 56 yy) q l17 l35 l42 (i:=4) (by decide) ag λm q=>⟨l17,l35,l42,q⟩)
  ·rintro l m ⟨l17,l35,l42,c,v,s,H,h⟩
   have gw:=toW h;have gc:=h.mem (inF (X:=LW y v s) (.tail _ (.head _)));have d1:=(atD h).1;have d2:=(atD h).2;obtain⟨_,_,e1,m2,rfl,rfl,rfl⟩:=jm (n:=n+11) (cl:=cl) (l:=l) (ys:=bg) (f:=V.int) (g:=λj=>V.bytes (s.dsk j)) (J:=m) (t:=.loc 16) (it:=.by .range (.cint 12)) (el:=.meth (.cel 26) 57 re (.cons (.loc 16) .nil)) (· = m) rfl rfl (λj hj m' e=>by
    obtain rfl:=e.symm;exact .of rfl (.of (aC (aV hc gc) d1 rfl d2 rfl rfl (az (a8 rfl)) (zaj (n:=n+9) h H.C (bf hj).1 (bf hj).2)) ⟨rfl,rfl⟩)) (by decide)
   have g3:=h.push (.lst (bg.map λj=>V.bytes (s.dsk j)));have gw3:=gw.push (.lst (bg.map λj=>V.bytes (s.dsk j)));have g4:=g3.push (.lst []);have u4:=g4.at 6 rfl
   simp only[(H.u:c.unf=[])] at u4
   apply aX
   ·apply bM;apply eV
    ·exact ax e1 (aW (a8 l17) aM (eM (gw3.at 1 rfl) rfl)) (kK (gw3.at 0 rfl) (gw3.at 7 rfl) (by rw[if_pos rfl,z1f]))
    ·exact f7 (ax (aI (aV hc (g3.mem (.tail _ (inF (X:=LW y v s) (.tail _ (.head _)))))) (g3.at 1 rfl) rfl (g3.at 2 rfl) rfl) (aE aA rfl) (dq (ns:=[]) u4 (g4.at 0 rfl)))
   exact⟨rfl,g4.mem (.tail _ (.tail _ (inF (X:=LW y v s) t1))),g4.mem (.tail _ (.tail _ (inF (X:=LW y v s) t2)))⟩
end
section
variable {n:Nat}{J J1 J2:MH}{cl:Nat->Option Nat}{l:Loc}
theorem winit {L:List (Nat×O)}(h:Rr J L):Ok (evE (CX n cl) (.dictS [18,7,22,34,23,26] (.cons (.list .nil) (.cons .dict0 (.cons .dict0 (.cons .dict0 (.cons (.list .nil) (.cons (.comp (.b1 .bytes (.cint 16)) (.loc 16) (.by .range (.cint 12))) .nil))))))) l J) λv m=>∃ w wd g k h o r,v = .ref w/\Rr m ((w,.sd [(18,.ref r),(7,.ref o),(22,.ref h),(34,.ref k),(23,.ref g),(26,.ref wd)]):: (wd,.lst (bg.map λ_=>V.bytes bz)):: (g,.lst []):: (k,.dct []):: (h,.dct []):: (o,.dct []):: (r,.lst []):: L):=by
 have k1:=((((h.push (.lst [])).push (.dct [])).push (.dct [])).push (.dct [])).push (.lst []);obtain⟨_,_,e5,m5,rfl,rfl,rfl⟩:=jm (n:=n) (cl:=cl) (l:=l) (ys:=bg) (f:=V.int) (g:=λ_=>V.bytes bz) (J:=((((J.push (.lst [])).push (.dct [])).push (.dct [])).push (.dct [])).push (.lst [])) (t:=.loc 16) (it:=.by .range (.cint 12)) (el:=.b1 .bytes (.cint 16)) (· = ((((J.push (.lst [])).push (.dct [])).push (.dct [])).push (.dct [])).push (.lst [])) rfl rfl (λj hj m' e=>by
  subst e;exact .of rfl (.of (aS ag zab) ⟨rfl,rfl⟩)) (by decide)
 exact .of ((bnd (gdE rfl)).trans ((bnd (aa (aE aA rfl) (aa rfl (aa rfl (aa rfl (aa (aE aA rfl) (az e5))))))).trans rfl)) ⟨_,_,_,_,_,_,_,rfl,(k1.push (.lst (bg.map λ_=>V.bytes bz))).push (.sd [_,_,_,_,_,_])⟩
theorem zcV {L:List (Nat×O)}{w wd g k h o r:Nat}{ss:Ss}{Q:Fl×Loc->MH->Prop}(hR:Rr J ((w,.sd [(18,.ref r),(7,.ref o),(22,.ref h),(34,.ref k),(23,.ref g),(26,.ref wd)]):: L))(hl:l 17=rc (.ref w))
  (kk:∀ m,Rr m ((w,.sd [(18,.ref r),(7,.ref o),(22,.ref h),(34,.ref k),(23,.ref g),(26,.ref wd),(19,.int 0),(27,.int 0),(29,.int 0),(31,.int 0),(44,.int 0)]):: L)->Ok (exSs (CX n cl) ss l m) Q):
  Ok (exSs (CX n cl) (.cons (.tupL [(.sub (.loc 17) (.cstr 19)),(.sub (.loc 17) (.cstr 27)),(.sub (.loc 17) (.cstr 29)),(.sub (.loc 17) (.cstr 31)),(.sub (.loc 17) (.cstr 44))] (.cons (.cint 0) (.cons (.cint 0) (.cons (.cint 0) (.cons (.cint 0) (.cons (.cint 0) .nil)))))) ss) l J) Q:=by
 have p1:=hR.hd (.sd [(18,.ref r),(7,.ref o),(22,.ref h),(34,.ref k),(23,.ref g),(26,.ref wd),(19,.int 0)]);have p2:=p1.hd (.sd [(18,.ref r),(7,.ref o),(22,.ref h),(34,.ref k),(23,.ref g),(26,.ref wd),(19,.int 0),(27,.int 0)]);have p3:=p2.hd (.sd [(18,.ref r),(7,.ref o),(22,.ref h),(34,.ref k),(23,.ref g),(26,.ref wd),(19,.int 0),(27,.int 0),(29,.int 0)]);have p4:=p3.hd (.sd [(18,.ref r),(7,.ref o),(22,.ref h),(34,.ref k),(23,.ref g),(26,.ref wd),(19,.int 0),(27,.int 0),(29,.int 0),(31,.int 0)]);apply dR;exact aa ag (aa ag (aa ag (aa ag (az ag))))
 ·exact bj (gA (a8 hl) aM (gP (hR.at 0 rfl) rfl)) (bj (gA (a8 hl) aM (gP (p1.at 0 rfl) rfl)) (bj (gA (a8 hl) aM (gP (p2.at 0 rfl) rfl)) (bj (gA (a8 hl) aM (gP (p3.at 0 rfl) rfl)) (bj (gA (a8 hl) aM (gP (p4.at 0 rfl) rfl)) rfl))))
 exact kk _ (p4.hd (.sd [(18,.ref r),(7,.ref o),(22,.ref h),(34,.ref k),(23,.ref g),(26,.ref wd),(19,.int 0),(27,.int 0),(29,.int 0),(31,.int 0),(44,.int 0)]))
theorem dnew {F:List (Nat×O)}{G:Prop}(h:Rr J F)(k:∀ m a d ke la un,evE (CX (n+1) cl) (.new 8 (.cons (.cint 12) (.cons (.cint 16) .nil))) l J = .ok (.ref a) m->Rr m ((a,.inst 8 d):: (d,.ns (nD ke la un)):: (un,.lst []):: (la,.dct []):: (ke,.dct []):: F)->G):G:=by
 refine el22 (kS (n:=n+1) (cl:=cl) (l:=l) (Q:=λv m=>∃ a d ke la un,v = .ref a/\Rr m ((a,.inst 8 d):: (d,.ns (nD ke la un)):: (un,.lst []):: (la,.dct []):: (ke,.dct []):: F)) (aa ag (az ag)) rfl rfl ((zc3 ((h.push (.ns [])).push (.inst 8 J.n))).mono λv m q=>bX q λe q=>zc9 q λke la un q=>⟨e,_,_,ke,la,un,rfl,q⟩)) λv m e q=>?_
 exact el52 q λa d ke la un e2 q=>k m a d ke la un (e2▸e) q
theorem cnew {di dn ce:Nat}{fs:List (Nat×V)}{F:List (Nat×O)}{G:Prop}(h:Rr J ((di,.inst 8 dn):: (dn,.ns fs):: F))(hf:af 2 fs=rc (.int 16))(hc:cl 26=rc ce)(hce:J.get ce=rc (.cell (rc (.ref di))))(k:∀ m a d row bn,evE (CX (n+1) cl) (.new 7 (.cons (.cel 26) (.cons (.cint 8) .nil))) l J = .ok (.ref a) m->Rr m ((a,.inst 7 d):: (d,.ns (nC di row bn)):: (bn,.dct []):: (row,.lst []):: (di,.inst 8 dn):: (dn,.ns fs):: F)->G):G:=by
 refine el22 (kS (n:=n+1) (cl:=cl) (l:=l) (Q:=λv m=>∃ a d row bn,v = .ref a/\Rr m ((a,.inst 7 d):: (d,.ns (nC di row bn)):: (bn,.dct []):: (row,.lst []):: (di,.inst 8 dn):: (dn,.ns fs):: F)) (aa (aV hc hce) (az ag)) rfl rfl ((zbY ((h.push (.ns [])).push (.inst 7 J.n)) hf).mono λv m q=>bX q λe q=>kP q λrow bn q=>⟨e,_,_,row,bn,rfl,q⟩)) λv m e q=>?_
 exact ot q λa d row bn e2 q=>k m a d row bn (e2▸e) q
theorem jnew {ca cn di dn:Nat}{fs cs:List (Nat×V)}{F:List (Nat×O)}{G:Prop}(h:Rr J ((ca,.inst 7 cn):: (cn,.ns cs):: (di,.inst 8 dn):: (dn,.ns fs):: F))(hf:af 60 fs=rc (.int 12))(hd:af 26 cs=rc (.ref di))(h2:af 2 cs=rc (.int 16))(h12:af 12 cs=rc (.int 8))(hl:l 35=rc (.ref ca))
  (k:∀ m a d nu no,evE (CX (n+1) cl) (.new 5 (.cons (.loc 35) (.cons (.cint 1) (.cons (.cint 4) (.cons (.cint 1) .nil))))) l J = .ok (.ref a) m->Rr m ((a,.inst 5 d):: (d,.ns (nJ ca nu no)):: (no,.dct []):: (nu,.lst []):: (ca,.inst 7 cn):: (cn,.ns cs):: (di,.inst 8 dn):: (dn,.ns fs):: F)->G):G:=by
 refine el22 (kS (n:=n+1) (cl:=cl) (l:=l) (Q:=λv m=>∃ a d nu no,v = .ref a/\Rr m ((a,.inst 5 d):: (d,.ns (nJ ca nu no)):: (no,.dct []):: (nu,.lst []):: (ca,.inst 7 cn):: (cn,.ns cs):: (di,.inst 8 dn):: (dn,.ns fs):: F)) (aa (a8 hl) (aa ag (aa ag (az ag)))) rfl rfl ((zcn ((h.push (.ns [])).push (.inst 5 J.n)) hf hd h2 h12).mono λv m q=>bX q λe q=>kP q λnu no q=>⟨e,_,_,nu,no,rfl,q⟩)) λv m e q=>?_
 exact ot q λa d nu no e2 q=>k m a d nu no (e2▸e) q
theorem mv {x0 x1 x2 x3 x4 x5:Nat×O}{T:List (Nat×O)}(h:Rr J (x0:: x1:: x2:: x3:: x4:: x5:: T)):Rr J (x0:: x1:: x4:: x5:: x2:: x3:: T):=h.perm ((((List.perm_append_comm (l₁:=[x2,x3]) (l₂:=[x4,x5])).append_right T).cons _).cons _)
theorem zas {tm ce:Nat}{ms:List Int}(hm:∀ i,i∈ms->0<=i/\i<1000000000000)(h:Rr J [(tm,.lst (ms.map V.int)),(ce,.cell re),(2,.tab),(1,.tab)])
  (hc:cl 26=rc ce)(l54:l 54=rc (.ref tm)):Ok (exSs (CX (n+11) cl) z55 l J) λr m=>cA r.1 = .bool rg/\m.get 1=rc .tab/\m.get 2=rc .tab:=by
 refine dnew (n:=n+10) (cl:=cl) (l:=l) h λm1 a1 d1 ke la un e1 h1=>?_
 apply zaA;exact e1;exact hc;exact h1.at 6 rfl
 refine Ok.ab (h1.set 6 rfl) λm2 h2=>?_
 have hce:=h2.at 6 rfl
 obtain⟨T,hT⟩:∃ T,[(tm,O.lst (ms.map V.int)),(ce,.cell (rc (.ref a1))),(2,.tab),(1,.tab)]=T:=⟨_,rfl⟩
 replace h2:Rr m2 ((a1,.inst 8 d1):: (d1,.ns (nD ke la un)):: (un,.lst []):: (la,.dct []):: (ke,.dct []):: T):=hT▸h2;refine cnew (n:=n+10) (l:=l) h2 rfl hc hce λm3 a3 d3 row bn e3 h3=>?_
 apply aq;exact e3;refine jnew (n:=n+10) (cl:=cl) (l:=l.put 35 (.ref a3)) (mv h3) rfl rfl rfl rfl rfl λm4 a4 d4 nu no e4 h4=>?_
 apply aq;exact e4;obtain⟨_,m6,e6,w,wd,g,k,hh,o,r,rfl,h6⟩:=winit (n:=n+11) (cl:=cl) (l:=(l.put 35 (.ref a3)).put 42 (.ref a4)) h4;apply aq;exact e6;refine zcV h6 rfl λm7 h7=>?_
 subst hT;have h8:=h7.pick (is:=[13,14,19,18,17,11,12,16,15,7,8,10,9,0,6,5,4,3,2,1,20,21,22,23]) (by decide);exact zcs (x:=⟨a1,d1,ke,la,a3,d3,row,bn,a4,d4⟩) (y:=⟨w,hh,k,wd⟩) (c:=cv0 un nu no) (v:=wv0 r o g) (s:=st0) hm rel0 h8 hc l54 rfl rfl rfl
end
section
variable {n:Nat}{J J1 J2:MH}{cl:Nat->Option Nat}{l:Loc}
theorem z8W {a b:Nat}{xs:List Int}(h1:J.get a=rc (.clst (xs.map V.int)))(h2:J.get b=rc (.lst [])):aP .eq (.ref a) (.ref b) J = .ok xs.isEmpty J:=(bnd (rdE h1)).trans ((bnd (rdE h2)).trans (lfE (by cases xs <;> rfl)))
theorem zcF:fc .pow (.int 10) (.int 12) J = .ok (.int 1000000000000) J:=bi (by decide +kernel)
theorem run0 (n:Nat)(xs:List Int)(hx:xs.length<=63):∃ J',al ah (n+12) (.fn 15) [.ref 0] (((MH.push ⟨0,λ_=>re⟩ (.clst (xs.map V.int))).push .tab).push .tab) = .ok (.bool rg) J'/\J'.get 1=rc .tab/\J'.get 2=rc .tab:=by
 have r0:Rr ⟨0,λ_=>re⟩ []:=⟨.nil,λ_ m=>absurd m pZ⟩
 have r1:Rr (((MH.push ⟨0,λ_=>re⟩ (.clst (xs.map V.int))).push .tab).push .tab) [(2,.tab),(1,.tab),(0,.clst (xs.map V.int))]:=((r0.push _).push _).push _;generalize (((MH.push ⟨0,λ_=>re⟩ (.clst (xs.map V.int))).push .tab).push .tab)=H at r1 ⊢
 suffices g:Ok (al ah (n+12) (.fn 15) [.ref 0] H) λr m=>r = .bool rg/\m.get 1=rc .tab/\m.get 2=rc .tab by
  refine kQ g λ_ m e ez1=>?_;subst ez1;intro q
  exact⟨m,e,q⟩
 have r2:=r1.push (.cell re);refine lL rfl rfl rfl (dS rfl rfl) ?_;have r3:=r2.push (.lst []);have ec:evE (CX (n+11) (cW 26 H.n)) (.cmp .eq (.loc 55) (.list .nil)) (Loc.put (λ_=>re) 55 (.ref 0)) (H.push (.cell re)) = .ok (.bool xs.isEmpty) ((H.push (.cell re)).push (.lst [])):=ax (a8 rfl) (aE aA rfl) (z8W (r3.at 4 rfl) (r3.at 0 rfl))
 induction xs with
 | nil=>
  apply aq;exact iR ec (aE (vs:=[.int 2,.int 40,.int 27,.int 4,.int 77,.int 1,.int 7]) (aa ag (aa ag (aa ag (aa ag (aa ag (aa ag (az ag))))))) rfl);have r4:=r3.push (.lst ([2,40,27,4,77,1,7].map V.int));exact zas (ms:=[2,40,27,4,77,1,7]) (by decide) (r4.pick (is:=[0,2,3,4]) (by decide)) rfl rfl
 | cons x0 xr=>
  generalize hxs:x0:: xr=xs at *
  have he:xs.isEmpty=false:=by refine hxs▸?_;rfl
  replace ec:=he▸ec;have r4:=r3.push (.lst ((xs.take 24).map V.int));have eu:evE (CX (n+11) (cW 26 H.n)) (.upto (.loc 55) (.cint 24)) (Loc.put (λ_=>re) 55 (.ref 0)) ((H.push (.cell re)).push (.lst [])) = .ok (.ref ((H.push (.cell re)).push (.lst [])).n) (((H.push (.cell re)).push (.lst [])).push (.lst ((xs.take 24).map V.int))):=by
   have q:c6 (.ref 0) .none (.int 24) ((H.push (.cell re)).push (.lst [])) = .ok (.ref ((H.push (.cell re)).push (.lst [])).n) (((H.push (.cell re)).push (.lst [])).push (.lst ((xs.map V.int).take 24))):=(bnd (rdE (r3.at 4 rfl))).trans ((bnd (gdE (dc ⟨by decide,by rw[qg];exact qt hx (by decide)⟩))).trans (nl (qt (List.length_take_le' ..) (by rw[qg];exact qt hx (by decide)))))
   rw[<-List.map_take] at q
   exact(bnd (a8 rfl)).trans ((bnd ag).trans q)
  obtain⟨_,_,e5,m5,rfl,rfl,rfl⟩:=iP (n:=n+11) (cl:=cW 26 H.n) (l:=Loc.put (λ_=>re) 55 (.ref 0)) (ys:=xs.take 24) (f:=V.int) (g:=λi=>V.int ((i.natAbs:Int).fmod 1000000000000)) (J:=(H.push (.cell re)).push (.lst [])) (t:=.loc 48) (it:=.of (.upto (.loc 55) (.cint 24))) (el:=.bin .mod (.b1 .abs (.loc 48)) (.bin .pow (.cint 10) (.cint 12))) (· = ((H.push (.cell re)).push (.lst [])).push (.lst ((xs.take 24).map V.int))) (cV eu (r4.at 0 rfl)) (λ_ e=>e▸r4.at 0 rfl) rfl (λj hj m' e=>by
   subst e;exact .of rfl (.of (aB (aS (a8 rfl) rfl) (aB ag ag zcF) (fb (by decide))) ⟨rfl,rfl⟩)) (qt (List.length_take_le ..) (by decide))
  have r5:=r4.push (.lst (((xs.take 24).map λi=>(i.natAbs:Int).fmod 1000000000000).map V.int));rw[List.map_map] at r5
  apply aq;exact fN ec e5;refine zas (ms:=(xs.take 24).map λi=>(i.natAbs:Int).fmod 1000000000000) (λi m=>?_) ?_ rfl rfl
  ·refine el12 (List.mem_map.mp m) λj _ ez2=>?_;subst ez2
   exact ku (by decide)
  ·rw[List.map_map]
   exact r5.pick (is:=[0,3,4,5]) (by decide)
end
end Mine.Internal.H
theorem PySem.Challenge.cw_pf0217_01_holds : PySem.Challenge.rw_pf0217_01.Holds :=
 Mine.Internal.z6b (k:=12) (by decide) (λxs hl=>Mine.Internal.H.run0 0 xs hl)
