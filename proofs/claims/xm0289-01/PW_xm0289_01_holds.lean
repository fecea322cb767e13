import PyProof.Rows.All
import Wide.All
import OpenK.AllK
import Wide.FinOn
import PySem.Challenge.RW_xm0289_01
open PySem PySem.W PyProof.Rows
set_option Elab.async false
set_option tactic.hygienic false
set_option genSizeOf false
set_option genInjectivity false
set_option bootstrap.genMatcherCode false
set_option backward.match.sparseCases false
set_option linter.unusedVariables false
set_option linter.unusedSimpArgs false
set_option maxRecDepth 8000
set_option maxHeartbeats 2000000
namespace Mine.Internal
theorem ay {P0 P1 G:Prop} (k:P0->P1->G) (h:P0/\P1):G:=k h.1 h.2
theorem bS {P0 P1 P2 G:Prop} (k:P0->P1->P2->G) (h:P0/\P1/\P2):G:=k h.1 h.2.1 h.2.2
theorem jw {P0 P1 P2 P3 G:Prop} (k:P0->P1->P2->P3->G) (h:P0/\P1/\P2/\P3):G:=k h.1 h.2.1 h.2.2.1 h.2.2.2
theorem nb {P0 P1 P2 P3 P4 G:Prop} (k:P0->P1->P2->P3->P4->G) (h:P0/\P1/\P2/\P3/\P4):G:=k h.1 h.2.1 h.2.2.1 h.2.2.2.1 h.2.2.2.2
theorem qF {P0 P1 P2 P3 P4 P5 G:Prop} (k:P0->P1->P2->P3->P4->P5->G) (h:P0/\P1/\P2/\P3/\P4/\P5):G:=k h.1 h.2.1 h.2.2.1 h.2.2.2.1 h.2.2.2.2.1 h.2.2.2.2.2
theorem Mv {P0 P1 P2 P3 P4 P5 P6 P7 G:Prop} (k:P0->P1->P2->P3->P4->P5->P6->P7->G) (h:P0/\P1/\P2/\P3/\P4/\P5/\P6/\P7):G:=k h.1 h.2.1 h.2.2.1 h.2.2.2.1 h.2.2.2.2.1 h.2.2.2.2.2.1 h.2.2.2.2.2.2.1 h.2.2.2.2.2.2.2
theorem EV {P0 P1 P2 P3:Prop} {aj:Sort _} {P4 P5 P6:aj->Prop} {G:Prop} (k:P0->P1->P2->P3->∀ x0,P4 x0->P5 x0->P6 x0->G) (h:P0/\P1/\P2/\P3/\∃ x0,P4 x0/\P5 x0/\P6 x0):G:=Exists.elim h.2.2.2.2 fun x0 h0=>k h.1 h.2.1 h.2.2.1 h.2.2.2.1 x0 h0.1 h0.2.1 h0.2.2
theorem u9 {P0 P1:Prop} {aj:Sort _} {P2 P3:aj->Prop} {G:Prop} (k:P0->P1->∀ x0,P2 x0->P3 x0->G) (h:P0/\P1/\∃ x0,P2 x0/\P3 x0):G:=Exists.elim h.2.2 fun x0 h0=>k h.1 h.2.1 x0 h0.1 h0.2
theorem qG {P0 P1:Prop} {aj:Sort _} {P2 P3 P4:aj->Prop} {G:Prop} (k:P0->P1->∀ x0,P2 x0->P3 x0->P4 x0->G) (h:P0/\P1/\∃ x0,P2 x0/\P3 x0/\P4 x0):G:=Exists.elim h.2.2 fun x0 h0=>k h.1 h.2.1 x0 h0.1 h0.2.1 h0.2.2
theorem EW {P0 P1:Prop} {aj az:Sort _} {P2:aj->az->Prop} {P3:aj->Prop} {G:Prop} (k:P0->P1->∀ x0 x1,P2 x0 x1->P3 x0->G) (h:P0/\P1/\∃ x0,(∃ x1,P2 x0 x1)/\P3 x0):G:=Exists.elim h.2.2 fun x0 h0=>Exists.elim h0.1 fun x1 h1=>k h.1 h.2.1 x0 x1 h1 h0.2
theorem vb {P0 P1:Prop} {aj az aY bV:Sort _} {P2 P3 P4 P5:aj->az->aY->bV->Prop} {P6:aj->Prop} {G:Prop} (k:P0->P1->∀ x0 x1 x2 x3,P2 x0 x1 x2 x3->P3 x0 x1 x2 x3->P4 x0 x1 x2 x3->P5 x0 x1 x2 x3->P6 x0->G) (h:P0/\P1/\∃ x0,(∃ x1 x2 x3,P2 x0 x1 x2 x3/\P3 x0 x1 x2 x3/\P4 x0 x1 x2 x3/\P5 x0 x1 x2 x3)/\P6 x0):G:=Exists.elim h.2.2 fun x0 h0=>Exists.elim h0.1 fun x1 h1=>Exists.elim h1 fun x2 h2=>Exists.elim h2 fun x3 h3=>k h.1 h.2.1 x0 x1 x2 x3 h3.1 h3.2.1 h3.2.2.1 h3.2.2.2 h0.2
theorem EX {P0 P1:Prop} {aj az aY bV:Sort _} {P2 P3 P4:aj->az->aY->bV->Prop} {P5:aj->Prop} {G:Prop} (k:P0->P1->∀ x0 x1 x2 x3,P2 x0 x1 x2 x3->P3 x0 x1 x2 x3->P4 x0 x1 x2 x3->P5 x0->G) (h:P0/\P1/\∃ x0,(∃ x1 x2 x3,P2 x0 x1 x2 x3/\P3 x0 x1 x2 x3/\P4 x0 x1 x2 x3)/\P5 x0):G:=Exists.elim h.2.2 fun x0 h0=>Exists.elim h0.1 fun x1 h1=>Exists.elim h1 fun x2 h2=>Exists.elim h2 fun x3 h3=>k h.1 h.2.1 x0 x1 x2 x3 h3.1 h3.2.1 h3.2.2 h0.2
theorem vc {P0:Prop} {aj:Sort _} {P1 P2:aj->Prop} {G:Prop} (k:P0->∀ x0,P1 x0->P2 x0->G) (h:P0/\∃ x0,P1 x0/\P2 x0):G:=Exists.elim h.2 fun x0 h0=>k h.1 x0 h0.1 h0.2
theorem yg {P0 P1 P2 G:Prop} (k:P0->P1->P2->G) (h:(P0/\P1)/\P2):G:=k h.1.1 h.1.2 h.2
theorem Mw {P0 P1 P2 P3 G:Prop} (k:P0->P1->P2->P3->G) (h:((P0/\P1)/\P2)/\P3):G:=k h.1.1.1 h.1.1.2 h.1.2 h.2
theorem Mx {P0 P1 P2 P3 P4 G:Prop} (k:P0->P1->P2->P3->P4->G) (h:(((P0/\P1)/\P2)/\P3)/\P4):G:=k h.1.1.1.1 h.1.1.1.2 h.1.1.2 h.1.2 h.2
theorem EY {P0 P1 P2 P3 P4 P5 P6 G:Prop} (k:P0->P1->P2->P3->P4->P5->P6->G) (h:(((((P0/\P1)/\P2)/\P3)/\P4)/\P5)/\P6):G:=k h.1.1.1.1.1.1 h.1.1.1.1.1.2 h.1.1.1.1.2 h.1.1.1.2 h.1.1.2 h.1.2 h.2
theorem My {aj:Sort _} {P0:aj->Prop} {P1 G:Prop} (k:∀ x0,P0 x0->P1->G) (h:(∃ x0,P0 x0)/\P1):G:=Exists.elim h.1 fun x0 h0=>k x0 h0 h.2
theorem ve {aj:Sort _} {P0:aj->Prop} {P1 P2 G:Prop} (k:∀ x0,P0 x0->P1->P2->G) (h:(∃ x0,P0 x0)/\P1/\P2):G:=Exists.elim h.1 fun x0 h0=>k x0 h0 h.2.1 h.2.2
theorem yh {aj:Sort _} {P0:aj->Prop} {az:Sort _} {P1:az->Prop} {G:Prop} (k:∀ x0,P0 x0->∀ x1,P1 x1->G) (h:(∃ x0,P0 x0)/\(∃ x1,P1 x1)):G:=Exists.elim h.1 fun x0 h0=>Exists.elim h.2 fun x1 h1=>k x0 h0 x1 h1
theorem vf {aj az:Sort _} {P0 P1:aj->az->Prop} {P2 P3 G:Prop} (k:∀ x0 x1,P0 x0 x1->P1 x0 x1->P2->P3->G) (h:(∃ x0 x1,P0 x0 x1/\P1 x0 x1)/\P2/\P3):G:=Exists.elim h.1 fun x0 h0=>Exists.elim h0 fun x1 h1=>k x0 x1 h1.1 h1.2 h.2.1 h.2.2
theorem aM {aj:Sort _} {P0:aj->Prop} {G:Prop} (k:∀ x0,P0 x0->G) (h:∃ x0,P0 x0):G:=Exists.elim h fun x0 h0=>k x0 h0
theorem au {aj:Sort _} {P0 P1:aj->Prop} {G:Prop} (k:∀ x0,P0 x0->P1 x0->G) (h:∃ x0,P0 x0/\P1 x0):G:=Exists.elim h fun x0 h0=>k x0 h0.1 h0.2
theorem bO {aj:Sort _} {P0 P1 P2:aj->Prop} {G:Prop} (k:∀ x0,P0 x0->P1 x0->P2 x0->G) (h:∃ x0,P0 x0/\P1 x0/\P2 x0):G:=Exists.elim h fun x0 h0=>k x0 h0.1 h0.2.1 h0.2.2
theorem kj {aj:Sort _} {P0 P1 P2 P3:aj->Prop} {G:Prop} (k:∀ x0,P0 x0->P1 x0->P2 x0->P3 x0->G) (h:∃ x0,P0 x0/\P1 x0/\P2 x0/\P3 x0):G:=Exists.elim h fun x0 h0=>k x0 h0.1 h0.2.1 h0.2.2.1 h0.2.2.2
theorem yi {aj:Sort _} {P0 P1 P2 P3 P4 P5:aj->Prop} {G:Prop} (k:∀ x0,P0 x0->P1 x0->P2 x0->P3 x0->P4 x0->P5 x0->G) (h:∃ x0,P0 x0/\P1 x0/\P2 x0/\P3 x0/\P4 x0/\P5 x0):G:=Exists.elim h fun x0 h0=>k x0 h0.1 h0.2.1 h0.2.2.1 h0.2.2.2.1 h0.2.2.2.2.1 h0.2.2.2.2.2
theorem nc {aj:Sort _} {P0 P1:aj->Prop} {az:Sort _} {P2:aj->az->Prop} {G:Prop} (k:∀ x0,P0 x0->P1 x0->∀ x1,P2 x0 x1->G) (h:∃ x0,P0 x0/\P1 x0/\∃ x1,P2 x0 x1):G:=Exists.elim h fun x0 h0=>Exists.elim h0.2.2 fun x1 h1=>k x0 h0.1 h0.2.1 x1 h1
theorem Mz {aj:Sort _} {P0 P1:aj->Prop} {az aY:Sort _} {P2 P3 P4:aj->az->aY->Prop} {G:Prop} (k:∀ x0,P0 x0->P1 x0->∀ x1 x2,P2 x0 x1 x2->P3 x0 x1 x2->P4 x0 x1 x2->G) (h:∃ x0,P0 x0/\P1 x0/\∃ x1 x2,P2 x0 x1 x2/\P3 x0 x1 x2/\P4 x0 x1 x2):G:=Exists.elim h fun x0 h0=>Exists.elim h0.2.2 fun x1 h1=>Exists.elim h1 fun x2 h2=>k x0 h0.1 h0.2.1 x1 x2 h2.1 h2.2.1 h2.2.2
theorem yk {aj:Sort _} {P0:aj->Prop} {az:Sort _} {P1 P2 P3 P4:aj->az->Prop} {G:Prop} (k:∀ x0,P0 x0->∀ x1,P1 x0 x1->P2 x0 x1->P3 x0 x1->P4 x0 x1->G) (h:∃ x0,P0 x0/\∃ x1,P1 x0 x1/\P2 x0 x1/\P3 x0 x1/\P4 x0 x1):G:=Exists.elim h fun x0 h0=>Exists.elim h0.2 fun x1 h1=>k x0 h0.1 x1 h1.1 h1.2.1 h1.2.2.1 h1.2.2.2
theorem MA {aj:Sort _} {P0:aj->Prop} {az aY bV:Sort _} {P1 P2 P3 P4 P5:aj->az->aY->bV->Prop} {G:Prop} (k:∀ x0,P0 x0->∀ x1 x2 x3,P1 x0 x1 x2 x3->P2 x0 x1 x2 x3->P3 x0 x1 x2 x3->P4 x0 x1 x2 x3->P5 x0 x1 x2 x3->G) (h:∃ x0,P0 x0/\∃ x1 x2 x3,P1 x0 x1 x2 x3/\P2 x0 x1 x2 x3/\P3 x0 x1 x2 x3/\P4 x0 x1 x2 x3/\P5 x0 x1 x2 x3):G:=Exists.elim h fun x0 h0=>Exists.elim h0.2 fun x1 h1=>Exists.elim h1 fun x2 h2=>Exists.elim h2 fun x3 h3=>k x0 h0.1 x1 x2 x3 h3.1 h3.2.1 h3.2.2.1 h3.2.2.2.1 h3.2.2.2.2
theorem EZ {aj az aY bV:Sort _} {P0 P1:aj->az->aY->bV->Prop} {P2:aj->Prop} {G:Prop} (k:∀ x0 x1 x2 x3,P0 x0 x1 x2 x3->P1 x0 x1 x2 x3->P2 x0->G) (h:∃ x0,(∃ x1 x2 x3,P0 x0 x1 x2 x3/\P1 x0 x1 x2 x3)/\P2 x0):G:=Exists.elim h fun x0 h0=>Exists.elim h0.1 fun x1 h1=>Exists.elim h1 fun x2 h2=>Exists.elim h2 fun x3 h3=>k x0 x1 x2 x3 h3.1 h3.2 h0.2
theorem gA {aj az:Sort _} {P0:aj->az->Prop} {G:Prop} (k:∀ x0 x1,P0 x0 x1->G) (h:∃ x0 x1,P0 x0 x1):G:=Exists.elim h fun x0 h0=>Exists.elim h0 fun x1 h1=>k x0 x1 h1
theorem oU {aj az:Sort _} {P0 P1:aj->az->Prop} {G:Prop} (k:∀ x0 x1,P0 x0 x1->P1 x0 x1->G) (h:∃ x0 x1,P0 x0 x1/\P1 x0 x1):G:=Exists.elim h fun x0 h0=>Exists.elim h0 fun x1 h1=>k x0 x1 h1.1 h1.2
theorem cW {aj az:Sort _} {P0 P1 P2:aj->az->Prop} {G:Prop} (k:∀ x0 x1,P0 x0 x1->P1 x0 x1->P2 x0 x1->G) (h:∃ x0 x1,P0 x0 x1/\P1 x0 x1/\P2 x0 x1):G:=Exists.elim h fun x0 h0=>Exists.elim h0 fun x1 h1=>k x0 x1 h1.1 h1.2.1 h1.2.2
theorem eV {aj az:Sort _} {P0 P1 P2 P3:aj->az->Prop} {G:Prop} (k:∀ x0 x1,P0 x0 x1->P1 x0 x1->P2 x0 x1->P3 x0 x1->G) (h:∃ x0 x1,P0 x0 x1/\P1 x0 x1/\P2 x0 x1/\P3 x0 x1):G:=Exists.elim h fun x0 h0=>Exists.elim h0 fun x1 h1=>k x0 x1 h1.1 h1.2.1 h1.2.2.1 h1.2.2.2
theorem lq {aj az:Sort _} {P0 P1 P2 P3 P4:aj->az->Prop} {G:Prop} (k:∀ x0 x1,P0 x0 x1->P1 x0 x1->P2 x0 x1->P3 x0 x1->P4 x0 x1->G) (h:∃ x0 x1,P0 x0 x1/\P1 x0 x1/\P2 x0 x1/\P3 x0 x1/\P4 x0 x1):G:=Exists.elim h fun x0 h0=>Exists.elim h0 fun x1 h1=>k x0 x1 h1.1 h1.2.1 h1.2.2.1 h1.2.2.2.1 h1.2.2.2.2
theorem ja {aj az:Sort _} {P0 P1 P2 P3 P4 P5:aj->az->Prop} {G:Prop} (k:∀ x0 x1,P0 x0 x1->P1 x0 x1->P2 x0 x1->P3 x0 x1->P4 x0 x1->P5 x0 x1->G) (h:∃ x0 x1,P0 x0 x1/\P1 x0 x1/\P2 x0 x1/\P3 x0 x1/\P4 x0 x1/\P5 x0 x1):G:=Exists.elim h fun x0 h0=>Exists.elim h0 fun x1 h1=>k x0 x1 h1.1 h1.2.1 h1.2.2.1 h1.2.2.2.1 h1.2.2.2.2.1 h1.2.2.2.2.2
theorem MB {aj az:Sort _} {P0 P1 P2 P3 P4 P5 P6 P7:aj->az->Prop} {G:Prop} (k:∀ x0 x1,P0 x0 x1->P1 x0 x1->P2 x0 x1->P3 x0 x1->P4 x0 x1->P5 x0 x1->P6 x0 x1->P7 x0 x1->G) (h:∃ x0 x1,P0 x0 x1/\P1 x0 x1/\P2 x0 x1/\P3 x0 x1/\P4 x0 x1/\P5 x0 x1/\P6 x0 x1/\P7 x0 x1):G:=Exists.elim h fun x0 h0=>Exists.elim h0 fun x1 h1=>k x0 x1 h1.1 h1.2.1 h1.2.2.1 h1.2.2.2.1 h1.2.2.2.2.1 h1.2.2.2.2.2.1 h1.2.2.2.2.2.2.1 h1.2.2.2.2.2.2.2
theorem MC {aj az:Sort _} {P0 P1:aj->az->Prop} {aY:Sort _} {P2:aj->az->aY->Prop} {P3:aj->az->Prop} {G:Prop} (k:∀ x0 x1,P0 x0 x1->P1 x0 x1->∀ x2,P2 x0 x1 x2->P3 x0 x1->G) (h:∃ x0 x1,P0 x0 x1/\P1 x0 x1/\(∃ x2,P2 x0 x1 x2)/\P3 x0 x1):G:=Exists.elim h fun x0 h0=>Exists.elim h0 fun x1 h1=>Exists.elim h1.2.2.1 fun x2 h2=>k x0 x1 h1.1 h1.2.1 x2 h2 h1.2.2.2
theorem nh {aj az:Sort _} {P0 P1:aj->az->Prop} {aY:Sort _} {P2:aj->az->aY->Prop} {P3 P4:aj->az->Prop} {G:Prop} (k:∀ x0 x1,P0 x0 x1->P1 x0 x1->∀ x2,P2 x0 x1 x2->P3 x0 x1->P4 x0 x1->G) (h:∃ x0 x1,P0 x0 x1/\P1 x0 x1/\(∃ x2,P2 x0 x1 x2)/\P3 x0 x1/\P4 x0 x1):G:=Exists.elim h fun x0 h0=>Exists.elim h0 fun x1 h1=>Exists.elim h1.2.2.1 fun x2 h2=>k x0 x1 h1.1 h1.2.1 x2 h2 h1.2.2.2.1 h1.2.2.2.2
theorem E0 {aj az:Sort _} {P0:aj->az->Prop} {aY:Sort _} {P1 P2:aj->az->aY->Prop} {P3:aj->az->Prop} {G:Prop} (k:∀ x0 x1,P0 x0 x1->∀ x2,P1 x0 x1 x2->P2 x0 x1 x2->P3 x0 x1->G) (h:∃ x0 x1,P0 x0 x1/\(∃ x2,P1 x0 x1 x2/\P2 x0 x1 x2)/\P3 x0 x1):G:=Exists.elim h fun x0 h0=>Exists.elim h0 fun x1 h1=>Exists.elim h1.2.1 fun x2 h2=>k x0 x1 h1.1 x2 h2.1 h2.2 h1.2.2
theorem MD {aj az:Sort _} {P0:aj->az->Prop} {aY:Sort _} {P1 P2:aj->az->aY->Prop} {bV:Sort _} {P3:aj->az->aY->bV->Prop} {P4 P5:aj->az->Prop} {G:Prop} (k:∀ x0 x1,P0 x0 x1->∀ x2,P1 x0 x1 x2->P2 x0 x1 x2->∀ x3,P3 x0 x1 x2 x3->P4 x0 x1->P5 x0 x1->G) (h:∃ x0 x1,P0 x0 x1/\(∃ x2,P1 x0 x1 x2/\P2 x0 x1 x2/\∃ x3,P3 x0 x1 x2 x3)/\P4 x0 x1/\P5 x0 x1):G:=Exists.elim h fun x0 h0=>Exists.elim h0 fun x1 h1=>Exists.elim h1.2.1 fun x2 h2=>Exists.elim h2.2.2 fun x3 h3=>k x0 x1 h1.1 x2 h2.1 h2.2.1 x3 h3 h1.2.2.1 h1.2.2.2
theorem lr {aj az aY:Sort _} {P0 P1:aj->az->aY->Prop} {G:Prop} (k:∀ x0 x1 x2,P0 x0 x1 x2->P1 x0 x1 x2->G) (h:∃ x0 x1 x2,P0 x0 x1 x2/\P1 x0 x1 x2):G:=Exists.elim h fun x0 h0=>Exists.elim h0 fun x1 h1=>Exists.elim h1 fun x2 h2=>k x0 x1 x2 h2.1 h2.2
theorem oW {aj az aY:Sort _} {P0 P1 P2:aj->az->aY->Prop} {G:Prop} (k:∀ x0 x1 x2,P0 x0 x1 x2->P1 x0 x1 x2->P2 x0 x1 x2->G) (h:∃ x0 x1 x2,P0 x0 x1 x2/\P1 x0 x1 x2/\P2 x0 x1 x2):G:=Exists.elim h fun x0 h0=>Exists.elim h0 fun x1 h1=>Exists.elim h1 fun x2 h2=>k x0 x1 x2 h2.1 h2.2.1 h2.2.2
theorem oX {aj az aY:Sort _} {P0 P1 P2 P3:aj->az->aY->Prop} {G:Prop} (k:∀ x0 x1 x2,P0 x0 x1 x2->P1 x0 x1 x2->P2 x0 x1 x2->P3 x0 x1 x2->G) (h:∃ x0 x1 x2,P0 x0 x1 x2/\P1 x0 x1 x2/\P2 x0 x1 x2/\P3 x0 x1 x2):G:=Exists.elim h fun x0 h0=>Exists.elim h0 fun x1 h1=>Exists.elim h1 fun x2 h2=>k x0 x1 x2 h2.1 h2.2.1 h2.2.2.1 h2.2.2.2
theorem lu {aj az aY:Sort _} {P0 P1 P2 P3 P4:aj->az->aY->Prop} {G:Prop} (k:∀ x0 x1 x2,P0 x0 x1 x2->P1 x0 x1 x2->P2 x0 x1 x2->P3 x0 x1 x2->P4 x0 x1 x2->G) (h:∃ x0 x1 x2,P0 x0 x1 x2/\P1 x0 x1 x2/\P2 x0 x1 x2/\P3 x0 x1 x2/\P4 x0 x1 x2):G:=Exists.elim h fun x0 h0=>Exists.elim h0 fun x1 h1=>Exists.elim h1 fun x2 h2=>k x0 x1 x2 h2.1 h2.2.1 h2.2.2.1 h2.2.2.2.1 h2.2.2.2.2
theorem yl {aj az aY:Sort _} {P0 P1 P2 P3 P4 P5:aj->az->aY->Prop} {G:Prop} (k:∀ x0 x1 x2,P0 x0 x1 x2->P1 x0 x1 x2->P2 x0 x1 x2->P3 x0 x1 x2->P4 x0 x1 x2->P5 x0 x1 x2->G) (h:∃ x0 x1 x2,P0 x0 x1 x2/\P1 x0 x1 x2/\P2 x0 x1 x2/\P3 x0 x1 x2/\P4 x0 x1 x2/\P5 x0 x1 x2):G:=Exists.elim h fun x0 h0=>Exists.elim h0 fun x1 h1=>Exists.elim h1 fun x2 h2=>k x0 x1 x2 h2.1 h2.2.1 h2.2.2.1 h2.2.2.2.1 h2.2.2.2.2.1 h2.2.2.2.2.2
theorem lY {aj az aY:Sort _} {P0 P1 P2 P3 P4 P5 P6:aj->az->aY->Prop} {G:Prop} (k:∀ x0 x1 x2,P0 x0 x1 x2->P1 x0 x1 x2->P2 x0 x1 x2->P3 x0 x1 x2->P4 x0 x1 x2->P5 x0 x1 x2->P6 x0 x1 x2->G) (h:∃ x0 x1 x2,P0 x0 x1 x2/\P1 x0 x1 x2/\P2 x0 x1 x2/\P3 x0 x1 x2/\P4 x0 x1 x2/\P5 x0 x1 x2/\P6 x0 x1 x2):G:=Exists.elim h fun x0 h0=>Exists.elim h0 fun x1 h1=>Exists.elim h1 fun x2 h2=>k x0 x1 x2 h2.1 h2.2.1 h2.2.2.1 h2.2.2.2.1 h2.2.2.2.2.1 h2.2.2.2.2.2.1 h2.2.2.2.2.2.2
theorem E1 {aj az aY:Sort _} {P0 P1 P2 P3 P4 P5 P6 P7:aj->az->aY->Prop} {G:Prop} (k:∀ x0 x1 x2,P0 x0 x1 x2->P1 x0 x1 x2->P2 x0 x1 x2->P3 x0 x1 x2->P4 x0 x1 x2->P5 x0 x1 x2->P6 x0 x1 x2->P7 x0 x1 x2->G) (h:∃ x0 x1 x2,P0 x0 x1 x2/\P1 x0 x1 x2/\P2 x0 x1 x2/\P3 x0 x1 x2/\P4 x0 x1 x2/\P5 x0 x1 x2/\P6 x0 x1 x2/\P7 x0 x1 x2):G:=Exists.elim h fun x0 h0=>Exists.elim h0 fun x1 h1=>Exists.elim h1 fun x2 h2=>k x0 x1 x2 h2.1 h2.2.1 h2.2.2.1 h2.2.2.2.1 h2.2.2.2.2.1 h2.2.2.2.2.2.1 h2.2.2.2.2.2.2.1 h2.2.2.2.2.2.2.2
theorem E2 {aj az aY bV:Sort _} {P0 P1:aj->az->aY->bV->Prop} {G:Prop} (k:∀ x0 x1 x2 x3,P0 x0 x1 x2 x3->P1 x0 x1 x2 x3->G) (h:∃ x0 x1 x2 x3,P0 x0 x1 x2 x3/\P1 x0 x1 x2 x3):G:=Exists.elim h fun x0 h0=>Exists.elim h0 fun x1 h1=>Exists.elim h1 fun x2 h2=>Exists.elim h2 fun x3 h3=>k x0 x1 x2 x3 h3.1 h3.2
theorem E3 {aj az aY bV:Sort _} {P0 P1 P2 P3 P4 P5 P6 P7 P8 P9 sh E4 E5 E6 E7 E8 E9 Fa:aj->az->aY->bV->Prop} {G:Prop} (k:∀ x0 x1 x2 x3,P0 x0 x1 x2 x3->P1 x0 x1 x2 x3->P2 x0 x1 x2 x3->P3 x0 x1 x2 x3->P4 x0 x1 x2 x3->P5 x0 x1 x2 x3->P6 x0 x1 x2 x3->P7 x0 x1 x2 x3->P8 x0 x1 x2 x3->P9 x0 x1 x2 x3->sh x0 x1 x2 x3->E4 x0 x1 x2 x3->E5 x0 x1 x2 x3->E6 x0 x1 x2 x3->E7 x0 x1 x2 x3->E8 x0 x1 x2 x3->E9 x0 x1 x2 x3->Fa x0 x1 x2 x3->G) (h:∃ x0 x1 x2 x3,P0 x0 x1 x2 x3/\P1 x0 x1 x2 x3/\P2 x0 x1 x2 x3/\P3 x0 x1 x2 x3/\P4 x0 x1 x2 x3/\P5 x0 x1 x2 x3/\P6 x0 x1 x2 x3/\P7 x0 x1 x2 x3/\P8 x0 x1 x2 x3/\P9 x0 x1 x2 x3/\sh x0 x1 x2 x3/\E4 x0 x1 x2 x3/\E5 x0 x1 x2 x3/\E6 x0 x1 x2 x3/\E7 x0 x1 x2 x3/\E8 x0 x1 x2 x3/\E9 x0 x1 x2 x3/\Fa x0 x1 x2 x3):G:=Exists.elim h fun x0 h0=>Exists.elim h0 fun x1 h1=>Exists.elim h1 fun x2 h2=>Exists.elim h2 fun x3 h3=>k x0 x1 x2 x3 h3.1 h3.2.1 h3.2.2.1 h3.2.2.2.1 h3.2.2.2.2.1 h3.2.2.2.2.2.1 h3.2.2.2.2.2.2.1 h3.2.2.2.2.2.2.2.1 h3.2.2.2.2.2.2.2.2.1 h3.2.2.2.2.2.2.2.2.2.1 h3.2.2.2.2.2.2.2.2.2.2.1 h3.2.2.2.2.2.2.2.2.2.2.2.1 h3.2.2.2.2.2.2.2.2.2.2.2.2.1 h3.2.2.2.2.2.2.2.2.2.2.2.2.2.1 h3.2.2.2.2.2.2.2.2.2.2.2.2.2.2.1 h3.2.2.2.2.2.2.2.2.2.2.2.2.2.2.2.1 h3.2.2.2.2.2.2.2.2.2.2.2.2.2.2.2.2.1 h3.2.2.2.2.2.2.2.2.2.2.2.2.2.2.2.2.2
theorem ME {aj az aY bV dS:Sort _} {P0 P1:aj->az->aY->bV->dS->Prop} {G:Prop} (k:∀ x0 x1 x2 x3 x4,P0 x0 x1 x2 x3 x4->P1 x0 x1 x2 x3 x4->G) (h:∃ x0 x1 x2 x3 x4,P0 x0 x1 x2 x3 x4/\P1 x0 x1 x2 x3 x4):G:=Exists.elim h fun x0 h0=>Exists.elim h0 fun x1 h1=>Exists.elim h1 fun x2 h2=>Exists.elim h2 fun x3 h3=>Exists.elim h3 fun x4 h4=>k x0 x1 x2 x3 x4 h4.1 h4.2
theorem Fb {aj az aY bV dS:Sort _} {P0 P1 P2 P3:aj->az->aY->bV->dS->Prop} {G:Prop} (k:∀ x0 x1 x2 x3 x4,P0 x0 x1 x2 x3 x4->P1 x0 x1 x2 x3 x4->P2 x0 x1 x2 x3 x4->P3 x0 x1 x2 x3 x4->G) (h:∃ x0 x1 x2 x3 x4,P0 x0 x1 x2 x3 x4/\P1 x0 x1 x2 x3 x4/\P2 x0 x1 x2 x3 x4/\P3 x0 x1 x2 x3 x4):G:=Exists.elim h fun x0 h0=>Exists.elim h0 fun x1 h1=>Exists.elim h1 fun x2 h2=>Exists.elim h2 fun x3 h3=>Exists.elim h3 fun x4 h4=>k x0 x1 x2 x3 x4 h4.1 h4.2.1 h4.2.2.1 h4.2.2.2
theorem ym {aj az aY bV dS:Sort _} {P0 P1 P2 P3 P4 P5:aj->az->aY->bV->dS->Prop} {G:Prop} (k:∀ x0 x1 x2 x3 x4,P0 x0 x1 x2 x3 x4->P1 x0 x1 x2 x3 x4->P2 x0 x1 x2 x3 x4->P3 x0 x1 x2 x3 x4->P4 x0 x1 x2 x3 x4->P5 x0 x1 x2 x3 x4->G) (h:∃ x0 x1 x2 x3 x4,P0 x0 x1 x2 x3 x4/\P1 x0 x1 x2 x3 x4/\P2 x0 x1 x2 x3 x4/\P3 x0 x1 x2 x3 x4/\P4 x0 x1 x2 x3 x4/\P5 x0 x1 x2 x3 x4):G:=Exists.elim h fun x0 h0=>Exists.elim h0 fun x1 h1=>Exists.elim h1 fun x2 h2=>Exists.elim h2 fun x3 h3=>Exists.elim h3 fun x4 h4=>k x0 x1 x2 x3 x4 h4.1 h4.2.1 h4.2.2.1 h4.2.2.2.1 h4.2.2.2.2.1 h4.2.2.2.2.2
theorem Fc {aj az aY bV dS:Sort _} {P0 P1 P2 P3 P4 P5 P6 P7 P8 P9:aj->az->aY->bV->dS->Prop} {G:Prop} (k:∀ x0 x1 x2 x3 x4,P0 x0 x1 x2 x3 x4->P1 x0 x1 x2 x3 x4->P2 x0 x1 x2 x3 x4->P3 x0 x1 x2 x3 x4->P4 x0 x1 x2 x3 x4->P5 x0 x1 x2 x3 x4->P6 x0 x1 x2 x3 x4->P7 x0 x1 x2 x3 x4->P8 x0 x1 x2 x3 x4->P9 x0 x1 x2 x3 x4->G) (h:∃ x0 x1 x2 x3 x4,P0 x0 x1 x2 x3 x4/\P1 x0 x1 x2 x3 x4/\P2 x0 x1 x2 x3 x4/\P3 x0 x1 x2 x3 x4/\P4 x0 x1 x2 x3 x4/\P5 x0 x1 x2 x3 x4/\P6 x0 x1 x2 x3 x4/\P7 x0 x1 x2 x3 x4/\P8 x0 x1 x2 x3 x4/\P9 x0 x1 x2 x3 x4):G:=Exists.elim h fun x0 h0=>Exists.elim h0 fun x1 h1=>Exists.elim h1 fun x2 h2=>Exists.elim h2 fun x3 h3=>Exists.elim h3 fun x4 h4=>k x0 x1 x2 x3 x4 h4.1 h4.2.1 h4.2.2.1 h4.2.2.2.1 h4.2.2.2.2.1 h4.2.2.2.2.2.1 h4.2.2.2.2.2.2.1 h4.2.2.2.2.2.2.2.1 h4.2.2.2.2.2.2.2.2.1 h4.2.2.2.2.2.2.2.2.2
theorem Fd {aj az aY bV dS oY:Sort _} {P0 P1 P2 P3 P4:aj->az->aY->bV->dS->oY->Prop} {G:Prop} (k:∀ x0 x1 x2 x3 x4 x5,P0 x0 x1 x2 x3 x4 x5->P1 x0 x1 x2 x3 x4 x5->P2 x0 x1 x2 x3 x4 x5->P3 x0 x1 x2 x3 x4 x5->P4 x0 x1 x2 x3 x4 x5->G) (h:∃ x0 x1 x2 x3 x4 x5,P0 x0 x1 x2 x3 x4 x5/\P1 x0 x1 x2 x3 x4 x5/\P2 x0 x1 x2 x3 x4 x5/\P3 x0 x1 x2 x3 x4 x5/\P4 x0 x1 x2 x3 x4 x5):G:=Exists.elim h fun x0 h0=>Exists.elim h0 fun x1 h1=>Exists.elim h1 fun x2 h2=>Exists.elim h2 fun x3 h3=>Exists.elim h3 fun x4 h4=>Exists.elim h4 fun x5 h5=>k x0 x1 x2 x3 x4 x5 h5.1 h5.2.1 h5.2.2.1 h5.2.2.2.1 h5.2.2.2.2
theorem dQ {α:Type _} {a:α} {G:Prop} (h:some a=none):G:=(Option.some_ne_none a h).elim
theorem aZ {α:Type _} {a:α} {G:Prop} (h:none=some a):G:=dQ h.symm
theorem du {G:Prop} (h:false=true):G:=(Bool.false_ne_true h).elim
theorem Fe {G:Prop} (h:true=false):G:=(Bool.false_ne_true h.symm).elim
theorem si {α:Type _} {a b:α} {G:Prop} (k:a=b->G) (h:some a=some b):G:=k (Option.some.inj h)
theorem ij {A B G:Prop} (f:A->B) (k:B->G) (h:A):G:=k (f h)
@[elab_as_elim] theorem U {α:Sort _} {a b:α} {P:α->Prop} (h:a=b) (q:P b):P a:=h ▸ q
@[elab_as_elim] theorem aT {α:Sort _} {a b:α} {P:α->Prop} (h:b=a) (q:P b):P a:=h ▸ q
theorem Ff {P0 P1 P2 P3:Prop} {aj:Sort _} {P4 P5 P6:aj->Prop} (h1:P0) (h2:P1) (h3:P2) (h4:P3) (x0:aj) (h5:P4 x0) (h6:P5 x0) (h7:P6 x0):P0/\P1/\P2/\P3/\∃ x0,P4 x0/\P5 x0/\P6 x0:=⟨h1,h2,h3,h4,x0,h5,h6,h7⟩
theorem MF {P0 P1 P2:Prop} {aj:Sort _} {P3 P4:aj->Prop} (h1:P0) (h2:P1) (h3:P2) (x0:aj) (h4:P3 x0) (h5:P4 x0):P0/\P1/\P2/\∃ x0,P3 x0/\P4 x0:=⟨h1,h2,h3,x0,h4,h5⟩
theorem oZ {P0 P1:Prop} {aj:Sort _} {P2 P3:aj->Prop} (h1:P0) (h2:P1) (x0:aj) (h3:P2 x0) (h4:P3 x0):P0/\P1/\∃ x0,P2 x0/\P3 x0:=⟨h1,h2,x0,h3,h4⟩
theorem lw {P0 P1:Prop} {aj:Sort _} {P2 P3 P4:aj->Prop} (h1:P0) (h2:P1) (x0:aj) (h3:P2 x0) (h4:P3 x0) (h5:P4 x0):P0/\P1/\∃ x0,P2 x0/\P3 x0/\P4 x0:=⟨h1,h2,x0,h3,h4,h5⟩
theorem lZ {P0:Prop} {aj:Sort _} {P1 P2:aj->Prop} (h1:P0) (x0:aj) (h2:P1 x0) (h3:P2 x0):P0/\∃ x0,P1 x0/\P2 x0:=⟨h1,x0,h2,h3⟩
theorem MG {P0:Prop} {aj:Sort _} {P1:aj->Prop} {az:Sort _} {P2 P3:aj->az->Prop} (h1:P0) (x0:aj) (h2:P1 x0) (x1:az) (h3:P2 x0 x1) (h4:P3 x0 x1):P0/\∃ x0,P1 x0/\∃ x1,P2 x0 x1/\P3 x0 x1:=⟨h1,x0,h2,x1,h3,h4⟩
theorem Fg {P0:Prop} {aj az:Sort _} {P1 P2 P3:aj->az->Prop} (h1:P0) (x0:aj) (x1:az) (h2:P1 x0 x1) (h3:P2 x0 x1) (h4:P3 x0 x1):P0/\∃ x0 x1,P1 x0 x1/\P2 x0 x1/\P3 x0 x1:=⟨h1,x0,x1,h2,h3,h4⟩
theorem MH {P0:Prop} {aj az aY:Sort _} {P1 P2 P3 P4:aj->az->aY->Prop} (h1:P0) (x0:aj) (x1:az) (x2:aY) (h2:P1 x0 x1 x2) (h3:P2 x0 x1 x2) (h4:P3 x0 x1 x2) (h5:P4 x0 x1 x2):P0/\∃ x0 x1 x2,P1 x0 x1 x2/\P2 x0 x1 x2/\P3 x0 x1 x2/\P4 x0 x1 x2:=⟨h1,x0,x1,x2,h2,h3,h4,h5⟩
theorem aQ {aj:Sort _} {P0:aj->Prop} (x0:aj) (h1:P0 x0):∃ x0,P0 x0:=⟨x0,h1⟩
theorem aB {aj:Sort _} {P0 P1:aj->Prop} (x0:aj) (h1:P0 x0) (h2:P1 x0):∃ x0,P0 x0/\P1 x0:=⟨x0,h1,h2⟩
theorem ff {aj:Sort _} {P0 P1 P2:aj->Prop} (x0:aj) (h1:P0 x0) (h2:P1 x0) (h3:P2 x0):∃ x0,P0 x0/\P1 x0/\P2 x0:=⟨x0,h1,h2,h3⟩
theorem l4 {aj:Sort _} {P0 P1 P2 P3:aj->Prop} (x0:aj) (h1:P0 x0) (h2:P1 x0) (h3:P2 x0) (h4:P3 x0):∃ x0,P0 x0/\P1 x0/\P2 x0/\P3 x0:=⟨x0,h1,h2,h3,h4⟩
theorem MI {aj:Sort _} {P0 P1 P2 P3 P4:aj->Prop} (x0:aj) (h1:P0 x0) (h2:P1 x0) (h3:P2 x0) (h4:P3 x0) (h5:P4 x0):∃ x0,P0 x0/\P1 x0/\P2 x0/\P3 x0/\P4 x0:=⟨x0,h1,h2,h3,h4,h5⟩
theorem MJ {aj:Sort _} {P0 P1 P2 P3 P4 P5:aj->Prop} (x0:aj) (h1:P0 x0) (h2:P1 x0) (h3:P2 x0) (h4:P3 x0) (h5:P4 x0) (h6:P5 x0):∃ x0,P0 x0/\P1 x0/\P2 x0/\P3 x0/\P4 x0/\P5 x0:=⟨x0,h1,h2,h3,h4,h5,h6⟩
theorem sj {aj:Sort _} {P0 P1:aj->Prop} {az:Sort _} {P2:aj->az->Prop} (x0:aj) (h1:P0 x0) (h2:P1 x0) (x1:az) (h3:P2 x0 x1):∃ x0,P0 x0/\P1 x0/\∃ x1,P2 x0 x1:=⟨x0,h1,h2,x1,h3⟩
theorem MK {aj:Sort _} {P0 P1:aj->Prop} {az aY:Sort _} {P2 P3 P4:aj->az->aY->Prop} (x0:aj) (h1:P0 x0) (h2:P1 x0) (x1:az) (x2:aY) (h3:P2 x0 x1 x2) (h4:P3 x0 x1 x2) (h5:P4 x0 x1 x2):∃ x0,P0 x0/\P1 x0/\∃ x1 x2,P2 x0 x1 x2/\P3 x0 x1 x2/\P4 x0 x1 x2:=⟨x0,h1,h2,x1,x2,h3,h4,h5⟩
theorem yn {aj:Sort _} {P0:aj->Prop} {az:Sort _} {P1 P2 P3 P4:aj->az->Prop} (x0:aj) (h1:P0 x0) (x1:az) (h2:P1 x0 x1) (h3:P2 x0 x1) (h4:P3 x0 x1) (h5:P4 x0 x1):∃ x0,P0 x0/\∃ x1,P1 x0 x1/\P2 x0 x1/\P3 x0 x1/\P4 x0 x1:=⟨x0,h1,x1,h2,h3,h4,h5⟩
theorem sk {aj:Sort _} {P0:aj->Prop} {az aY bV:Sort _} {P1 P2 P3 P4:aj->az->aY->bV->Prop} (x0:aj) (h1:P0 x0) (x1:az) (x2:aY) (x3:bV) (h2:P1 x0 x1 x2 x3) (h3:P2 x0 x1 x2 x3) (h4:P3 x0 x1 x2 x3) (h5:P4 x0 x1 x2 x3):∃ x0,P0 x0/\∃ x1 x2 x3,P1 x0 x1 x2 x3/\P2 x0 x1 x2 x3/\P3 x0 x1 x2 x3/\P4 x0 x1 x2 x3:=⟨x0,h1,x1,x2,x3,h2,h3,h4,h5⟩
theorem Fh {aj az:Sort _} {P0:aj->az->Prop} (x0:aj) (x1:az) (h1:P0 x0 x1):∃ x0 x1,P0 x0 x1:=⟨x0,x1,h1⟩
theorem jb {aj az:Sort _} {P0 P1:aj->az->Prop} (x0:aj) (x1:az) (h1:P0 x0 x1) (h2:P1 x0 x1):∃ x0 x1,P0 x0 x1/\P1 x0 x1:=⟨x0,x1,h1,h2⟩
theorem cA {aj az:Sort _} {P0 P1 P2:aj->az->Prop} (x0:aj) (x1:az) (h1:P0 x0 x1) (h2:P1 x0 x1) (h3:P2 x0 x1):∃ x0 x1,P0 x0 x1/\P1 x0 x1/\P2 x0 x1:=⟨x0,x1,h1,h2,h3⟩
theorem iL {aj az:Sort _} {P0 P1 P2 P3:aj->az->Prop} (x0:aj) (x1:az) (h1:P0 x0 x1) (h2:P1 x0 x1) (h3:P2 x0 x1) (h4:P3 x0 x1):∃ x0 x1,P0 x0 x1/\P1 x0 x1/\P2 x0 x1/\P3 x0 x1:=⟨x0,x1,h1,h2,h3,h4⟩
theorem ML {aj az:Sort _} {P0 P1 P2 P3 P4:aj->az->Prop} (x0:aj) (x1:az) (h1:P0 x0 x1) (h2:P1 x0 x1) (h3:P2 x0 x1) (h4:P3 x0 x1) (h5:P4 x0 x1):∃ x0 x1,P0 x0 x1/\P1 x0 x1/\P2 x0 x1/\P3 x0 x1/\P4 x0 x1:=⟨x0,x1,h1,h2,h3,h4,h5⟩
theorem vg {aj az:Sort _} {P0 P1 P2 P3 P4 P5:aj->az->Prop} (x0:aj) (x1:az) (h1:P0 x0 x1) (h2:P1 x0 x1) (h3:P2 x0 x1) (h4:P3 x0 x1) (h5:P4 x0 x1) (h6:P5 x0 x1):∃ x0 x1,P0 x0 x1/\P1 x0 x1/\P2 x0 x1/\P3 x0 x1/\P4 x0 x1/\P5 x0 x1:=⟨x0,x1,h1,h2,h3,h4,h5,h6⟩
theorem Fi {aj az:Sort _} {P0 P1 P2 P3 P4 P5 P6 P7:aj->az->Prop} (x0:aj) (x1:az) (h1:P0 x0 x1) (h2:P1 x0 x1) (h3:P2 x0 x1) (h4:P3 x0 x1) (h5:P4 x0 x1) (h6:P5 x0 x1) (h7:P6 x0 x1) (h8:P7 x0 x1):∃ x0 x1,P0 x0 x1/\P1 x0 x1/\P2 x0 x1/\P3 x0 x1/\P4 x0 x1/\P5 x0 x1/\P6 x0 x1/\P7 x0 x1:=⟨x0,x1,h1,h2,h3,h4,h5,h6,h7,h8⟩
theorem yo {aj az:Sort _} {P0 P1:aj->az->Prop} {aY:Sort _} {P2 P3:aj->az->aY->Prop} (x0:aj) (x1:az) (h1:P0 x0 x1) (h2:P1 x0 x1) (x2:aY) (h3:P2 x0 x1 x2) (h4:P3 x0 x1 x2):∃ x0 x1,P0 x0 x1/\P1 x0 x1/\∃ x2,P2 x0 x1 x2/\P3 x0 x1 x2:=⟨x0,x1,h1,h2,x2,h3,h4⟩
theorem l5 {aj az aY:Sort _} {P0 P1:aj->az->aY->Prop} (x0:aj) (x1:az) (x2:aY) (h1:P0 x0 x1 x2) (h2:P1 x0 x1 x2):∃ x0 x1 x2,P0 x0 x1 x2/\P1 x0 x1 x2:=⟨x0,x1,x2,h1,h2⟩
theorem Fj {aj az aY:Sort _} {P0 P1 P2:aj->az->aY->Prop} (x0:aj) (x1:az) (x2:aY) (h1:P0 x0 x1 x2) (h2:P1 x0 x1 x2) (h3:P2 x0 x1 x2):∃ x0 x1 x2,P0 x0 x1 x2/\P1 x0 x1 x2/\P2 x0 x1 x2:=⟨x0,x1,x2,h1,h2,h3⟩
theorem cF {aj az aY:Sort _} {P0 P1 P2 P3:aj->az->aY->Prop} (x0:aj) (x1:az) (x2:aY) (h1:P0 x0 x1 x2) (h2:P1 x0 x1 x2) (h3:P2 x0 x1 x2) (h4:P3 x0 x1 x2):∃ x0 x1 x2,P0 x0 x1 x2/\P1 x0 x1 x2/\P2 x0 x1 x2/\P3 x0 x1 x2:=⟨x0,x1,x2,h1,h2,h3,h4⟩
theorem MM {aj az aY:Sort _} {P0 P1 P2 P3 P4:aj->az->aY->Prop} (x0:aj) (x1:az) (x2:aY) (h1:P0 x0 x1 x2) (h2:P1 x0 x1 x2) (h3:P2 x0 x1 x2) (h4:P3 x0 x1 x2) (h5:P4 x0 x1 x2):∃ x0 x1 x2,P0 x0 x1 x2/\P1 x0 x1 x2/\P2 x0 x1 x2/\P3 x0 x1 x2/\P4 x0 x1 x2:=⟨x0,x1,x2,h1,h2,h3,h4,h5⟩
theorem MN {aj az aY:Sort _} {P0 P1 P2 P3 P4 P5:aj->az->aY->Prop} (x0:aj) (x1:az) (x2:aY) (h1:P0 x0 x1 x2) (h2:P1 x0 x1 x2) (h3:P2 x0 x1 x2) (h4:P3 x0 x1 x2) (h5:P4 x0 x1 x2) (h6:P5 x0 x1 x2):∃ x0 x1 x2,P0 x0 x1 x2/\P1 x0 x1 x2/\P2 x0 x1 x2/\P3 x0 x1 x2/\P4 x0 x1 x2/\P5 x0 x1 x2:=⟨x0,x1,x2,h1,h2,h3,h4,h5,h6⟩
theorem sm {aj az aY:Sort _} {P0 P1 P2 P3 P4 P5 P6:aj->az->aY->Prop} (x0:aj) (x1:az) (x2:aY) (h1:P0 x0 x1 x2) (h2:P1 x0 x1 x2) (h3:P2 x0 x1 x2) (h4:P3 x0 x1 x2) (h5:P4 x0 x1 x2) (h6:P5 x0 x1 x2) (h7:P6 x0 x1 x2):∃ x0 x1 x2,P0 x0 x1 x2/\P1 x0 x1 x2/\P2 x0 x1 x2/\P3 x0 x1 x2/\P4 x0 x1 x2/\P5 x0 x1 x2/\P6 x0 x1 x2:=⟨x0,x1,x2,h1,h2,h3,h4,h5,h6,h7⟩
theorem Fk {aj az aY:Sort _} {P0 P1 P2 P3 P4 P5 P6 P7:aj->az->aY->Prop} (x0:aj) (x1:az) (x2:aY) (h1:P0 x0 x1 x2) (h2:P1 x0 x1 x2) (h3:P2 x0 x1 x2) (h4:P3 x0 x1 x2) (h5:P4 x0 x1 x2) (h6:P5 x0 x1 x2) (h7:P6 x0 x1 x2) (h8:P7 x0 x1 x2):∃ x0 x1 x2,P0 x0 x1 x2/\P1 x0 x1 x2/\P2 x0 x1 x2/\P3 x0 x1 x2/\P4 x0 x1 x2/\P5 x0 x1 x2/\P6 x0 x1 x2/\P7 x0 x1 x2:=⟨x0,x1,x2,h1,h2,h3,h4,h5,h6,h7,h8⟩
theorem MO {aj az aY bV:Sort _} {P0:aj->az->aY->bV->Prop} (x0:aj) (x1:az) (x2:aY) (x3:bV) (h1:P0 x0 x1 x2 x3):∃ x0 x1 x2 x3,P0 x0 x1 x2 x3:=⟨x0,x1,x2,x3,h1⟩
theorem MP {aj az aY bV:Sort _} {P0 P1:aj->az->aY->bV->Prop} (x0:aj) (x1:az) (x2:aY) (x3:bV) (h1:P0 x0 x1 x2 x3) (h2:P1 x0 x1 x2 x3):∃ x0 x1 x2 x3,P0 x0 x1 x2 x3/\P1 x0 x1 x2 x3:=⟨x0,x1,x2,x3,h1,h2⟩
theorem MQ {aj az aY bV dS:Sort _} {P0 P1:aj->az->aY->bV->dS->Prop} (x0:aj) (x1:az) (x2:aY) (x3:bV) (x4:dS) (h1:P0 x0 x1 x2 x3 x4) (h2:P1 x0 x1 x2 x3 x4):∃ x0 x1 x2 x3 x4,P0 x0 x1 x2 x3 x4/\P1 x0 x1 x2 x3 x4:=⟨x0,x1,x2,x3,x4,h1,h2⟩
theorem Fl {aj az aY bV dS:Sort _} {P0 P1 P2 P3 P4 P5:aj->az->aY->bV->dS->Prop} (x0:aj) (x1:az) (x2:aY) (x3:bV) (x4:dS) (h1:P0 x0 x1 x2 x3 x4) (h2:P1 x0 x1 x2 x3 x4) (h3:P2 x0 x1 x2 x3 x4) (h4:P3 x0 x1 x2 x3 x4) (h5:P4 x0 x1 x2 x3 x4) (h6:P5 x0 x1 x2 x3 x4):∃ x0 x1 x2 x3 x4,P0 x0 x1 x2 x3 x4/\P1 x0 x1 x2 x3 x4/\P2 x0 x1 x2 x3 x4/\P3 x0 x1 x2 x3 x4/\P4 x0 x1 x2 x3 x4/\P5 x0 x1 x2 x3 x4:=⟨x0,x1,x2,x3,x4,h1,h2,h3,h4,h5,h6⟩
theorem yp {aj az aY bV dS:Sort _} {P0 P1 P2 P3 P4 P5 P6 P7 P8 P9:aj->az->aY->bV->dS->Prop} (x0:aj) (x1:az) (x2:aY) (x3:bV) (x4:dS) (h1:P0 x0 x1 x2 x3 x4) (h2:P1 x0 x1 x2 x3 x4) (h3:P2 x0 x1 x2 x3 x4) (h4:P3 x0 x1 x2 x3 x4) (h5:P4 x0 x1 x2 x3 x4) (h6:P5 x0 x1 x2 x3 x4) (h7:P6 x0 x1 x2 x3 x4) (h8:P7 x0 x1 x2 x3 x4) (h9:P8 x0 x1 x2 x3 x4) (o0:P9 x0 x1 x2 x3 x4):∃ x0 x1 x2 x3 x4,P0 x0 x1 x2 x3 x4/\P1 x0 x1 x2 x3 x4/\P2 x0 x1 x2 x3 x4/\P3 x0 x1 x2 x3 x4/\P4 x0 x1 x2 x3 x4/\P5 x0 x1 x2 x3 x4/\P6 x0 x1 x2 x3 x4/\P7 x0 x1 x2 x3 x4/\P8 x0 x1 x2 x3 x4/\P9 x0 x1 x2 x3 x4:=⟨x0,x1,x2,x3,x4,h1,h2,h3,h4,h5,h6,h7,h8,h9,o0⟩
theorem MR {aj az aY bV dS:Sort _} {P0 P1 P2 P3 P4 P5 P6 P7 P8 P9 sh:aj->az->aY->bV->dS->Prop} (x0:aj) (x1:az) (x2:aY) (x3:bV) (x4:dS) (h1:P0 x0 x1 x2 x3 x4) (h2:P1 x0 x1 x2 x3 x4) (h3:P2 x0 x1 x2 x3 x4) (h4:P3 x0 x1 x2 x3 x4) (h5:P4 x0 x1 x2 x3 x4) (h6:P5 x0 x1 x2 x3 x4) (h7:P6 x0 x1 x2 x3 x4) (h8:P7 x0 x1 x2 x3 x4) (h9:P8 x0 x1 x2 x3 x4) (o0:P9 x0 x1 x2 x3 x4) (yq:sh x0 x1 x2 x3 x4):∃ x0 x1 x2 x3 x4,P0 x0 x1 x2 x3 x4/\P1 x0 x1 x2 x3 x4/\P2 x0 x1 x2 x3 x4/\P3 x0 x1 x2 x3 x4/\P4 x0 x1 x2 x3 x4/\P5 x0 x1 x2 x3 x4/\P6 x0 x1 x2 x3 x4/\P7 x0 x1 x2 x3 x4/\P8 x0 x1 x2 x3 x4/\P9 x0 x1 x2 x3 x4/\sh x0 x1 x2 x3 x4:=⟨x0,x1,x2,x3,x4,h1,h2,h3,h4,h5,h6,h7,h8,h9,o0,yq⟩
theorem MS {aj az aY bV dS oY:Sort _} {P0 P1:aj->az->aY->bV->dS->oY->Prop} (x0:aj) (x1:az) (x2:aY) (x3:bV) (x4:dS) (x5:oY) (h1:P0 x0 x1 x2 x3 x4 x5) (h2:P1 x0 x1 x2 x3 x4 x5):∃ x0 x1 x2 x3 x4 x5,P0 x0 x1 x2 x3 x4 x5/\P1 x0 x1 x2 x3 x4 x5:=⟨x0,x1,x2,x3,x4,x5,h1,h2⟩
theorem MT {aj az aY bV dS oY:Sort _} {P0 P1 P2 P3 P4:aj->az->aY->bV->dS->oY->Prop} (x0:aj) (x1:az) (x2:aY) (x3:bV) (x4:dS) (x5:oY) (h1:P0 x0 x1 x2 x3 x4 x5) (h2:P1 x0 x1 x2 x3 x4 x5) (h3:P2 x0 x1 x2 x3 x4 x5) (h4:P3 x0 x1 x2 x3 x4 x5) (h5:P4 x0 x1 x2 x3 x4 x5):∃ x0 x1 x2 x3 x4 x5,P0 x0 x1 x2 x3 x4 x5/\P1 x0 x1 x2 x3 x4 x5/\P2 x0 x1 x2 x3 x4 x5/\P3 x0 x1 x2 x3 x4 x5/\P4 x0 x1 x2 x3 x4 x5:=⟨x0,x1,x2,x3,x4,x5,h1,h2,h3,h4,h5⟩
structure Nm where
 k:Nat
 deriving DecidableEq
noncomputable def Nm.vh:Nm:=⟨0⟩
noncomputable def Nm.vi:Nm:=⟨1⟩
noncomputable def Nm.MU:Nm:=⟨2⟩
noncomputable def Nm.MV:Nm:=⟨3⟩
noncomputable def Nm.Fm:Nm:=⟨6⟩
noncomputable def Nm.qH:Nm:=⟨8⟩
noncomputable def Nm.vj:Nm:=⟨14⟩
noncomputable def Nm.yr:Nm:=⟨15⟩
noncomputable def Nm.o5:Nm:=⟨16⟩
noncomputable def Nm.o6:Nm:=⟨17⟩
noncomputable def Nm.bM:Nm:=⟨18⟩
noncomputable def Nm.eH:Nm:=⟨19⟩
noncomputable def Nm.eW:Nm:=⟨21⟩
noncomputable def Nm.bz:Nm:=⟨22⟩
noncomputable def Nm.sn:Nm:=⟨23⟩
noncomputable def Nm.Fo:Nm:=⟨24⟩
noncomputable def Nm.fg:Nm:=⟨25⟩
noncomputable def Nm.o7:Nm:=⟨26⟩
noncomputable def Nm.de:Nm:=⟨27⟩
noncomputable def Nm.fh:Nm:=⟨28⟩
noncomputable def Nm.dJ:Nm:=⟨29⟩
noncomputable def Nm.Fp:Nm:=⟨30⟩
noncomputable def Nm.so:Nm:=⟨31⟩
noncomputable def Nm.km:Nm:=⟨32⟩
noncomputable def Nm.yt:Nm:=⟨33⟩
noncomputable def Nm.l6:Nm:=⟨35⟩
noncomputable def Nm.o9:Nm:=⟨36⟩
noncomputable def Nm.ni:Nm:=⟨37⟩
noncomputable def Nm.vk:Nm:=⟨38⟩
noncomputable def Nm.lx:Nm:=⟨39⟩
noncomputable def Nm.fj:Nm:=⟨40⟩
noncomputable def Nm.aW:Nm:=⟨41⟩
noncomputable def Nm.l7:Nm:=⟨42⟩
noncomputable def Nm.jx:Nm:=⟨43⟩
noncomputable def Nm.jc:Nm:=⟨45⟩
noncomputable def Nm.aF:Nm:=⟨46⟩
noncomputable def Nm.sp:Nm:=⟨47⟩
noncomputable def Nm.ez:Nm:=⟨48⟩
noncomputable def Nm.yu:Nm:=⟨49⟩
noncomputable def Nm.qI:Nm:=⟨50⟩
noncomputable def Nm.pa:Nm:=⟨51⟩
noncomputable def Nm.MW:Nm:=⟨52⟩
noncomputable def Nm.yv:Nm:=⟨53⟩
noncomputable def Nm.kn:Nm:=⟨55⟩
noncomputable def Nm.ly:Nm:=⟨56⟩
noncomputable def Nm.lz:Nm:=⟨57⟩
noncomputable def Nm.f7:Nm:=⟨58⟩
noncomputable def Nm.sq:Nm:=⟨59⟩
noncomputable def Nm.pc:Nm:=⟨61⟩
noncomputable def Nm.dg:Nm:=⟨62⟩
noncomputable def Nm.dA:Nm:=⟨63⟩
noncomputable def Nm.vm:Nm:=⟨64⟩
noncomputable def Nm.qJ:Nm:=⟨65⟩
noncomputable def Nm.cB:Nm:=⟨66⟩
noncomputable def Nm.pe:Nm:=⟨67⟩
noncomputable def Nm.qK:Nm:=⟨68⟩
noncomputable def Nm.yw:Nm:=⟨69⟩
noncomputable def Nm.bG:Nm:=⟨70⟩
noncomputable def Nm.ig:Nm:=⟨71⟩
noncomputable def Nm.jy:Nm:=⟨72⟩
noncomputable def Nm.yx:Nm:=⟨73⟩
noncomputable def Nm.eb:Nm:=⟨74⟩
noncomputable def Nm.vn:Nm:=⟨75⟩
noncomputable def Nm.yz:Nm:=⟨76⟩
noncomputable def Nm.vo:Nm:=⟨77⟩
noncomputable def Nm.sr:Nm:=⟨78⟩
noncomputable def Nm.cX:Nm:=⟨79⟩
noncomputable def Nm.g7:Nm:=⟨80⟩
noncomputable def Nm.su:Nm:=⟨81⟩
noncomputable def Nm.cC:Nm:=⟨82⟩
noncomputable def Nm.pf:Nm:=⟨83⟩
noncomputable def Nm.sw:Nm:=⟨84⟩
noncomputable def Nm.eX:Nm:=⟨85⟩
noncomputable def Nm.bW:Nm:=⟨86⟩
noncomputable def Nm.dh:Nm:=⟨87⟩
noncomputable def Nm.ed:Nm:=⟨88⟩
noncomputable def Nm.vp:Nm:=⟨89⟩
noncomputable def Nm.cY:Nm:=⟨90⟩
noncomputable def Nm.jz:Nm:=⟨91⟩
noncomputable def Nm.eI:Nm:=⟨92⟩
noncomputable def Nm.b9:Nm:=⟨93⟩
noncomputable def Nm.pg:Nm:=⟨94⟩
noncomputable def Nm.di:Nm:=⟨95⟩
noncomputable def Nm.sx:Nm:=⟨96⟩
noncomputable def Nm.l8:Nm:=⟨97⟩
noncomputable def Nm.lA:Nm:=⟨98⟩
noncomputable def Nm.qL:Nm:=⟨99⟩
noncomputable def Nm.aP:Nm:=⟨100⟩
noncomputable def Nm.fk:Nm:=⟨101⟩
noncomputable def Nm.eA:Nm:=⟨102⟩
noncomputable def Nm.eY:Nm:=⟨103⟩
noncomputable def Nm.Fq:Nm:=⟨104⟩
noncomputable def Nm.bb:Nm:=⟨105⟩
noncomputable def Nm.ii:Nm:=⟨106⟩
noncomputable def Nm.aJ:Nm:=⟨107⟩
noncomputable def Nm.lB:Nm:=⟨108⟩
noncomputable def Nm.qM:Nm:=⟨109⟩
noncomputable def Nm.yA:Nm:=⟨110⟩
noncomputable def Nm.bx:Nm:=⟨111⟩
noncomputable def Nm.cT:Nm:=⟨112⟩
noncomputable def Nm.f8:Nm:=⟨113⟩
noncomputable def Nm.vq:Nm:=⟨114⟩
structure Fn where
 k:Nat
 deriving DecidableEq
noncomputable def Fn.vr:Fn:=⟨0⟩
noncomputable def Fn.yB:Fn:=⟨1⟩
noncomputable def Fn.vu:Fn:=⟨2⟩
noncomputable def Fn.Fs:Fn:=⟨3⟩
noncomputable def Fn.sy:Fn:=⟨4⟩
noncomputable def Fn.Ft:Fn:=⟨5⟩
noncomputable def Fn.Fu:Fn:=⟨6⟩
noncomputable def Fn.Fv:Fn:=⟨7⟩
noncomputable def Fn.yC:Fn:=⟨8⟩
noncomputable def Fn.Fw:Fn:=⟨9⟩
noncomputable def Fn.qN:Fn:=⟨10⟩
noncomputable def Fn.vw:Fn:=⟨11⟩
noncomputable def Fn.yD:Fn:=⟨12⟩
noncomputable def Fn.yE:Fn:=⟨13⟩
noncomputable def Fn.yF:Fn:=⟨14⟩
noncomputable def Fn.vx:Fn:=⟨15⟩
noncomputable def Fn.Fy:Fn:=⟨16⟩
noncomputable def Fn.yG:Fn:=⟨17⟩
noncomputable def Fn.Fz:Fn:=⟨18⟩
noncomputable def Fn.yH:Fn:=⟨19⟩
noncomputable def Fn.vy:Fn:=⟨20⟩
noncomputable def Fn.vz:Fn:=⟨21⟩
noncomputable def Fn.FA:Fn:=⟨22⟩
noncomputable def Fn.FC:Fn:=⟨23⟩
noncomputable def Fn.FD:Fn:=⟨24⟩
noncomputable def Fn.FE:Fn:=⟨25⟩
noncomputable def Fn.FG:Fn:=⟨26⟩
noncomputable def Fn.FH:Fn:=⟨27⟩
noncomputable def Fn.FI:Fn:=⟨28⟩
noncomputable def Fn.MX:Fn:=⟨29⟩
noncomputable def Fn.MY:Fn:=⟨30⟩
noncomputable def Fn.FJ:Fn:=⟨31⟩
noncomputable def Fn.MZ:Fn:=⟨32⟩
noncomputable def Fn.FK:Fn:=⟨33⟩
noncomputable def Fn.FL:Fn:=⟨34⟩
noncomputable def Fn.FM:Fn:=⟨35⟩
noncomputable def Fn.FN:Fn:=⟨36⟩
noncomputable def Fn.yI:Fn:=⟨37⟩
noncomputable def Fn.FO:Fn:=⟨38⟩
noncomputable def Fn.FP:Fn:=⟨39⟩
noncomputable def Fn.FQ:Fn:=⟨40⟩
noncomputable def Fn.FS:Fn:=⟨41⟩
noncomputable def Fn.FT:Fn:=⟨42⟩
noncomputable def Fn.FU:Fn:=⟨43⟩
noncomputable def Fn.FV:Fn:=⟨44⟩
noncomputable def Fn.FX:Fn:=⟨45⟩
noncomputable def Fn.FY:Fn:=⟨46⟩
noncomputable def Fn.FZ:Fn:=⟨47⟩
noncomputable def Fn.yJ:Fn:=⟨48⟩
noncomputable def Fn.F0:Fn:=⟨49⟩
noncomputable def Fn.F3:Fn:=⟨50⟩
noncomputable def Fn.yK:Fn:=⟨51⟩
noncomputable def Fn.F4:Fn:=⟨52⟩
noncomputable def Fn.F5:Fn:=⟨53⟩
noncomputable def Fn.eB:Fn:=⟨54⟩
noncomputable def Fn.vA:Fn:=⟨55⟩
noncomputable def Fn.ku:Fn:=⟨56⟩
noncomputable def Fn.nj:Fn:=⟨57⟩
noncomputable def Fn.qO:Fn:=⟨58⟩
noncomputable def Fn.vB:Fn:=⟨59⟩
noncomputable def Fn.sB:Fn:=⟨60⟩
noncomputable def Fn.yL:Fn:=⟨61⟩
noncomputable def Fn.yM:Fn:=⟨62⟩
noncomputable def Fn.yN:Fn:=⟨63⟩
noncomputable def Fn.sC:Fn:=⟨64⟩
noncomputable def Fn.yO:Fn:=⟨65⟩
noncomputable def Fn.yP:Fn:=⟨66⟩
noncomputable def Fn.yQ:Fn:=⟨67⟩
noncomputable def Fn.yR:Fn:=⟨68⟩
noncomputable def Fn.yS:Fn:=⟨69⟩
noncomputable def Fn.fR:Fn:=⟨70⟩
noncomputable def Fn.F6:Fn:=⟨71⟩
noncomputable def Fn.F7:Fn:=⟨72⟩
noncomputable def Fn.F8:Fn:=⟨73⟩
noncomputable def Fn.pi:Fn:=⟨74⟩
noncomputable def Fn.yT:Fn:=⟨75⟩
inductive Cl where
 | gB
 | dR
 | jd
 | fS
 deriving DecidableEq
noncomputable def nl:List Str:=["FIRST_ADDRESS","HEAD_WORDS","H_LONG","H_SHORT","H_STRONG","KEEP_PLACE","LEAST_SIZE","PL_ARG","PL_HEAP","PL_LOCAL","PL_STATIC","ROW_ADDR","ROW_ALIVE","ROW_SORT","TOP_GEN","V_PLACE","V_REF","V_STRUCT","addr","addrs","args","asked","at","at_slot","before","bits","card_bits","cards","cells","count","deep","end","every","exact","f","finals","first","forward","found","frames","fresh","gen","goal","got","h","handles","heap","high","i","inmost","item","items","j","k","keep","kept","kind","limit","lists","living","locals_","low","made","marks","middle","moved","moves","n","new","number","nums","of","off","other","out","outer","p","part","parts","path","ph","picked","place","ready","rebuilt","roots","row","rows","script","second","self","serial","size","slot","slot_value","slots","sort","spot","statics","struct_value","thing","things","todo","top","turn","value","values","w","was","way","whole","word","words","work","young_limit"].map Str.ofString
noncomputable def Nm.str (x:Nm):Str:=(nl[x.k]?).getD ⟨Array.replicate (x.k+100) 0⟩
theorem M1:nl.Nodup:=by decide +kernel
theorem M2:∀ s∈nl,s.cps.size<100:=by decide +kernel
theorem Nm.str_inj {a b:Nm} (h:a.str=b.str):a=b:=by
 have key:∀ {i j:Nat} {s:Str},nl[i]?=some s->nl[j]?=none->s=⟨Array.replicate (j+100) 0⟩->False:=fun h1 Y h3=>by
  have h4:=M2 _ (List.mem_of_getElem? h1)
  rw [h3,Array.size_replicate] at h4
  exact absurd h4 (by omega)
 obtain ⟨i⟩:=a
 obtain ⟨j⟩:=b
 refine congrArg Nm.mk ?_
 unfold Nm.str at h
 induction h1:nl[i]? with
 | some s =>
  induction h2:nl[j]? with
  | some t =>
   rw [h1,h2] at h
   replace h:s=t:=h
   subst h
   exact (List.getElem?_inj (List.getElem?_eq_some_iff.mp h1).1 M1).mp (h1.trans h2.symm)
  | none=>rw [h1,h2] at h;exact (key h1 h2 h).elim
 | none =>
  induction h2:nl[j]? with
  | some t=>rw [h1,h2] at h;exact (key h2 h1 h.symm).elim
  | none =>
   rw [h1,h2] at h
   have:=congrArg (fun s:Str=>s.cps.size) (show (⟨Array.replicate (i+100) 0⟩:Str)=⟨Array.replicate (j+100) 0⟩ from h)
   simp only [Array.size_replicate] at this
   omega
noncomputable def M3:List Str:=["get_path","put_path","refs_in","move_value","move_plain","move_struct","words_for","heap_alloc","used_words","note_collected","find_thing","slot_word","slot_at","read_slot","holds_reference","card_number","store_slot","write_slot","words_of","push_word","push_value","drain","old_slots","mark","reach_more","mark_card","refers_younger","younger_slots","renew_cards","strong_values","found_dead","clear_handles","move_handles","pick_finals","end_of_older","plan_moves","moved_word","stays","moved_values","new_lists","put_lists","moved_addrs","settle_thing","settle_things","move_all","root_lists","find_living","collect","path_of","slots_of","index_of","read_whole","read_place","write_place","_law_draw","_law_lay","_law_show","_law_refs","_law_value","_law_path","_law_make","_law_spot","_law_get","_law_put","_law_ask","_law_write","_law_collect","_law_stands","_law_drop","_law_round","law","__init__","__init__","__init__","new_word","__init__"].map Str.ofString
noncomputable def Fn.str (f:Fn):Str:=(M3[f.k]?).getD (Str.ofString "")
noncomputable def Fn.glob (f:Fn):Bool:=Nat.blt f.k 71
noncomputable def Cl.str:Cl->Str
 | .gB=>Str.ofString "Thing"
 | .dR=>Str.ofString "Heap"
 | .jd=>Str.ofString "Words"
 | .fS=>Str.ofString "PlaceHost"
noncomputable def F9:List (Nat × Int):=[(0,16),(1,2),(2,2),(3,1),(4,3),(5,-1),(6,3),(7,2),(8,3),(9,1),(10,4),(11,1),(12,2),(13,0),(14,2),(15,6),(16,4),(17,5)]
noncomputable def Nm.vC (x:Nm):Option Int:=(F9.find? fun p=>p.1==x.k).map (·.2)
local macro_rules | `(tactic| wtm_at "o")=>`(tactic| first | decide | lia | omega)
inductive AV where
 | none | bool (b:Bool) | int (i:Int) | tup (l:List AV) | ref (i:Nat)
theorem AV.ref.inj {n m:Nat} (h:AV.ref n=.ref m):n=m:=by injection h
inductive AO where
 | list (l:List AV) | an (l:List (Int × AV)) | bl (l:List (Nm × AV)) | inst (c:Cl) (l:List (Nm × AV))
abbrev AH:=List AO
abbrev Loc:=Nm->Option AV
abbrev bf:=List (Addr × Addr)
noncomputable def b7 (ι:bf) (b:Addr):Prop:=∃ p∈ι,b=p.1∨b=p.2
mutual
noncomputable def VR (ι:bf) (h:Heap):AV->Value->Prop
 | .none,v=>v=.none
 | .bool b,v=>v=.bool b
 | .int i,v=>∃ t,v=.int i t
 | .tup l,v=>∃ a vs,v=.ref a/\h.IsTuple a vs/\l.length<=1000000/\aI ι h l vs.toList
 | .ref i,v=>∃ p,ι[i]?=some p/\v=.ref p.1
noncomputable def aI (ι:bf) (h:Heap):List AV->List Value->Prop
 | [],vs=>vs=[]
 | a::l,vs=>∃ v fB,vs=v::fB/\VR ι h a v/\aI ι h l fB
end
structure Ga (K:Frag) (A vD:Addr) (vE:List Nm):Prop where
 makes:makesIn K A=true
 init:findIn K (.ref A) "__init__"=some (some (.ref vD))
 M4:typeIn K (.ref vD)=some (.type "function")
 ga:findIn K (.ref A) "__getattribute__"=some (some (.builtin "object.__getattribute__"))
 M5:findIn K (.ref A) "__getattr__"=some none
 sa:findIn K (.ref A) "__setattr__"=some (some (.builtin "object.__setattr__"))
 over:plainOver K A=true
 dict:hasDictIn K A=true
 vE:∀ f∈vE,findIn K (.ref A) f.str=some none
noncomputable def nn:Cl->Fn
 | .gB=>.F6 | .dR=>.F7 | .jd=>.F8 | .fS=>.yT
noncomputable def fC:Cl->List Nm
 | .gB=>[.bM,.ly,.di,.aW,.eI,.jz]
 | .dR=>[.fk,.bz,.eY,.lz,.de,.o7,.fj,.vq,.l6,.pf,.qJ,.dg]
 | .jd=>[.aF,.cB]
 | .fS=>[.aF,.lx,.lA]
noncomputable def vF:List Str:=[Str.ofString "len",Str.ofString "range",Str.ofString "min",Str.ofString "max",Str.ofString "tuple",Str.ofString "isinstance",Str.ofString "bool"]
noncomputable def vG (c:Cl) (f:Fn):Bool:=c==.jd&&f==.pi
structure Cx where
 prog:Program
 w:World
 base:Heap
 K:Frag
 fa:Fn->Addr
 ca:Cl->Addr
 lC:K.In base
 os:OsState
 cls:∀ c,Ga K (ca c) (fa (nn c)) (fC c)
 gi:∀ (x:Nm) (i:Int),x.vC=some i->∃ t,nsIn K mainGlobals x.str=some (some (.int i t))
 sE:∀ f:Fn,f.glob=true->nsIn K mainGlobals f.str=some (some (.ref (fa f)))/\keepIn K (.ref (fa f))=true
 vH:∀ c:Cl,nsIn K mainGlobals c.str=some (some (.ref (ca c)))/\keepIn K (.ref (ca c))=true
 sF:∀ x∈vF,nsIn K mainGlobals x=some none
 jA:∀ c f,vG c f=true->findIn K (.ref (ca c)) f.str=some (some (.ref (fa f)))/\isFn K (.ref (fa f))=true/\keepIn K (.ref (fa f))=true
 sys:∃ o,base.get? sysModules=some o
 g:∃ mg mb,base.Ns mainGlobals mg/\base.Ns builtinsNs mb/\base.NoLimit/\(∀ x v,nsIn K mainGlobals x=some v->mg x=v)/\∀ x:Str,x≠"__name__"->mb x=bootBuiltins x
noncomputable def cc (y x:Nm):Bool:=y.k==x.k
theorem vI {y x:Nm}:cc y x=decide (y=x):=by
 by_cases h:y=x
 ·subst h;simp [cc]
 ·rw [decide_eq_false h]
  unfold cc
  rw [beq_eq_false_iff_ne]
  exact fun e=>h (congrArg Nm.mk e)
noncomputable def fT:List (Nm × AV)->Nm->Option AV
 | [],_=>none
 | (g,v)::l,f=>match cc g f with
  | true=>some v
  | false=>fT l f
theorem sG:∀ (l:List (Nm × AV)) (f:Nm),fT l f=(l.find? fun kv=>kv.1=f).map (·.2)
 | [],_=>rfl
 | (g,v)::l,f=>by
  refine U List.find?_cons ?_
  unfold fT
  refine U vI ?_
  by_cases h:g=f
  ·simp [h]
  ·simp [h,sG l f]
noncomputable def bp (l:List (Nm × AV)) (f:Nm) (v:AV):List (Nm × AV) :=
 if l.any (fun kv=>kv.1=f) then l.map (fun kv=>if kv.1=f then (kv.1,v) else kv) else l++[(f,v)]
noncomputable def bL (l:List (Int × AV)) (k:Int):Option AV:=(l.find? fun kv=>kv.1=k).map (·.2)
noncomputable def ee (l:List (Int × AV)) (k:Int) (v:AV):List (Int × AV) :=
 if l.any (fun kv=>kv.1=k) then l.map (fun kv=>if kv.1=k then (kv.1,v) else kv) else l++[(k,v)]
noncomputable def OR (C:Cx) (ι:bf) (h:Heap) (p:Addr × Addr):AO->Prop
 | .list l=>p.2=p.1/\l.length<=1000000/\∃ vs,h.PlainList p.1 vs/\aI ι h l vs.toList
 | .an l=>p.2=p.1/\l.length<=1000000/\∃ kvs:List (Int × Value),h.DictOf (intKind C.prog C.w) p.1 kvs/\kvs.map (·.1)=l.map (·.1)/\aI ι h (l.map (·.2)) (kvs.map (·.2))
 | .bl l=>p.2=p.1/\l.length<=1000000/\∃ kvs:List (Str × Value),h.DictOf (strKind C.prog C.w) p.1 kvs/\kvs.map (·.1)=l.map (fun x=>x.1.str)/\aI ι h (l.map (·.2)) (kvs.map (·.2))
 | .inst c l=>p.2≠p.1/\h.get? p.1=some (instObj (C.ca c) p.2)/\∃ mA,h.Ns1 p.2 mA/\Within mA ((fC c).map Nm.str)/\∀ f v,fT l f=some v->∃ cv,mA f.str=some cv/\VR ι h v cv
structure HR (C:Cx) (ι:bf) (σ:AH) (h:Heap):Prop where
 len:ι.length=σ.length
 keep:∀ b o,C.base.get? b=some o->h.get? b=some o
 above:∀ p∈ι,C.base.get? p.1=none/\C.base.get? p.2=none
 inj:∀ (i j:Nat) (p q:Addr × Addr),ι[i]?=some p->ι[j]?=some q->i≠j->p.1≠q.1/\p.1≠q.2/\p.2≠q.1/\p.2≠q.2
 obj:∀ (i:Nat) (o:AO) (p:Addr × Addr),σ[i]?=some o->ι[i]?=some p->OR C ι h p o
structure Ext (ι:bf) (h:Heap) (aK:bf) (h':Heap):Prop where
 pre:∀ (i:Nat) (p:Addr × Addr),ι[i]?=some p->aK[i]?=some p
 keep:∀ b o,¬ b7 ι b->h.get? b=some o->h'.get? b=some o
 alive:∀ b o,h.get? b=some o->∃ o',h'.get? b=some o'
 new:∀ (i:Nat) (p:Addr × Addr),ι.length<=i->aK[i]?=some p->h.get? p.1=none/\h.get? p.2=none
theorem Ext.refl (ι:bf) (h:Heap):Ext ι h ι h :=
 ⟨fun Y Y e=>e,fun Y Y Y e=>e,fun Y o e=>(aQ o e),fun i p hi e=>by
  rw [List.getElem?_eq_none hi] at e;exact aZ e⟩
theorem Ext.own {ι aK:bf} {h h':Heap} (x:Ext ι h aK h') {b:Addr} {o:Obj} (hb:h.get? b=some o) (ho:b7 aK b):b7 ι b:=by
 (revert ho;refine au ?_;intro p hp e)
 (refine aM ?_ (List.mem_iff_getElem?.mp hp);intro i hi)
 rcases Nat.lt_or_ge i ι.length with aS | jB
 ·have:=x.pre i ι[i] (List.getElem?_eq_getElem aS)
  rw [hi] at this
  (revert this;refine si ?_;rintro rfl)
  exact (aB _ (List.getElem_mem aS) e)
 ·have:=x.new i p jB hi
  exfalso
  rcases e with rfl | rfl
  ·rw [this.1] at hb;exact aZ hb
  ·rw [this.2] at hb;exact aZ hb
theorem Ext.dead {ι aK:bf} {h h':Heap} (x:Ext ι h aK h') {b:Addr} (hb:h'.get? b=none):h.get? b=none:=by
 induction e:h.get? b with
 | none=>rfl
 | some o=>(refine aM ?_ (x.alive b o e);intro o' e');rw [hb] at e';exact aZ e'
theorem Ext.trans {aU bH dF:bf} {bD bI eg:Heap} (x:Ext aU bD bH bI) (y:Ext bH bI dF eg):Ext aU bD dF eg where
 pre:=fun i p e=>y.pre i p (x.pre i p e)
 keep:=fun b o hb e=>y.keep b o (fun ho=>hb (x.own e ho)) (x.keep b o hb e)
 alive:=fun b o e=>let ⟨o',e'⟩:=x.alive b o e;y.alive b o' e'
 new:=fun i p hi e=>by
  rcases Nat.lt_or_ge i bH.length with aS | jB
  ·have:=y.pre i bH[i] (List.getElem?_eq_getElem aS)
   rw [e] at this
   (revert this;refine si ?_;rintro rfl)
   exact x.new i _ hi (List.getElem?_eq_getElem aS)
  ·have:=y.new i p jB e
   exact ⟨x.dead this.1,x.dead this.2⟩
theorem OR.alive {C:Cx} {ι:bf} {h:Heap} {p:Addr × Addr} {o:AO} (x:OR C ι h p o):(∃ o',h.get? p.1=some o')/\∃ o',h.get? p.2=some o':=by
 induction o with
 | list l =>
  (revert x;refine EW ?_;intro e _ fB o' br _)
  exact ⟨(aQ _ br),e ▸ (aQ _ br)⟩
 | an l =>
  (revert x;refine vb ?_;intro e _ kvs o' es ep br _ cG _ _)
  exact ⟨(aQ _ br),e ▸ (aQ _ br)⟩
 | bl l =>
  (revert x;refine vb ?_;intro e _ kvs o' es ep br _ cG _ _)
  exact ⟨(aQ _ br),e ▸ (aQ _ br)⟩
 | inst c l =>
  (revert x;refine EX ?_;intro _ br mA o2 es ep dT fO _ _)
  exact ⟨(aQ _ br),(aQ _ dT)⟩
theorem OR.noTuple {C:Cx} {ι:bf} {h:Heap} {p:Addr × Addr} {o:AO} (x:OR C ι h p o) {b:Addr} (hb:b=p.1∨b=p.2) {vs:Array Value}:¬ h.IsTuple b vs:=by
 (refine nc ?_;intro ot ht hc n hd)
 induction o with
 | list l =>
  (revert x;refine EW ?_;intro e _ fB o' br _)
  rcases hb with rfl | rfl
  ·rw [br] at ht;(revert ht;refine si ?_;rintro rfl);exact absurd (show Value.type "list"=Value.type "tuple" from hc) (by decide)
  ·rw [e,br] at ht;(revert ht;refine si ?_;rintro rfl);exact absurd (show Value.type "list"=Value.type "tuple" from hc) (by decide)
 | an l =>
  (revert x;refine vb ?_;intro e _ kvs o' es ep br _ cG _ _)
  rcases hb with rfl | rfl
  ·rw [br] at ht;(revert ht;refine si ?_;rintro rfl);rw [cG] at hd;exact (noConfusion_of_Nat Data.ctorIdx hd).elim
  ·rw [e,br] at ht;(revert ht;refine si ?_;rintro rfl);rw [cG] at hd;exact (noConfusion_of_Nat Data.ctorIdx hd).elim
 | bl l =>
  (revert x;refine vb ?_;intro e _ kvs o' es ep br _ cG _ _)
  rcases hb with rfl | rfl
  ·rw [br] at ht;(revert ht;refine si ?_;rintro rfl);rw [cG] at hd;exact (noConfusion_of_Nat Data.ctorIdx hd).elim
  ·rw [e,br] at ht;(revert ht;refine si ?_;rintro rfl);rw [cG] at hd;exact (noConfusion_of_Nat Data.ctorIdx hd).elim
 | inst c l =>
  (revert x;refine EX ?_;intro _ br mA o2 es ep dT fO _ _)
  rcases hb with rfl | rfl
  ·rw [br] at ht;(revert ht;refine si ?_;rintro rfl);exact (noConfusion_of_Nat Data.ctorIdx hd).elim
  ·rw [dT] at ht;(revert ht;refine si ?_;rintro rfl);rw [fO] at hd;exact (noConfusion_of_Nat Data.ctorIdx hd).elim
theorem HR.noOwn {C:Cx} {ι:bf} {σ:AH} {h:Heap} (x:HR C ι σ h) {b:Addr} {vs:Array Value} (ht:h.IsTuple b vs):¬ b7 ι b:=by
 (refine au ?_;intro p hp e)
 (refine aM ?_ (List.mem_iff_getElem?.mp hp);intro i hi)
 have aS:i<σ.length:=by refine aT x.len ?_;exact (List.getElem?_eq_some_iff.mp hi).1
 exact (x.obj i σ[i] p (List.getElem?_eq_getElem aS) hi).noTuple e ht
structure cH (ι:bf) (h:Heap) (aK:bf) (h':Heap):Prop where
 pre:∀ (i:Nat) (p:Addr × Addr),ι[i]?=some p->aK[i]?=some p
 tup:∀ a vs,h.IsTuple a vs->h'.IsTuple a vs
theorem Ext.cI {C:Cx} {ι aK:bf} {σ:AH} {h h':Heap} (x:Ext ι h aK h') (r:HR C ι σ h):cH ι h aK h' :=
 ⟨x.pre,fun a vs ht=>by
  have hn:=r.noOwn ht
  (revert ht;refine au ?_;intro o ho q)
  exact (aB o (x.keep a o hn ho) q)⟩
mutual
theorem VR.mono {ι aK:bf} {h h':Heap} (x:cH ι h aK h'):∀ (a:AV) {v:Value},VR ι h a v->VR aK h' a v
 | .none,v,e=>by simpa [VR] using e
 | .bool b,v,e=>by simpa [VR] using e
 | .int i,v,e=>by simpa [VR] using e
 | .tup l,v,e=>by
  simp only [VR] at e ⊢
  (revert e;refine eV ?_;intro a vs e1 e2 e3 e4)
  exact (iL a vs e1 (x.tup _ _ e2) e3 (aI.mono x l e4))
 | .ref i,v,e=>by
  simp only [VR] at e ⊢
  (revert e;refine au ?_;intro p e1 e2)
  exact (aB p (x.pre _ _ e1) e2)
theorem aI.mono {ι aK:bf} {h h':Heap} (x:cH ι h aK h'):∀ (l:List AV) {vs:List Value},aI ι h l vs->aI aK h' l vs
 | [],vs,e=>by simpa [aI] using e
 | a::l,vs,e=>by
  simp only [aI] at e ⊢
  (revert e;refine cW ?_;intro v fB e1 e2 e3)
  exact (cA v fB e1 (VR.mono x a e2) (aI.mono x l e3))
end
theorem aI.length {ι:bf} {h:Heap}:∀ {l:List AV} {vs:List Value},aI ι h l vs->vs.length=l.length
 | [],vs,e=>by simp only [aI] at e;refine U e ?_;rfl
 | a::l,vs,e=>by
  simp only [aI] at e
  (revert e;refine cW ?_;rintro v fB rfl _ e3)
  exact U List.length_cons (U List.length_cons (U (aI.length e3 ..) rfl))
theorem aI.get {ι:bf} {h:Heap}:∀ {l:List AV} {vs:List Value},aI ι h l vs->∀ {i:Nat} {a:AV},l[i]?=some a->∃ v,vs[i]?=some v/\VR ι h a v
 | [],vs,e,i,a,hi=>by exact aZ hi
 | b::l,vs,e,0,a,hi=>by
  simp only [aI] at e
  (revert e;refine cW ?_;rintro v fB rfl e2 e3)
  (revert hi;refine si ?_;rintro rfl)
  exact (aB v rfl e2)
 | b::l,vs,e,i+1,a,hi=>by
  simp only [aI] at e
  (revert e;refine cW ?_;rintro v fB rfl e2 e3)
  exact aI.get e3 (i:=i) hi
theorem aI.append {ι:bf} {h:Heap}:∀ {l m:List AV} {vs ws:List Value},aI ι h l vs->aI ι h m ws->aI ι h (l++m) (vs++ws)
 | [],m,vs,ws,e,f=>by simp only [aI] at e;subst e;exact f
 | a::l,m,vs,ws,e,f=>by
  simp only [aI] at e
  (revert e;refine cW ?_;rintro v fB rfl e2 e3)
  show aI ι h (a::(l++m)) (v::(fB++ws))
  simp only [aI]
  exact (cA v (fB++ws) rfl e2 (aI.append e3 f))
theorem aI.one {ι:bf} {h:Heap} {a:AV} {v:Value} (e:VR ι h a v):aI ι h [a] [v]:=by
 simp only [aI];exact (cA v ([]) rfl e rfl)
theorem aI.drop {ι:bf} {h:Heap}:∀ (k:Nat) {l:List AV} {vs:List Value},aI ι h l vs->aI ι h (l.drop k) (vs.drop k)
 | 0,l,vs,e=>e
 | k+1,[],vs,e=>by simp only [aI] at e;subst e;simp [aI]
 | k+1,a::l,vs,e=>by
  simp only [aI] at e
  (revert e;refine cW ?_;rintro v fB rfl e2 e3)
  exact aI.drop k e3
theorem aI.take {ι:bf} {h:Heap}:∀ (k:Nat) {l:List AV} {vs:List Value},aI ι h l vs->aI ι h (l.take k) (vs.take k)
 | 0,l,vs,e=>by simp [aI]
 | k+1,[],vs,e=>by simp only [aI] at e;subst e;simp [aI]
 | k+1,a::l,vs,e=>by
  simp only [aI] at e
  (revert e;refine cW ?_;rintro v fB rfl e2 e3)
  simp only [List.take_succ_cons,aI]
  exact (cA v _ rfl e2 (aI.take k e3))
theorem aI.set {ι:bf} {h:Heap}:∀ {l:List AV} {vs:List Value},aI ι h l vs->∀ (i:Nat) {a:AV} {v:Value},VR ι h a v->aI ι h (l.set i a) (vs.set i v)
 | [],vs,e,i,a,v,f=>by simp only [aI] at e;subst e;simp [aI]
 | b::l,vs,e,0,a,v,f=>by
  simp only [aI] at e
  (revert e;refine cW ?_;rintro u fB rfl e2 e3)
  simp only [List.set_cons_zero,aI]
  exact (cA v fB rfl f e3)
 | b::l,vs,e,i+1,a,v,f=>by
  simp only [aI] at e
  (revert e;refine cW ?_;rintro u fB rfl e2 e3)
  simp only [List.set_cons_succ,aI]
  exact (cA u _ rfl e2 (aI.set e3 i f))
theorem OR.mono {C:Cx} {ι aK:bf} {h h':Heap} (x:cH ι h aK h') {p:Addr × Addr} (h1:∀ o,h.get? p.1=some o->h'.get? p.1=some o) (h2:∀ o,h.get? p.2=some o->h'.get? p.2=some o):∀ {o:AO},OR C ι h p o->OR C aK h' p o:=by
 intro o
 induction o using AO.casesOn with
 | list l=>exact u9 fun e hl vs ho q=>oZ e hl vs (aM (fun o' br=>aQ o' (h1 _ br)) ho) (aI.mono x _ q)
 | an l=>exact qG fun e hl kvs ho q t=>lw e hl kvs (lr (fun o' es ep br r=>l5 o' es ep (h1 _ br) r) ho) q (aI.mono x _ t)
 | bl l=>exact qG fun e hl kvs ho q t=>lw e hl kvs (lr (fun o' es ep br r=>l5 o' es ep (h1 _ br) r) ho) q (aI.mono x _ t)
 | inst c l=>exact qG fun e ho mA hn hw q=>lw e (h1 _ ho) mA (hn.at h2) hw fun f v hv=>au (fun cv a b=>aB cv a (VR.mono x _ b)) (q f v hv)
theorem cH.keeps {ι:bf} {h h':Heap} (hk:∀ b o,h.get? b=some o->h'.get? b=some o):cH ι h ι h' :=
 ⟨fun Y Y e=>e,fun a vs=>au fun o ho q=>(aB o (hk _ _ ho) q)⟩
section
variable {C:Cx} {ι:bf} {σ:AH} {h h':Heap}
theorem b7.of_get {i:Nat} {p:Addr × Addr} (e:ι[i]?=some p):b7 ι p.1/\b7 ι p.2 :=
 ⟨(aB p (List.mem_of_getElem? e) (.inl rfl)),(aB p (List.mem_of_getElem? e) (.inr rfl))⟩
theorem HR.get (r:HR C ι σ h) {i:Nat} {o:AO} (e:σ[i]?=some o):∃ p,ι[i]?=some p/\OR C ι h p o:=by
 have aS:i<ι.length:=by refine U r.len ?_;exact (List.getElem?_eq_some_iff.mp e).1
 exact (aB (ι[i]) (List.getElem?_eq_getElem aS) (r.obj i o _ e (List.getElem?_eq_getElem aS)))
theorem HR.at (r:HR C ι σ h) {i:Nat} {p:Addr × Addr} (e:ι[i]?=some p):∃ o,σ[i]?=some o/\OR C ι h p o:=by
 have aS:i<σ.length:=by refine aT r.len ?_;exact (List.getElem?_eq_some_iff.mp e).1
 exact (aB (σ[i]) (List.getElem?_eq_getElem aS) (r.obj i _ _ (List.getElem?_eq_getElem aS) e))
theorem HR.jC (r:HR C ι σ h) (P:Addr->Prop) (hP:∀ b,P b->¬ b7 ι b/\C.base.get? b=none/\∀ vs,¬ h.IsTuple b vs) (hk:∀ b o,¬ P b->h.get? b=some o->h'.get? b=some o):HR C ι σ h' where
 len:=r.len
 keep:=fun b o e=>hk b o (fun hp=>by rw [(hP b hp).2.1] at e;exact aZ e) (r.keep b o e)
 above:=r.above
 inj:=r.inj
 obj:=fun i o p e1 e2=>by
  have ho:=b7.of_get e2
  exact OR.mono ⟨fun Y Y e=>e,fun a vs ht=>by
   have hn:¬ P a:=fun hp=>(hP a hp).2.2 vs ht
   (revert ht;refine au ?_;intro o ho q)
   exact (aB o (hk _ _ hn ho) q)⟩ (fun o e=>hk _ _ (fun hp=>(hP _ hp).1 ho.1) e) (fun o e=>hk _ _ (fun hp=>(hP _ hp).1 ho.2) e) (r.obj i o p e1 e2)
theorem HR.keeps (r:HR C ι σ h) (hk:∀ b o,h.get? b=some o->h'.get? b=some o):HR C ι σ h' :=
 r.jC (fun Y=>False) (fun Y hp=>hp.elim) fun b o Y e=>hk b o e
theorem Ext.keeps (hk:∀ b o,h.get? b=some o->h'.get? b=some o):Ext ι h ι h' :=
 ⟨fun Y Y e=>e,fun b o Y e=>hk b o e,fun b o e=>(aQ o (hk b o e)),fun i p hi e=>by rw [List.getElem?_eq_none hi] at e;exact aZ e⟩
theorem HR.alloc (r:HR C ι σ h) {a d:Addr} {ao:AO} (hk:∀ b o,h.get? b=some o->h'.get? b=some o) (ha:h.get? a=none) (hd:h.get? d=none) (ho:OR C (ι++[(a,d)]) h' (a,d) ao) :
  HR C (ι++[(a,d)]) (σ++[ao]) h'/\Ext ι h (ι++[(a,d)]) h':=by
 have pre:∀ (i:Nat) (p:Addr × Addr),ι[i]?=some p->(ι++[(a,d)])[i]?=some p:=fun i p e=>by
  refine U (List.getElem?_append_left (List.getElem?_eq_some_iff.mp e).1 ..) ?_;exact e
 have last:∀ (i:Nat) (p:Addr × Addr),ι.length<=i->(ι++[(a,d)])[i]?=some p->i=ι.length/\p=(a,d):=fun i p hi e=>by
  rw [List.getElem?_append_right hi] at e
  have:i - ι.length=0:=by
   rcases Nat.eq_zero_or_pos (i - ι.length) with h0 | h0
   ·exact h0
   ·rw [List.getElem?_eq_none (by simp only [List.length_singleton];lia)] at e;exact aZ e
  rw [this] at e
  (revert e;refine si ?_;rintro rfl)
  exact ⟨by lia,rfl⟩
 have fresh:∀ (j:Nat) (q:Addr × Addr),ι[j]?=some q->a≠q.1/\a≠q.2/\d≠q.1/\d≠q.2:=fun j q e=>by
  (refine au ?_ (r.at e);intro o _ ho)
  (refine yh ?_ (ho.alive);intro o1 h1 o2 h2)
  refine ⟨?_,?_,?_,?_⟩ <;> rintro rfl
  ·rw [ha] at h1;exact aZ h1
  ·rw [ha] at h2;exact aZ h2
  ·rw [hd] at h1;exact aZ h1
  ·rw [hd] at h2;exact aZ h2
 have Gc:∀ b,h.get? b=none->C.base.get? b=none:=fun b hb=>by
  induction e:C.base.get? b with
  | none=>rfl
  | some o=>rw [r.keep b o e] at hb;exact dQ hb
 have tx:cH ι h (ι++[(a,d)]) h':=⟨pre,fun b vs=>au fun o ho q=>(aB o (hk _ _ ho) q)⟩
 refine ⟨⟨by simp [r.len],fun b o e=>hk _ _ (r.keep b o e),?_,?_,?_⟩,⟨pre,fun b o Y e=>hk b o e,fun b o e=>(aQ o (hk b o e)),fun i p hi e=>?_⟩⟩
 ·intro p hp
  rcases List.mem_append.mp hp with hp | hp
  ·exact r.above p hp
  ·obtain rfl:=List.mem_singleton.mp hp
   exact ⟨Gc _ ha,Gc _ hd⟩
 ·intro i j p q e1 e2 ik
  rcases Nat.lt_or_ge i ι.length with hi | hi <;> rcases Nat.lt_or_ge j ι.length with hj | hj
  ·rw [List.getElem?_append_left hi] at e1
   rw [List.getElem?_append_left hj] at e2
   exact r.inj i j p q e1 e2 ik
  ·rw [List.getElem?_append_left hi] at e1
   (refine ay ?_ (last j q hj e2);rintro _ rfl)
   have:=fresh i p e1
   exact ⟨this.1.symm,this.2.2.1.symm,this.2.1.symm,this.2.2.2.symm⟩
  ·rw [List.getElem?_append_left hj] at e2
   (refine ay ?_ (last i p hi e1);rintro _ rfl)
   exact fresh j q e2
  ·exact absurd ((last i p hi e1).1.trans (last j q hj e2).1.symm) ik
 ·intro i o p e1 e2
  rcases Nat.lt_or_ge i ι.length with hi | hi
  ·rw [List.getElem?_append_left hi] at e2
   rw [List.getElem?_append_left (by refine aT r.len ?_;exact hi)] at e1
   exact OR.mono tx (hk _) (hk _) (r.obj i o p e1 e2)
  ·(refine ay ?_ (last i p hi e2);rintro rfl rfl)
   rw [r.len,List.getElem?_append_right (Nat.le_refl _),Nat.sub_self] at e1
   (revert e1;refine si ?_;rintro rfl)
   exact ho
 ·(refine ay ?_ (last i p hi e);rintro _ rfl)
  exact ⟨ha,hd⟩
theorem HR.upd (r:HR C ι σ h) {i:Nat} {p:Addr × Addr} {ao:AO} (hi:ι[i]?=some p) (hk:∀ b o,b≠p.1->b≠p.2->h.get? b=some o->h'.get? b=some o)
  (ho:OR C ι h' p ao):HR C ι (σ.set i ao) h'/\Ext ι h ι h':=by
 have Gd:=b7.of_get hi
 have al:=ho.alive
 have M6:∀ b o,¬ b7 ι b->h.get? b=some o->h'.get? b=some o:=fun b o hb e =>
  hk b o (fun e=>hb (e ▸ Gd.1)) (fun e=>hb (e ▸ Gd.2)) e
 have aS:i<σ.length:=by refine aT r.len ?_;exact (List.getElem?_eq_some_iff.mp hi).1
 have ex:Ext ι h ι h':=⟨fun Y Y e=>e,M6,fun b o e=>by
  by_cases h1:b=p.1
  ·refine U h1 ?_;exact al.1
  ·by_cases h2:b=p.2
   ·refine U h2 ?_;exact al.2
   ·exact (aQ o (hk b o h1 h2 e)),fun i p hi e=>by rw [List.getElem?_eq_none hi] at e;exact aZ e⟩
 refine ⟨⟨by simp [r.len],fun b o e=>?_,r.above,r.inj,fun j o q e1 e2=>?_⟩,ex⟩
 ·have ab:=r.above p (List.mem_of_getElem? hi)
  exact hk b o (by rintro rfl;rw [ab.1] at e;exact aZ e) (by rintro rfl;rw [ab.2] at e;exact aZ e) (r.keep b o e)
 ·by_cases ik:i=j
  ·subst ik
   rw [List.getElem?_set_self aS] at e1
   (revert e1;refine si ?_;rintro rfl)
   rw [hi] at e2;(revert e2;refine si ?_;rintro rfl)
   exact ho
  ·rw [List.getElem?_set_ne ik] at e1
   have:=r.inj j i q p e2 hi (Ne.symm ik)
   exact OR.mono (ex.cI r) (fun o e=>hk _ _ this.1 this.2.1 e) (fun o e=>hk _ _ this.2.2.1 this.2.2.2 e) (r.obj j o q e1 e2)
end
set_option maxRecDepth 100000
abbrev pw:=PySem.Challenge.pw_xm0289_01
noncomputable def qP:List Addr:=[21,28,35,42,49,56,63,112,119,126,133,140,147,154,161,168,175,182,189,196,203,210,217,224,231,238,245,252,259,266,273,280,287,294,301,308,343,350,357,364,371,378,385,392,399,406,413,420,448,455,462,469,476,483,490,497,504,511,518,525,530,537,544,551,558,565,570,575,582,589,594,77,98,322,329,434]
noncomputable def f9 (f:Fn):Addr:=(qP[f.k]?).getD 0
noncomputable def iM:Cl->Addr
 | .gB=>80
 | .dR=>101
 | .jd=>332
 | .fS=>437
inductive VT where
 | r (a:Addr) | i (n:Int) | o
noncomputable def iV:Value->Int->Bool
 | .int m _,n=>m==n
 | _,_=>false
noncomputable def yU (v:Value):VT->Bool
 | .r a=>decide (v=.ref a)
 | .i n=>iV v n
 | .o=>true
noncomputable def Ge:Value->Str->Bool
 | .str s _,x=>s==x
 | _,_=>false
noncomputable def yV:List DictEntry->List (Str × VT)->Bool
 | [],[]=>true
 | e::es,p::ps=>Ge e.key p.1&&(yU e.val p.2&&yV es ps)
 | _,_=>false
noncomputable def yW (K:Frag) (ps:List (Str × VT)):Bool:=match K.lookup mainGlobals with
 | some ⟨_,_,.dict es _,_⟩=>yV es.toList ps
 | _=>false
noncomputable def g8:List (Str × VT):=([("__name__",.o),("__doc__",.o),("__package__",.o),("__loader__",.o),("__spec__",.o),("__annotations__",.r 6),("__builtins__",.r 4),("__file__",.o),("__cached__",.o),("V_REF",.i 4),("V_STRUCT",.i 5),("V_PLACE",.i 6),("PL_LOCAL",.i 1),("PL_ARG",.i 2),("PL_HEAP",.i 3),("PL_STATIC",.i 4),("get_path",.r 21),("put_path",.r 28),("refs_in",.r 35),("move_value",.r 42),("move_plain",.r 49),("move_struct",.r 56),("FIRST_ADDRESS",.i 16),("HEAD_WORDS",.i 2),("LEAST_SIZE",.i 3),("TOP_GEN",.i 2),("words_for",.r 63),("Thing",.r 80),("Heap",.r 101),("heap_alloc",.r 112),("used_words",.r 119),("note_collected",.r 126),("find_thing",.r 133),("slot_word",.r 140),("slot_at",.r 147),("read_slot",.r 154),("holds_reference",.r 161),("card_number",.r 168),("store_slot",.r 175),("write_slot",.r 182),("words_of",.r 189),("push_word",.r 196),("push_value",.r 203),("drain",.r 210),("old_slots",.r 217),("mark",.r 224),("reach_more",.r 231),("mark_card",.r 238),("refers_younger",.r 245),("younger_slots",.r 252),("renew_cards",.r 259),("H_SHORT",.i 1),("H_LONG",.i 2),("H_STRONG",.i 3),("ROW_SORT",.i 0),("ROW_ADDR",.i 1),("ROW_ALIVE",.i 2),("strong_values",.r 266),("found_dead",.r 273),("clear_handles",.r 280),("move_handles",.r 287),("pick_finals",.r 294),("end_of_older",.r 301),("plan_moves",.r 308),("Words",.r 332),("moved_word",.r 343),("stays",.r 350),("moved_values",.r 357),("new_lists",.r 364),("put_lists",.r 371),("moved_addrs",.r 378),("settle_thing",.r 385),("settle_things",.r 392),("move_all",.r 399),("root_lists",.r 406),("find_living",.r 413),("collect",.r 420),("KEEP_PLACE",.i (-1)),("PlaceHost",.r 437),("path_of",.r 448),("slots_of",.r 455),("index_of",.r 462),("read_whole",.r 469),("read_place",.r 476),("write_place",.r 483),("_law_draw",.r 490),("_law_lay",.r 497),("_law_show",.r 504),("_law_refs",.r 511),("_law_value",.r 518),("_law_path",.r 525),("_law_make",.r 530),("_law_spot",.r 537),("_law_get",.r 544),("_law_put",.r 551),("_law_ask",.r 558),("_law_write",.r 565),("_law_collect",.r 570),("_law_stands",.r 575),("_law_drop",.r 582),("_law_round",.r 589),("law",.r 594)]:List (String × VT)).map fun p=>(Str.ofString p.1,p.2)
abbrev pj:=Arguments × Scope × FuncBody
noncomputable def fnX (K:Frag) (a:Addr):Option pj:=match K.lookup a with
 | some ⟨_,_,.func fd,_⟩=>some (fd.params,fd.scope,fd.body)
 | _=>none
noncomputable def M7:Value->Bool
 | .none=>true
 | _=>false
noncomputable def nq (K:Frag) (a:Addr):Bool:=match K.lookup a with
 | some ⟨c,_,.func fd,_⟩=>decide (c=.type "function")&&(codeIn K fd.code fd.qualname&&(fd.globals==mainGlobals&&(fd.builtins==builtinsNs&&(fd.closure.isEmpty&&M7 fd.defaults))))
 | _=>false
noncomputable def fdOf (s:Stmt):Option pj:=if h:s.ctorIdx=0 then Stmt.FunctionDef.elim (motive_2:=fun Y=>Option pj) s h (fun n a b d r tp sc ts bi p=>some (a,sc,.stmts b)) else none
noncomputable def M8 (s:Stmt):List Stmt:=if h:s.ctorIdx=2 then Stmt.ClassDef.elim (motive_2:=fun Y=>List Stmt) s h (fun Y Y Y b Y Y Y Y Y Y Y=>b) else []
noncomputable def qQ (p:Nat × Nat):Option pj:=(pw.main.body[p.1]?).bind fun s=>if p.2=9 then fdOf s else ((M8 s)[p.2]?).bind fdOf
noncomputable def pk:List (Nat × Nat):=[(8,9),(9,9),(10,9),(11,9),(12,9),(13,9),(19,9),(22,9),(23,9),(24,9),(25,9),(26,9),(27,9),(28,9),(29,9),(30,9),(31,9),(32,9),(34,9),(35,9),(36,9),(37,9),(38,9),(39,9),(40,9),(42,9),(43,9),(44,9),(45,9),(53,9),(54,9),(55,9),(56,9),(57,9),(59,9),(60,9),(62,9),(63,9),(64,9),(65,9),(66,9),(67,9),(68,9),(69,9),(70,9),(72,9),(73,9),(74,9),(78,9),(79,9),(80,9),(81,9),(82,9),(83,9),(85,9),(86,9),(87,9),(88,9),(89,9),(90,9),(91,9),(92,9),(93,9),(94,9),(95,9),(96,9),(97,9),(98,9),(99,9),(100,9),(101,9),(20,0),(21,0),(61,0),(61,1),(77,0)]
noncomputable def sH (v:Value) (o:Option (Option Value)):Bool:=decide (o=some (some v))
noncomputable def yX (o:Option (Option Value)):Bool:=decide (o=some none)
noncomputable def sI (K:Frag) (c:Cl):Bool :=
 makesIn K (iM c)&&(sH (.ref (f9 (nn c))) (findIn K (.ref (iM c)) "__init__")&&(sH (.builtin "object.__getattribute__") (findIn K (.ref (iM c)) "__getattribute__") &&
 (yX (findIn K (.ref (iM c)) "__getattr__")&&(sH (.builtin "object.__setattr__") (findIn K (.ref (iM c)) "__setattr__")&&(plainOver K (iM c)&&(hasDictIn K (iM c) &&
 (((fC c).all fun f=>yX (findIn K (.ref (iM c)) f.str))&&keepIn K (.ref (iM c)))))))))
noncomputable def xB (K:Frag):Bool:=yW K g8&&(qP.all (nq K)&&(sI K .gB&&(sI K .dR&&(sI K .jd&&(sI K .fS&&sH (.ref 329) (findIn K (.ref 332) (Fn.pi).str))))))
noncomputable def sJ:Program:=view pw [101]
noncomputable def vJ:List Str:=["V_REF","V_STRUCT","V_PLACE","PL_LOCAL","PL_ARG","PL_HEAP","PL_STATIC","get_path","put_path","refs_in","move_value","move_plain","move_struct","FIRST_ADDRESS","HEAD_WORDS","LEAST_SIZE","TOP_GEN","words_for","Thing","Heap","heap_alloc","used_words","note_collected","find_thing","slot_word","slot_at","read_slot","holds_reference","card_number","store_slot","write_slot","words_of","push_word","push_value","drain","old_slots","mark","reach_more","mark_card","refers_younger","younger_slots","renew_cards","H_SHORT","H_LONG","H_STRONG","ROW_SORT","ROW_ADDR","ROW_ALIVE","strong_values","found_dead","clear_handles","move_handles","pick_finals","end_of_older","plan_moves","Words","moved_word","stays","moved_values","new_lists","put_lists","moved_addrs","settle_thing","settle_things","move_all","root_lists","find_living","collect","KEEP_PLACE","PlaceHost","path_of","slots_of","index_of","read_whole","read_place","write_place","_law_draw","_law_lay","_law_show","_law_refs","_law_value","_law_path","_law_make","_law_spot","_law_get","_law_put","_law_ask","_law_write","_law_collect","_law_stands","_law_drop","_law_round"].map Str.ofString
noncomputable def M9:List Nat:=[3,20,21,27,28,34,35,41,42,48,49,55,56,62,63,76,77,79,80,97,98,100,101,111,112,118,119,125,126,132,133,139,140,146,147,153,154,160,161,167,168,174,175,181,182,188,189,195,196,202,203,209,210,216,217,223,224,230,231,237,238,244,245,251,252,258,259,265,266,272,273,279,280,286,287,293,294,300,301,307,308,321,322,328,329,331,332,342,343,349,350,356,357,363,364,370,371,377,378,384,385,391,392,398,399,405,406,412,413,419,420,433,434,436,437,447,448,454,455,461,462,468,469,475,476,482,483,489,490,496,497,503,504,510,511,517,518,524,525,529,530,536,537,543,544,550,551,557,558,564,565,569,570,574,575,581,582,588,589,593,594]
noncomputable def l9:List Obj->Nat->List Nat->Frag
 | o::l,i,n::ns=>match Nat.beq i n with
  | true=>(match o.data with | .freed=>l9 l (i+1) ns | _=>(i,o)::l9 l (i+1) ns)
  | false=>l9 l (i+1) (n::ns)
 | _,_,_=>[]
noncomputable def fragOf (h:Heap):Frag:=l9 h.objs.toList 0 M9
noncomputable def Yf (s:Shared):Bool × List (Option pj):=(xB (fragOf s.heap),qP.map (fnX (fragOf s.heap)))
noncomputable def Ya (w:World):Bool × List (Option pj):=(true,pk.map qQ)
set_option maxRecDepth 8000
set_option maxRecDepth 100000
theorem Na:∀ w:World,((((Fast.tw10274390034422433532 Fast.tw14364793385576792824 (opening pw) w 7080 (Fast.tw1435165496053646825 (opening pw)).1 (Fast.tw1435165496053646825 (opening pw)).2).bind (Fast.tw14289696077712309145 pw)).bind fun il =>
  (match il.heap.isNs mainGlobals&&il.gens.size==0 with
  | true=>(Fast.tw14082659384304107361 Fast.tw14364793385576792824 pw w il.heap.objs.size (Fast.tw8920871248978507458 il.heap mainGlobals "__annotations__") 7080 il (topStub pw)).bind fun aG =>
    (match staticsOk (Fast.tw5923862056798008813 pw.main.body) il.heap aG.heap&&namesBound pw aG.heap&&gensDone aG&&laidKept il.heap aG.heap with
    | true=>some aG
    | false=>none)
  | false=>none)).map (fun s=>(Fast.tw4187177175401517315 sJ vJ (Fast.tw5923862056798008813 pw.main.body) (fun Y=>true) true s,Yf s)))=some (openGood sJ vJ,Ya w):=by
 intro w
 kernel_rfl
theorem left:LeftO pw sJ vJ (fun Y=>true) Yf Ya 7080:=fun w=>by
 have h:=Na w
 rw [<- Fast.te10274390034422433532,<- Fast.te14364793385576792824,<- Fast.te1435165496053646825,<- Fast.te14289696077712309145,<- Fast.te14082659384304107361,<- Fast.te8920871248978507458,<- Fast.te5923862056798008813,<- Fast.te4187177175401517315] at h
 exact h
theorem Nb:Fast.tw12908688711261696721 pw=true:=by
 delta Fast.tw12908688711261696721
 dsimp only
 repeat' (with_reducible refine look_both ?_ ?_)
 all_goals decide +kernel
theorem Nc:Fast.tw17960256430627541270 (Fast.tw2368527892694137696 PySem.Challenge.rw_xm0289_01)=true:=by
 delta Fast.tw17960256430627541270 Fast.tw2436336058641802641
 dsimp only
 repeat' (with_reducible refine look_both ?_ ?_)
 ·exact Nb
 all_goals decide +kernel
theorem Nd:Fast.tw9446332074065402090 PySem.Challenge.rw_xm0289_01=true:=by
 delta Fast.tw9446332074065402090
 dsimp only
 repeat' (with_reducible refine look_both ?_ ?_)
 ·exact Nc
 all_goals decide +kernel
theorem Nf:PySem.Challenge.rw_xm0289_01.wellSaid=true:=(congrFun Fast.te9446332074065402090 PySem.Challenge.rw_xm0289_01).trans Nd
set_option maxRecDepth 8000
structure St (C:Cx) (ι:bf) (σ:AH) (s:Shared):Prop where
 hr:HR C ι σ s.heap
 gens:s.gens=#[]
 os:s.os=C.os
structure Rm (A:Around) (n:Nat):Prop where
 bP:A.handled=none
 depth:A.depth+3*n<=900
 units:A.units+20*n<=9000
noncomputable def bY (C:Cx) (ι:bf) (h:Heap) (Q:AV->AH->Prop) (cv:Value) (s':Shared):Prop :=
 ∃ v V aK,Ext ι h aK s'.heap/\St C aK V s'/\VR aK s'.heap v cv/\Q v V
noncomputable def nr (C:Cx) (ι:bf) (h:Heap) (Q:AH->Prop) (s':Shared):Prop :=
 ∃ V aK,Ext ι h aK s'.heap/\St C aK V s'/\Q V
theorem bY.trans {C:Cx} {ι aK:bf} {h h':Heap} {Q:AV->AH->Prop} {cv:Value} {s':Shared} (x:Ext ι h aK h') (p:bY C aK h' Q cv s'):bY C ι h Q cv s' :=
 let ⟨v,V,sK,e,r⟩:=p;(l5 v V sK (x.trans e) r)
theorem nr.trans {C:Cx} {ι aK:bf} {h h':Heap} {Q:AH->Prop} {s':Shared} (x:Ext ι h aK h') (p:nr C aK h' Q s'):nr C ι h Q s' :=
 let ⟨V,sK,e,r⟩:=p;(jb V sK (x.trans e) r)
section
variable {C:Cx} {ι:bf} {σ:AH} {s:Shared} {A:Around} {E:Value->Shared->Prop} {n:Nat}
theorem St.here (S:St C ι σ s) {v:AV} {cv:Value} {Q:AV->AH->Prop} (hv:VR ι s.heap v cv) (q:Q v σ):bY C ι s.heap Q cv s :=
 (cF v σ ι (Ext.refl _ _) S hv q)
theorem St.tok (S:St C ι σ s) (t:Nat):St C ι σ { s with toks:=t }:=⟨S.hr,S.gens,S.os⟩
theorem St.kx (S:St C ι σ s) {i:Int} {tk t:Nat} {Q:AV->AH->Prop} (q:Q (.int i) σ):bY C ι s.heap Q (.int i tk) { s with toks:=t } :=
 (cF (.int i) σ ι (Ext.refl _ _) (S.tok t) (by simp only [VR];exact (aQ tk rfl)) q)
theorem St.jD (S:St C ι σ s) {b:Bool} {Q:AV->AH->Prop} (q:Q (.bool b) σ):bY C ι s.heap Q (.bool b) s :=
 (cF (.bool b) σ ι (Ext.refl _ _) S (by simp only [VR]) q)
theorem St.Ng (S:St C ι σ s) {Q:AV->AH->Prop} (q:Q .none σ):bY C ι s.heap Q .none s :=
 (cF (.none) σ ι (Ext.refl _ _) S (by simp only [VR]) q)
theorem VR.int_inv {ι:bf} {h:Heap} {i:Int} {v:Value} (e:VR ι h (.int i) v):∃ t,v=.int i t:=by simpa only [VR] using e
theorem VR.bool_inv {ι:bf} {h:Heap} {b:Bool} {v:Value} (e:VR ι h (.bool b) v):v=.bool b:=by simpa only [VR] using e
theorem VR.none_inv {ι:bf} {h:Heap} {v:Value} (e:VR ι h .none v):v=.none:=by simpa only [VR] using e
theorem VR.pl {ι:bf} {h:Heap} {i:Nat} {v:Value} (e:VR ι h (.ref i) v):∃ p,ι[i]?=some p/\v=.ref p.1:=by simpa only [VR] using e
theorem VR.jE {ι:bf} {h:Heap} {l:List AV} {v:Value} (e:VR ι h (.tup l) v):∃ a vs,v=.ref a/\h.IsTuple a vs/\l.length<=1000000/\aI ι h l vs.toList:=by simpa only [VR] using e
theorem St.list (S:St C ι σ s) {i:Nat} {v:Value} {l:List AV} (hv:VR ι s.heap (.ref i) v) (hi:σ[i]?=some (.list l)) :
  ∃ a vs,v=.ref a/\ι[i]?=some (a,a)/\s.heap.PlainList a vs/\l.length<=1000000/\aI ι s.heap l vs.toList:=by
 (refine au ?_ (hv.pl);rintro p hp rfl)
 have ho:=S.hr.obj i _ p hi hp
 (revert ho;refine u9 ?_;intro e hl vs h1 h2)
 obtain ⟨a,b⟩:=p
 obtain rfl:b=a:=e
 exact (ML b vs rfl hp h1 hl h2)
theorem St.an (S:St C ι σ s) {i:Nat} {v:Value} {l:List (Int × AV)} (hv:VR ι s.heap (.ref i) v) (hi:σ[i]?=some (.an l)) :
  ∃ a kvs,v=.ref a/\ι[i]?=some (a,a)/\s.heap.DictOf (intKind C.prog C.w) a kvs/\l.length<=1000000/\kvs.map (·.1)=l.map (·.1)/\aI ι s.heap (l.map (·.2)) (kvs.map (·.2)):=by
 (refine au ?_ (hv.pl);rintro p hp rfl)
 have ho:=S.hr.obj i _ p hi hp
 (revert ho;refine qG ?_;intro e hl vs h1 h2 h3)
 obtain ⟨a,b⟩:=p
 obtain rfl:b=a:=e
 exact (vg b vs rfl hp h1 hl h2 h3)
theorem St.bl (S:St C ι σ s) {i:Nat} {v:Value} {l:List (Nm × AV)} (hv:VR ι s.heap (.ref i) v) (hi:σ[i]?=some (.bl l)) :
  ∃ a kvs,v=.ref a/\ι[i]?=some (a,a)/\s.heap.DictOf (strKind C.prog C.w) a kvs/\l.length<=1000000/\kvs.map (·.1)=l.map (fun x=>x.1.str)/\aI ι s.heap (l.map (·.2)) (kvs.map (·.2)):=by
 (refine au ?_ (hv.pl);rintro p hp rfl)
 have ho:=S.hr.obj i _ p hi hp
 (revert ho;refine qG ?_;intro e hl vs h1 h2 h3)
 obtain ⟨a,b⟩:=p
 obtain rfl:b=a:=e
 exact (vg b vs rfl hp h1 hl h2 h3)
theorem St.inst (S:St C ι σ s) {i:Nat} {v:Value} {c:Cl} {l:List (Nm × AV)} (hv:VR ι s.heap (.ref i) v) (hi:σ[i]?=some (.inst c l)) :
  ∃ a d mA,v=.ref a/\ι[i]?=some (a,d)/\d≠a/\s.heap.get? a=some (instObj (C.ca c) d)/\s.heap.Ns1 d mA/\Within mA ((fC c).map Nm.str)/\∀ f v,fT l f=some v->∃ cv,mA f.str=some cv/\VR ι s.heap v cv:=by
 (refine au ?_ (hv.pl);rintro p hp rfl)
 have ho:=S.hr.obj i _ p hi hp
 (revert ho;refine qG ?_;intro e h1 mA h2 h3 h4)
 exact (sm p.1 p.2 mA rfl hp e h1 h2 h3 h4)
theorem qR {l:List AV} {vs:Array Value} (hl:l.length<=1000000) (h:aI ι s.heap l vs.toList):vs.size<=1000000:=by
 have:=h.length
 rw [Array.length_toList] at this
 lia
theorem vK {k:Nat} (h:k<=1000000):k<=sizeLine:=by refine U sizeLine_eq ?_;lia
theorem St.vL (S:St C ι σ s) {i:Nat} {a:Addr} {l:List AV} {h':Heap} {vs:Array Value} (hi:ι[i]?=some (a,a)) (hs:Heap.SameBut a s.heap h') (hp:h'.PlainList a vs) (hl:l.length<=1000000)
  (hr:aI ι s.heap l vs.toList):Ext ι s.heap ι h'/\∀ t,St C ι (σ.set i (.list l)) { s with heap:=h',toks:=t }:=by
 have hk:∀ b o,b≠a->b≠a->s.heap.get? b=some o->h'.get? b=some o:=fun b o hb Y e=>(hs.2 b hb).trans e
 have tx:cH ι s.heap ι h':=⟨fun Y Y e=>e,fun b vs ht=>by
  have hn:=S.hr.noOwn ht
  (revert ht;refine au ?_;intro o ho q)
  exact (aB o ((hs.2 b (fun e=>hn (e ▸ (b7.of_get hi).1))).trans ho) q)⟩
 (refine ay ?_ (S.hr.upd (ao:=.list l) hi hk (oZ rfl hl vs hp (aI.mono tx _ hr)));intro x y)
 exact ⟨y,fun t=>⟨x,S.gens,S.os⟩⟩
theorem Nh {i:Nat} {l:List AV} {a:AV} {c v:Value} {Q:AV->AH->Prop} (S:St C ι σ s) (hc:VR ι s.heap (.ref i) c) (hi:σ[i]?=some (.list l)) (hv:VR ι s.heap a v) (hn:l.length<1000000)
  (q:Q .none (σ.set i (.list (l++[a])))):wpAny (model C.prog C.w) A (call (.builtin "list.append") [c,v]) (bY C ι s.heap Q) E s:=by
 (refine lq ?_ (S.list hc hi);rintro b vs rfl hp hl bC hr)
 refine wpAny_list_append_plain hl (fun h' pq hs=>?_) (vK (qR bC hr))
 (refine ay ?_ (S.vL (l:=l++[a]) hp hs pq (by simp;lia) (by refine U Array.toList_push ?_;exact hr.append (aI.one hv)));intro x y)
 exact (cF (.none) _ ι x (y s.toks) (by simp only [VR]) q)
theorem Ni {i:Nat} {l:List AV} {a:AV} {c:Value} {Q:AV->AH->Prop} (S:St C ι σ s) (hc:VR ι s.heap (.ref i) c) (hi:σ[i]?=some (.list (l++[a])))
  (q:Q a (σ.set i (.list l))):wpAny (model C.prog C.w) A (call (.builtin "list.pop") [c]) (bY C ι s.heap Q) E s:=by
 (refine nh ?_ (S.list hc hi);rintro b vs rfl hp n hl bC hr)
 have hz:=qR bC hr
 have Nj:=hr.length
 rw [Array.length_toList,List.length_append,List.length_singleton] at Nj
 (refine au ?_ (hr.get (i:=l.length) (a:=a) (by simp));intro y hy je)
 rw [Array.getElem?_toList] at hy
 have pr:vs.size - 1=l.length:=by lia
 have aS:vs.size - 1<vs.size:=by lia
 refine call_meets PySem.F.slot_list_pop (aB _ hl rfl) PySem.F.entry_list_pop (PySem.F.args_list_pop_1 _) (PySem.MeetsSeq.list_pop_last b vs n y (by refine U pr ?_;exact hy) (vK hz)) ⟨hl,?_⟩
 have he:vs.eraseIdxIfInBounds (vs.size - 1)=vs.pop:=by
  unfold Array.eraseIdxIfInBounds
  refine U (dif_pos aS ..) ?_
  apply Array.toList_inj.mp
  exact U Array.toList_eraseIdx (U Array.toList_pop (U List.dropLast_eq_take (U (List.eraseIdx_eq_take_drop_succ ..) (U (Array.length_toList ..) (U (List.drop_eq_nil_of_le (by rw [Array.length_toList];lia) ..) (U (List.append_nil ..) rfl))))))
 have ky:(s.heap.update b (Obj.mapSeq fun xs=>xs.eraseIdxIfInBounds (vs.size - 1))).get? b=some { cls:=.type "list",data:=.seq vs.pop (n+1) }:=by
  have e0:Obj.mapSeq (fun xs=>xs.eraseIdxIfInBounds (vs.size - 1)) { cls:=.type "list",data:=.seq vs n }={ cls:=.type "list",data:=.seq vs.pop (n+1) }:=by
   simp only [Obj.mapSeq,he]
   exact U (if_neg (by simp [Array.size_pop];lia) ..) rfl
  exact U (Heap.get?_update_self _ hl (by rw [e0];rfl) ..) (U e0 rfl)
 obtain ⟨x,yy⟩:=S.vL (l:=l) hp (Heap.SameBut.update ..) (aQ _ ky) (by simp at bC;lia) (by
  refine U Array.toList_pop (U List.dropLast_eq_take (U Array.length_toList (U pr ?_)))
  have:=hr.take l.length
  rwa [List.take_left] at this)
 exact (cF a _ ι x (yy s.toks) (VR.mono (x.cI S.hr) a je) q)
end
noncomputable def vM (l:List AV) (i:Int):Option AV:=if 0<=i then l[i.toNat]? else if i = -1 then l.getLast? else none
noncomputable def gC (σ:AH):AV->AV->Option AV
 | .tup l,.int i=>if 0<=i then l[i.toNat]? else none
 | .ref r,.int i=>match σ[r]? with
  | some (.list l)=>vM l i
  | some (.an l)=>bL l i
  | _=>none
 | _,_=>none
noncomputable def gR (σ:AH) (a:AV) (f:Nm):Option AV:=match a with
 | .ref r=>(match σ[r]? with
  | some (.bl l)=>fT l f
  | _=>none)
 | _=>none
noncomputable def gD (σ:AH) (a:AV) (f:Nm):Option AV:=match a with
 | .ref r=>(match σ[r]? with
  | some (.inst _ l)=>fT l f
  | _=>none)
 | _=>none
noncomputable def jF (σ:AH):AV->Option Int
 | .tup l=>some l.length
 | .ref r=>(match σ[r]? with
  | some (.list l)=>some l.length
  | _=>none)
 | _=>none
theorem yY {p:Prop} [Decidable p] {α:Type} {a b c:α} {G:Prop} (h:(if p then a else b)=c) (k:p->a=c->G) (k':¬p->b=c->G):G:=by
 by_cases z:p
 ·exact k z ((if_pos z).symm.trans h)
 ·exact k' z ((if_neg z).symm.trans h)
theorem Gf {α:Type} {v:α} {o:Option AO} {K:Cl->List (Nm × AV)->Option α} {G:Prop} (h:(match o with | some (.inst c l)=>K c l | _=>none)=some v) (k:∀ c l,o=some (.inst c l)->K c l=some v->G):G:=by
 induction o with
 | none=>exact aZ h
 | some a=>induction a with
  | inst c l=>exact k c l rfl h
  | _=>exact aZ h
theorem Gg {α:Type} {v:α} {o:Option AO} {K:List (Nm × AV)->Option α} {G:Prop} (h:(match o with | some (.bl l)=>K l | _=>none)=some v) (k:∀ l,o=some (.bl l)->K l=some v->G):G:=by
 induction o with
 | none=>exact aZ h
 | some a=>induction a with
  | bl l=>exact k l rfl h
  | _=>exact aZ h
theorem Nk {α:Type} {v:α} {o:Option AO} {K:List AV->Option α} {G:Prop} (h:(match o with | some (.list l)=>K l | _=>none)=some v) (k:∀ l,o=some (.list l)->K l=some v->G):G:=by
 induction o with
 | none=>exact aZ h
 | some a=>induction a with
  | list l=>exact k l rfl h
  | _=>exact aZ h
theorem Nl {α:Type} {v:α} {o:Option AO} {K:List AV->Option α} {K':List (Int × AV)->Option α} {G:Prop} (h:(match o with | some (.list l)=>K l | some (.an l)=>K' l | _=>none)=some v) (k:∀ l,o=some (.list l)->K l=some v->G) (k':∀ l,o=some (.an l)->K' l=some v->G):G:=by
 induction o with
 | none=>exact aZ h
 | some a=>induction a with
  | list l=>exact k l rfl h
  | an l=>exact k' l rfl h
  | _=>exact aZ h
theorem sL {slice:Expr} (h:∀ a b p,slice≠.Slice a b none p) (o i:Value):subscripted slice false o i=operate [o,i] (getItem o i):=by
 induction slice using Expr.casesOn with
 | Slice a b st p =>
  induction st with
  | none=>exact absurd rfl (h a b p)
  | some _=>rfl
 | _=>rfl
section
variable {C:Cx} {ι:bf} {σ:AH} {s:Shared} {A:Around} {E:Value->Shared->Prop} {n:Nat}
theorem mc {κ K:Type} [DecidableEq κ] [DecidableEq K] (f:κ->K) (hf:∀ a b,f a=f b->a=b) {h:Heap}:∀ {l:List (κ × AV)} {kvs:List (K × Value)},kvs.map (·.1)=l.map (fun x=>f x.1)->aI ι h (l.map (·.2)) (kvs.map (·.2))->∀ (k:κ),
  (∀ a,(l.find? fun kv=>kv.1=k).map (·.2)=some a->∃ v,valueAt kvs (f k)=some v/\VR ι h a v)/\((l.find? fun kv=>kv.1=k).map (·.2)=Option.none->valueAt kvs (f k)=Option.none)
 | [],kvs,e,r,k=>by
  have:kvs=[]:=by induction kvs using List.casesOn with | nil=>rfl | cons _ _=>exact (noConfusion_of_Nat List.ctorIdx e).elim
  subst this
  exact ⟨fun a h=>(by exact aZ h),fun Y=>rfl⟩
 | (k',a')::l,kvs,e,r,k=>by
  induction kvs using List.casesOn with
  | nil=>exact (noConfusion_of_Nat List.ctorIdx e).elim
  | cons kv kvs =>
   simp only [List.map_cons,List.cons.injEq] at e
   simp only [List.map_cons,aI] at r
   (revert r;refine cW ?_;intro v fB e1 r1 r2)
   simp only [List.cons.injEq] at e1
   (revert e1;refine ay ?_;rintro rfl rfl)
   have ih:=mc f hf (l:=l) (kvs:=kvs) e.2 r2 k
   unfold valueAt at ih ⊢
   by_cases hk:k'=k
   ·subst hk
    simp only [List.find?_cons,decide_true,Option.map_some,e.1]
    exact ⟨fun a h=>(by (revert h;refine si ?_;rintro rfl);exact (aB _ rfl r1)),fun h=>(by exact dQ h)⟩
   ·have md:¬ kv.1=f k:=fun q=>hk (hf _ _ (by exact aT e.1 (U q rfl)))
    simp only [List.find?_cons,decide_eq_false hk,decide_eq_false md]
    exact ih
theorem Gh {κ K:Type} [DecidableEq κ] [DecidableEq K] (f:κ->K) (hf:∀ a b,f a=f b->a=b) {h:Heap} {l:List (κ × AV)} {kvs:List (K × Value)} (e:kvs.map (·.1)=l.map (fun x=>f x.1)) (r:aI ι h (l.map (·.2)) (kvs.map (·.2))) (k:κ) {a:AV} {v:Value} (hv:VR ι h a v) :
  (stored kvs (f k) v).map (·.1)=(if l.any (fun kv=>kv.1=k) then l.map (fun kv=>if kv.1=k then (kv.1,a) else kv) else l++[(k,a)]).map (fun x=>f x.1) /\
  aI ι h ((if l.any (fun kv=>kv.1=k) then l.map (fun kv=>if kv.1=k then (kv.1,a) else kv) else l++[(k,a)]).map (·.2)) ((stored kvs (f k) v).map (·.2)):=by
 have gS:(kvs.any fun kv=>decide (kv.1=f k))=l.any fun kv=>decide (kv.1=k):=by
  have h1:(kvs.any fun kv=>decide (kv.1=f k))=(kvs.map (·.1)).any fun x=>decide (x=f k):=by refine U List.any_map ?_;rfl
  have h2:(l.any fun kv=>decide (kv.1=k))=(l.map (fun x=>f x.1)).any fun x=>decide (x=f k):=by
   refine U List.any_map ?_
   congr 1
   funext x
   simp only [Function.comp]
   exact decide_eq_decide.mpr ⟨fun q=>by exact U q rfl,hf _ _⟩
  exact U h1 (U e (aT h2 rfl))
 have yZ:∀ {l:List (κ × AV)} {kvs:List (K × Value)},kvs.map (·.1)=l.map (fun x=>f x.1)->aI ι h (l.map (·.2)) (kvs.map (·.2)) ->
   (kvs.map fun kv=>if kv.1=f k then (kv.1,v) else kv).map (·.1)=(l.map fun kv=>if kv.1=k then (kv.1,a) else kv).map (fun x=>f x.1) /\
   aI ι h ((l.map fun kv=>if kv.1=k then (kv.1,a) else kv).map (·.2)) ((kvs.map fun kv=>if kv.1=f k then (kv.1,v) else kv).map (·.2)):=by
  intro l
  induction l with
  | nil =>
   intro kvs e r
   have:kvs=[]:=by induction kvs using List.casesOn with | nil=>rfl | cons _ _=>exact (noConfusion_of_Nat List.ctorIdx e).elim
   subst this
   exact ⟨rfl,by simp [aI]⟩
  | cons x l ih =>
   intro kvs e r
   induction kvs using List.casesOn with
   | nil=>exact (noConfusion_of_Nat List.ctorIdx e).elim
   | cons kv kvs =>
    simp only [List.map_cons,List.cons.injEq] at e
    simp only [List.map_cons,aI] at r
    (revert r;refine cW ?_;intro v0 fB e1 r1 r2)
    simp only [List.cons.injEq] at e1
    (revert e1;refine ay ?_;rintro rfl rfl)
    (refine ay ?_ (ih e.2 r2);intro i1 i2)
    by_cases hk:x.1=k
    ·have md:kv.1=f k:=by exact U e.1 (U hk rfl)
     simp only [List.map_cons,if_pos hk,if_pos md,List.cons.injEq,aI]
     exact (Fg ⟨by exact U e.1 rfl,i1⟩ _ _ ⟨rfl,rfl⟩ hv i2)
    ·have md:¬ kv.1=f k:=fun q=>hk (hf _ _ (by exact aT e.1 (U q rfl)))
     simp only [List.map_cons,if_neg hk,if_neg md,List.cons.injEq,aI]
     exact (Fg ⟨e.1,i1⟩ _ _ ⟨rfl,rfl⟩ r1 i2)
 unfold stored
 refine U gS ?_
 induction ha:l.any fun kv=>decide (kv.1=k) with
 | true=>simp only [if_true];exact yZ e r
 | false =>
  simp only [Bool.false_eq_true,if_false,List.map_append,List.map_cons,List.map_nil]
  exact ⟨by exact U e rfl,aI.append r (aI.one hv)⟩
set_option tactic.hygienic true in
theorem Nn {i:Int} {k:Nat} (h0:0<=i) (h:i.toNat<k):seqIndex? i k=some i.toNat:=by
 unfold seqIndex?
 have h1:¬ i<0:=by lia
 simp only [h1,if_false]
 exact U (if_pos (by simp only [Bool.and_eq_true,decide_eq_true_eq];lia) ..) rfl
set_option tactic.hygienic true in
theorem No {value slice:Expr} {a b v:AV} {o i:Value} {Q:AV->AH->Prop} (S:St C ι σ s) (ho:VR ι s.heap a o) (hi:VR ι s.heap b i) (hv:gC σ a b=some v)
  (fD:∀ a b p,slice≠.Slice a b Option.none p) (q:Q v σ):wpAny (model C.prog C.w) A (subscriptTail value slice o i) (bY C ι s.heap Q) E s:=by
 induction a using AV.casesOn with
 | tup l =>
  induction b using AV.casesOn with
  | int k =>
   (refine aM ?_ (hi.int_inv);rintro t rfl)
   (refine eV ?_ (ho.jE);rintro a vs rfl ht hl hr)
   refine yY hv ?_ fun _=>aZ
   ·intro h0 hv
    (refine au ?_ (hr.get hv);intro y hy je)
    have hz:=qR hl hr
    have aS:=(List.getElem?_eq_some_iff.mp hy).1
    rw [Array.length_toList] at aS
    rw [Array.getElem?_toList] at hy
    exact tail_any ht.typeIs slot_tuple_getitem.lookup (PyProof.Rows.getItem_tuple (u:=t) ht (by lia) (by lia) (Nn h0 aS) hy (S.here je q)) (sL fD _ _)
  | _=>exact aZ hv
 | ref r =>
  induction b using AV.casesOn with
  | int k =>
   (refine aM ?_ (hi.int_inv);rintro t rfl)
   refine Nl hv ?_ ?_
   ·intro l bm hv
    (refine lq ?_ (S.list ho bm);rintro a vs rfl hp dj hl hr)
    have hz:=qR hl hr
    refine yY hv ?_ ?_
    ·intro h0 hv
     (refine au ?_ (hr.get hv);intro y hy je)
     rw [Array.getElem?_toList] at hy
     have aS:=(Array.getElem?_eq_some_iff.mp hy).1
     exact tail_any dj.isList.typeIs slot_list_getitem.lookup (wpAny_getItem_list dj.isList h0 (by lia) hy (S.here je q)) (sL fD _ _)
    ·intro h0 hv
     refine yY hv ?_ fun _=>aZ
     ·intro h1 hv
      subst h1
      have bC:=hr.length
      rw [Array.length_toList] at bC
      have bu:l≠[]:=by rintro rfl;exact aZ hv
      have y0:0<l.length:=List.length_pos_iff.mpr bu
      rw [List.getLast?_eq_getElem?] at hv
      (refine au ?_ (hr.get hv);intro y hy je)
      rw [Array.getElem?_toList] at hy
      have e:((-1:Int)+(vs.size:Int)).toNat=l.length - 1:=by lia
      exact tail_any dj.isList.typeIs slot_list_getitem.lookup (wpAny_getItem_list_neg dj.isList (by decide) (by lia) (by decide) (by refine U e ?_;exact hy) (S.here je q)) (sL fD _ _)
   ·intro l bm hv
    (refine ja ?_ (S.an ho bm);rintro a kvs rfl hp hd hl hk hr)
    (refine au ?_ ((mc (fun x:Int=>x) (fun Y Y e=>e) hk hr k).1 v hv);intro y hy je)
    exact tail_any hd.typeIs slot_dict_getitem.lookup (wpAny_getItem_of (intKind_is _ _ k t) hd.mapOf hy (cF v σ ι (Ext.refl _ _) (S.tok _) je q)) (sL fD _ _)
  | _=>exact aZ hv
 | _=>exact aZ hv
set_option tactic.hygienic true in
theorem Np {value slice:Expr} {a v:AV} {f:Nm} {o:Value} {t:Tok} {Q:AV->AH->Prop} (S:St C ι σ s) (ho:VR ι s.heap a o) (hv:gR σ a f=some v)
  (fD:∀ a b p,slice≠.Slice a b Option.none p) (q:Q v σ):wpAny (model C.prog C.w) A (subscriptTail value slice o (.str f.str t)) (bY C ι s.heap Q) E s:=by
 induction a using AV.casesOn with
 | ref r =>
  refine Gg hv ?_
  ·intro l bm hv
   (refine ja ?_ (S.bl ho bm);rintro a kvs rfl hp hd hl hk hr)
   (refine au ?_ ((mc Nm.str (fun Y Y e=>Nm.str_inj e) hk hr f).1 v (by refine aT (sG ..) ?_;exact hv));intro y hy je)
   exact tail_any hd.typeIs slot_dict_getitem.lookup (wpAny_getItem_of (strKind_is _ _ f.str t) hd.mapOf hy (cF v σ ι (Ext.refl _ _) (S.tok _) je q)) (sL fD _ _)
 | _=>exact aZ hv
set_option tactic.hygienic true in
theorem Nq {a v:AV} {f:Nm} {o:Value} {t:Tok} {Q:AV->AH->Prop} (S:St C ι σ s) (ho:VR ι s.heap a o) (hv:gR σ a f=some v) (q:Q v σ) :
  wpAny (model C.prog C.w) A (getItem o (.str f.str t)) (bY C ι s.heap Q) E s:=by
 induction a using AV.casesOn with
 | ref r =>
  refine Gg hv ?_
  ·intro l bm hv
   (refine ja ?_ (S.bl ho bm);rintro a kvs rfl hp hd hl hk hr)
   (refine au ?_ ((mc Nm.str (fun Y Y e=>Nm.str_inj e) hk hr f).1 v (by refine aT (sG ..) ?_;exact hv));intro y hy je)
   exact wpAny_getItem_of (strKind_is _ _ f.str t) hd.mapOf hy (cF v σ ι (Ext.refl _ _) (S.tok _) je q)
 | _=>exact aZ hv
theorem Gi {k:Nat} (h:k<=1000000):(k:Int)<2 ^ 63:=by lia
set_option tactic.hygienic true in
theorem Nr {a:AV} {o:Value} {k:Int} {Q:AV->AH->Prop} (S:St C ι σ s) (ho:VR ι s.heap a o) (hv:jF σ a=some k) (q:Q (.int k) σ) :
  wpAny (model C.prog C.w) A (call (.builtin "len") [o]) (bY C ι s.heap Q) E s:=by
 induction a using AV.casesOn with
 | tup l =>
  (refine eV ?_ (ho.jE);rintro a vs rfl ht hl hr)
  replace hv:=Option.some.inj hv
  have bC:=hr.length
  rw [Array.length_toList] at bC
  subst hv
  refine len_tuple ht (by refine U bC ?_;exact Gi hl) ?_
  refine U bC ?_
  exact S.kx q
 | ref r =>
  refine Nk hv ?_
  ·intro l bm hv
   replace hv:=Option.some.inj hv
   (refine lq ?_ (S.list ho bm);rintro a vs rfl hp dj hl hr)
   have bC:=hr.length
   rw [Array.length_toList] at bC
   subst hv
   refine PySem.Calls.call_len_list dj.isList (by refine U bC ?_;exact Gi hl) ?_
   refine U bC ?_
   exact S.kx q
 | _=>exact aZ hv
end
section
variable {C:Cx} {ι:bf} {σ:AH} {s:Shared} {A:Around} {E:Value->Shared->Prop} {n:Nat}
theorem VR.handed {ι:bf} {h:Heap} {a:AV} {v:Value} (e:VR ι h a v):handedIn v=true:=by
 induction a using AV.casesOn with
 | none=>refine U e.none_inv ?_;rfl
 | bool b=>refine U e.bool_inv ?_;rfl
 | int i=>(refine aM ?_ (e.int_inv);rintro t rfl);rfl
 | tup l=>(refine oU ?_ (e.jE);rintro a vs rfl _);rfl
 | ref i=>(refine au ?_ (e.pl);rintro p _ rfl);rfl
theorem Gj {a v:AV} {f:Nm} {c:Cl} {l:List (Nm × AV)} {r:Nat} {o:Value} {expr:Bool} {Q:AV->AH->Prop} (S:St C ι σ s) (ho:VR ι s.heap (.ref r) o) (bm:σ[r]?=some (.inst c l)) (hv:fT l f=some v) (hf:f∈fC c) (q:Q v σ) :
  wpAny (model C.prog C.w) A (getAttr o f.str expr) (bY C ι s.heap Q) E s:=by
 (refine lY ?_ (S.inst ho bm);rintro x d mA rfl hp bu hx hn hw nu)
 (refine au ?_ (nu f v hv);intro cv pu fU)
 (refine lu ?_ (id hn);intro od es ep sM vN hk hu hm)
 have py:(es.toList.find? (·.key.isStr f.str)).map (·.val)=some cv:=by
  refine aT pu (aT (hm f.str ..) ?_)
  obtain ⟨gE⟩:=es
  simp [nsFind,findBy]
 have hl:lookIn f.str od=some (some cv):=by
  unfold lookIn
  refine U vN ?_
  dsimp only
  induction e:es.toList.find? (·.key.isStr f.str) with
  | none=>rw [e] at py;exact aZ py
  | some en=>rw [e] at py;(revert py;refine si ?_;rintro rfl);rfl
 have I:W.InstAt s.heap x (instObj (C.ca c) d) (C.ca c) (some od):=⟨hx,rfl,rfl,sM⟩
 have K:=C.cls c
 exact get_value (C.lC.keeps S.hr.keep) I K.ga (findObj_own K.dict (K.vE f hf) rfl hl) fU.handed (cF v σ ι (Ext.refl _ _) (S.tok _) fU q)
theorem Nt {l:List (Nm × AV)} {f g:Nm} {v:AV}:fT (bp l f v) g=if g=f then some v else fT l g:=by
 refine U (sG ..) (U (sG ..) ?_)
 unfold bp
 by_cases gS:(l.any fun kv=>decide (kv.1=f))=true
 ·refine U (if_pos gS ..) ?_
  by_cases hg:g=f
  ·subst hg
   refine U (if_pos rfl ..) ?_
   induction l with
   | nil=>exact du gS
   | cons x l ih =>
    by_cases hx:x.1=g
    ·simp [hx]
    ·refine U List.map_cons (U (if_neg hx ..) (U List.find?_cons ?_))
     simp only [decide_eq_false hx]
     exact ih (by simpa [hx] using gS)
  ·refine U (if_neg hg ..) ?_
   clear gS
   induction l with
   | nil=>rfl
   | cons x l ih =>
    by_cases hx:x.1=f
    ·have:¬ x.1=g:=fun e=>hg (e.symm.trans hx)
     simp only [List.map_cons,if_pos hx,List.find?_cons,decide_eq_false this]
     exact ih
    ·simp only [List.map_cons,if_neg hx,List.find?_cons]
     by_cases Gk:x.1=g
     ·simp [Gk]
     ·simp only [decide_eq_false Gk];exact ih
 ·refine U (if_neg gS ..) ?_
  have eh:∀ x∈l,¬ x.1=f:=fun x hx e=>gS (List.any_eq_true.mpr (aB x hx (by simp [e])))
  by_cases hg:g=f
  ·subst hg
   rw [if_pos rfl,List.find?_append]
   have:(l.find? fun kv=>decide (kv.1=g))=Option.none:=by
    rw [List.find?_eq_none];intro x hx;simpa using eh x hx
   refine U this ?_;simp
  ·refine U (if_neg hg ..) (U List.find?_append ?_)
   have:([(f,v)].find? fun kv=>decide (kv.1=g))=Option.none:=by
    simp only [List.find?_cons,List.find?_nil]
    exact U (decide_eq_false (fun e=>hg e.symm) ..) rfl
   exact U this (U Option.or_none rfl)
theorem Gl {v:AV} {f:Nm} {c:Cl} {l:List (Nm × AV)} {r:Nat} {o cv:Value} {Q:AH->Prop} (S:St C ι σ s) (ho:VR ι s.heap (.ref r) o) (bm:σ[r]?=some (.inst c l)) (hv:VR ι s.heap v cv) (hf:f∈fC c) (q:Q (σ.set r (.inst c (bp l f v)))) :
  wpAny (model C.prog C.w) A (setAttr o f.str cv) (fun Y=>nr C ι s.heap Q) E s:=by
 (refine lY ?_ (S.inst ho bm);rintro x d mA rfl hp bu hx hn hw nu)
 (refine lu ?_ (id hn);intro od es ep sM vN hk hu hm)
 have I:W.InstAt s.heap x (instObj (C.ca c) d) (C.ca c) (some od):=⟨hx,rfl,rfl,sM⟩
 have K:=C.cls c
 have X:=C.lC.keeps S.hr.keep
 refine set_plain X I K.sa (osa_open (s:={ s with toks:=s.toks+1 }) X I K.over (r:=none) (by unfold takerIn;refine U (K.vE f hf ..) ?_;rfl) fun b=>?_)
 (refine au ?_ (any_some K.dict);intro cd hc cG)
 refine wpAny_bind (wpAny_pure (wpAny_bind (wpAny_bind (wpAny_loadPart hx (wpAny_bind ((looks_clsIn X hc) _ _ _ _ (fun Y Y e=>e) ?_))))))
 refine U cG ?_
 refine wpAny_pure (a:=some d) (wpAny_bind (wpAny_pure (wpAny_bind ?_)))
 refine wpAny_nsSet1 hn fun h' iN hs=>?_
 have im:Within (fun y=>if y=f.str then some cv else mA y) ((fC c).map Nm.str):=by
  intro y hy
  by_cases e:y=f.str
  ·refine U e ?_;exact List.mem_map_of_mem hf
  ·dsimp only at hy;rw [if_neg e] at hy;exact hw y hy
 (refine oW ?_ (iN.count im);intro oD Yj Yk Nu Nv Nw)
 refine wpAny_bind (wpAny_lookBehind Nu (by refine U Nv ?_;exact pastItsLine_dict (Nat.le_trans Nw (by refine U (List.length_map ..) (U (sizeLine_eq ..) ?_);induction c <;> decide))) ?_)
 refine wpAny_pure ?_
 have gc:∀ b o,b≠x->b≠d->s.heap.get? b=some o->h'.get? b=some o:=fun b o Y hb e=>(hs.2 b hb).trans e
 have tx:cH ι s.heap ι h':=⟨fun Y Y e=>e,fun b vs ht=>by
  have eh:=S.hr.noOwn ht
  (revert ht;refine au ?_;intro o ho q)
  exact (aB o ((hs.2 b (fun e=>eh (e ▸ (b7.of_get hp).2))).trans ho) q)⟩
 obtain ⟨H,Y⟩:=S.hr.upd (h':=h') (ao:=.inst c (bp l f v)) hp gc (lw bu ((hs.2 x (Ne.symm bu)).trans hx) _ iN im (fun g u hg=>by
  rw [Nt] at hg
  by_cases e:g=f
  ·rw [if_pos e] at hg
   (revert hg;refine si ?_;rintro rfl)
   exact (aB cv (by exact U (if_pos (by rw [e]) ..) rfl) (VR.mono tx _ hv))
  ·rw [if_neg e] at hg
   (refine au ?_ (nu g u hg);intro u' h1 h2)
   exact (aB u' (by refine U (if_neg (fun e'=>e (Nm.str_inj e')) ..) ?_;exact h1) (VR.mono tx _ h2))))
 exact (cA _ ι Y ⟨H,S.gens,S.os⟩ q)
end
section
variable {C:Cx} {ι:bf} {σ:AH} {s:Shared} {A:Around} {E:Value->Shared->Prop} {n:Nat}
theorem St.Ny (S:St C ι σ s) {i:Nat} {a:Addr} {l:List (Int × AV)} {h':Heap} {kvs:List (Int × Value)} (hi:ι[i]?=some (a,a)) (hs:Heap.SameBut a s.heap h') (hp:h'.DictOf (intKind C.prog C.w) a kvs) (hl:l.length<=1000000)
  (hk:kvs.map (·.1)=l.map (·.1)) (hr:aI ι s.heap (l.map (·.2)) (kvs.map (·.2))):Ext ι s.heap ι h'/\∀ t,St C ι (σ.set i (.an l)) { s with heap:=h',toks:=t }:=by
 have gc:∀ b o,b≠a->b≠a->s.heap.get? b=some o->h'.get? b=some o:=fun b o hb Y e=>(hs.2 b hb).trans e
 have tx:cH ι s.heap ι h':=⟨fun Y Y e=>e,fun b vs ht=>by
  have hn:=S.hr.noOwn ht
  (revert ht;refine au ?_;intro o ho q)
  exact (aB o ((hs.2 b (fun e=>hn (e ▸ (b7.of_get hi).1))).trans ho) q)⟩
 (refine ay ?_ (S.hr.upd (ao:=.an l) hi gc (lw rfl hl kvs hp hk (aI.mono tx _ hr)));intro x y)
 exact ⟨y,fun t=>⟨x,S.gens,S.os⟩⟩
theorem St.Nz (S:St C ι σ s) {i:Nat} {a:Addr} {l:List (Nm × AV)} {h':Heap} {kvs:List (Str × Value)} (hi:ι[i]?=some (a,a)) (hs:Heap.SameBut a s.heap h') (hp:h'.DictOf (strKind C.prog C.w) a kvs) (hl:l.length<=1000000)
  (hk:kvs.map (·.1)=l.map (fun x=>x.1.str)) (hr:aI ι s.heap (l.map (·.2)) (kvs.map (·.2))):Ext ι s.heap ι h'/\∀ t,St C ι (σ.set i (.bl l)) { s with heap:=h',toks:=t }:=by
 have gc:∀ b o,b≠a->b≠a->s.heap.get? b=some o->h'.get? b=some o:=fun b o hb Y e=>(hs.2 b hb).trans e
 have tx:cH ι s.heap ι h':=⟨fun Y Y e=>e,fun b vs ht=>by
  have hn:=S.hr.noOwn ht
  (revert ht;refine au ?_;intro o ho q)
  exact (aB o ((hs.2 b (fun e=>hn (e ▸ (b7.of_get hi).1))).trans ho) q)⟩
 (refine ay ?_ (S.hr.upd (ao:=.bl l) hi gc (lw rfl hl kvs hp hk (aI.mono tx _ hr)));intro x y)
 exact ⟨y,fun t=>⟨x,S.gens,S.os⟩⟩
theorem NC {l:List (Int × AV)} {k:Int} {v:AV}:(ee l k v).length<=l.length+1:=by
 unfold ee;split <;> simp
theorem Gm {l:List (Nm × AV)} {k:Nm} {v:AV}:(bp l k v).length<=l.length+1:=by
 unfold bp;split <;> simp
theorem ND {r:Nat} {l:List (Int × AV)} {k:Int} {v:AV} {o i cv:Value} {Q:AH->Prop} (S:St C ι σ s) (ho:VR ι s.heap (.ref r) o) (hi:VR ι s.heap (.int k) i) (hv:VR ι s.heap v cv) (bm:σ[r]?=some (.an l)) (hl:l.length<1000000)
  (q:Q (σ.set r (.an (ee l k v)))):wpAny (model C.prog C.w) A (setItem o i cv) (fun Y=>nr C ι s.heap Q) E s:=by
 (refine ja ?_ (S.an ho bm);rintro a kvs rfl hp hd _ hk hr)
 (refine aM ?_ (hi.int_inv);rintro t rfl)
 have bC:kvs.length=l.length:=by have:=congrArg List.length hk;simpa using this
 refine wpAny_setItem_pairs (intKind_is _ _ k t) hd (fun h' cG hs=>?_) (by refine U sizeLine_eq ?_;lia)
 (refine ay ?_ (Gh (fun x:Int=>x) (fun Y Y e=>e) hk hr k hv);intro h1 h2)
 have:=NC (l:=l) (k:=k) (v:=v)
 (refine ay ?_ (S.Ny (l:=ee l k v) hp hs cG (by lia) h1 h2);intro x y)
 exact (cA _ ι x (y _) q)
theorem Gn {r:Nat} {l:List (Nm × AV)} {f:Nm} {t:Tok} {v:AV} {o cv:Value} {Q:AH->Prop} (S:St C ι σ s) (ho:VR ι s.heap (.ref r) o) (hv:VR ι s.heap v cv) (bm:σ[r]?=some (.bl l)) (hl:l.length<1000000)
  (q:Q (σ.set r (.bl (bp l f v)))):wpAny (model C.prog C.w) A (setItem o (.str f.str t) cv) (fun Y=>nr C ι s.heap Q) E s:=by
 (refine ja ?_ (S.bl ho bm);rintro a kvs rfl hp hd _ hk hr)
 have bC:kvs.length=l.length:=by have:=congrArg List.length hk;simpa using this
 refine wpAny_setItem_pairs (strKind_is _ _ f.str t) hd (fun h' cG hs=>?_) (by refine U sizeLine_eq ?_;lia)
 (refine ay ?_ (Gh Nm.str (fun Y Y e=>Nm.str_inj e) hk hr f hv);intro h1 h2)
 have:=Gm (l:=l) (k:=f) (v:=v)
 (refine ay ?_ (S.Nz (l:=bp l f v) hp hs cG (by lia) h1 h2);intro x y)
 exact (cA _ ι x (y _) q)
theorem NE {r:Nat} {l:List AV} {k:Int} {v:AV} {o i cv:Value} {Q:AH->Prop} (S:St C ι σ s) (ho:VR ι s.heap (.ref r) o) (hi:VR ι s.heap (.int k) i) (hv:VR ι s.heap v cv) (bm:σ[r]?=some (.list l)) (h0:0<=k) (hl:k<l.length)
  (q:Q (σ.set r (.list (l.set k.toNat v)))):wpAny (model C.prog C.w) A (setItem o i cv) (fun Y=>nr C ι s.heap Q) E s:=by
 (refine nh ?_ (S.list ho bm);rintro a vs rfl hp n dj bC hr)
 (refine aM ?_ (hi.int_inv);rintro t rfl)
 have hz:=qR bC hr
 have pr:=hr.length
 rw [Array.length_toList] at pr
 refine ki_setAt dj h0 (by lia) (by lia) ?_
 have e0:Obj.mapSeq (fun xs=>xs.setIfInBounds k.toNat cv) { cls:=.type "list",data:=.seq vs n }={ cls:=.type "list",data:=.seq (vs.setIfInBounds k.toNat cv) n }:=by
  simp [Obj.mapSeq]
 have ky:(s.heap.update a (Obj.mapSeq fun xs=>xs.setIfInBounds k.toNat cv)).get? a=some { cls:=.type "list",data:=.seq (vs.setIfInBounds k.toNat cv) n }:=by
  exact U (Heap.get?_update_self _ dj (by rw [e0];rfl) ..) (U e0 rfl)
 obtain ⟨x,y⟩:=S.vL (l:=l.set k.toNat v) hp (Heap.SameBut.update ..) (aQ _ ky) (by simpa using bC) (by
  refine U Array.toList_setIfInBounds ?_;exact hr.set _ hv)
 exact (cA _ ι x (y s.toks) q)
theorem nw (S:St C ι σ s) {i:Nat} {p:Addr × Addr} (hp:ι[i]?=some p) (hb:∃ o,C.base.get? sysModules=some o):(p.1==sysModules)=false:=by
 (revert hb;refine aM ?_;intro o ho)
 have:=S.hr.above p (List.mem_of_getElem? hp)
 rw [beq_eq_false_iff_ne]
 intro e
 rw [e,ho] at this
 exact dQ (this.1)
theorem Go {a:AV} {r:Nat} {l:List (Int × AV)} {k:Int} {o i:Value} {Q:AV->AH->Prop} (S:St C ι σ s) (ho:VR ι s.heap (.ref r) o) (hi:VR ι s.heap (.int k) i) (bm:σ[r]?=some (.an l)) (hb:∃ o,C.base.get? sysModules=some o)
  (q:Q (.bool (bL l k).isSome) σ):wpAny (model C.prog C.w) A (compareOp .In i o) (bY C ι s.heap Q) E s:=by
 (refine ja ?_ (S.an ho bm);rintro a kvs rfl hp hd _ hk hr)
 (refine aM ?_ (hi.int_inv);rintro t rfl)
 refine wpAny_in_of (intKind_is _ _ k t) (nw S hp hb) hd.mapOf ?_
 (refine ay ?_ (mc (fun x:Int=>x) (fun Y Y e=>e) hk hr k);intro h1 h2)
 have e:(valueAt kvs k).isSome=(bL l k).isSome:=by
  unfold bL
  induction hx:(l.find? fun kv=>decide (kv.1=k)).map (·.2) with
  | none=>refine U (h2 hx ..) ?_;rfl
  | some v=>(refine au ?_ (h1 v hx);intro y hy _);refine U hy ?_;rfl
 refine U e ?_
 exact (cF _ σ ι (Ext.refl _ _) (S.tok _) (by simp only [VR]) q)
theorem Gp {r:Nat} {l:List (Int × AV)} {k:Int} {o i:Value} {Q:AV->AH->Prop} (S:St C ι σ s) (ho:VR ι s.heap (.ref r) o) (hi:VR ι s.heap (.int k) i) (bm:σ[r]?=some (.an l)) (hb:∃ o,C.base.get? sysModules=some o)
  (q:Q (.bool (!(bL l k).isSome)) σ):wpAny (model C.prog C.w) A (compareOp .NotIn i o) (bY C ι s.heap Q) E s:=by
 (refine ja ?_ (S.an ho bm);rintro a kvs rfl hp hd _ hk hr)
 (refine aM ?_ (hi.int_inv);rintro t rfl)
 refine wpAny_notIn_of (intKind_is _ _ k t) (nw S hp hb) hd.mapOf ?_
 (refine ay ?_ (mc (fun x:Int=>x) (fun Y Y e=>e) hk hr k);intro h1 h2)
 have e:(valueAt kvs k).isSome=(bL l k).isSome:=by
  unfold bL
  induction hx:(l.find? fun kv=>decide (kv.1=k)).map (·.2) with
  | none=>refine U (h2 hx ..) ?_;rfl
  | some v=>(refine au ?_ (h1 v hx);intro y hy _);refine U hy ?_;rfl
 refine U e ?_
 exact (cF _ σ ι (Ext.refl _ _) (S.tok _) (by simp only [VR]) q)
theorem NF {r:Nat} {l:List (Int × AV)} {k:Int} {o i dv:Value} {d:AV} {Q:AV->AH->Prop} (S:St C ι σ s) (ho:VR ι s.heap (.ref r) o) (hi:VR ι s.heap (.int k) i) (bm:σ[r]?=some (.an l)) (hb:∃ o,C.base.get? sysModules=some o)
  (hd:VR ι s.heap d dv) (q:Q ((bL l k).getD d) σ):wpAny (model C.prog C.w) A (call (.builtin "dict.get") [o,i,dv]) (bY C ι s.heap Q) E s:=by
 (refine ja ?_ (S.an ho bm);rintro a kvs rfl hp sN _ hk hr)
 (refine aM ?_ (hi.int_inv);rintro t rfl)
 refine call_meetsIn PySem.F.slot_dict_get sN.typeIs PySem.F.entry_dict_get (PySem.F.args_dict_get_3 _ _ _) (meets_dict_get_default (intKind C.prog C.w) a (intKind_is _ _ k t) (nw S hp hb) dv) (aB _ sN.mapOf ?_)
 (refine ay ?_ (mc (fun x:Int=>x) (fun Y Y e=>e) hk hr k);intro h1 h2)
 unfold bL at q
 induction hx:(l.find? fun kv=>decide (kv.1=k)).map (·.2) with
 | none=>rw [hx] at q;refine U (h2 hx ..) ?_;exact (cF _ σ ι (Ext.refl _ _) (S.tok _) hd q)
 | some v=>(refine au ?_ (h1 v hx);intro y hy y7);rw [hx] at q;refine U hy ?_;exact (cF _ σ ι (Ext.refl _ _) (S.tok _) y7 q)
theorem NG {r:Nat} {l:List (Int × AV)} {k:Int} {o i:Value} {Q:AV->AH->Prop} (S:St C ι σ s) (ho:VR ι s.heap (.ref r) o) (hi:VR ι s.heap (.int k) i) (bm:σ[r]?=some (.an l)) (hb:∃ o,C.base.get? sysModules=some o)
  (q:Q ((bL l k).getD .none) σ):wpAny (model C.prog C.w) A (call (.builtin "dict.get") [o,i]) (bY C ι s.heap Q) E s:=by
 (refine ja ?_ (S.an ho bm);rintro a kvs rfl hp sN _ hk hr)
 (refine aM ?_ (hi.int_inv);rintro t rfl)
 refine call_meetsIn PySem.F.slot_dict_get sN.typeIs PySem.F.entry_dict_get (PySem.F.args_dict_get_2 _ _) (meets_dict_get (intKind C.prog C.w) a (intKind_is _ _ k t) (nw S hp hb)) (aB _ sN.mapOf ?_)
 (refine ay ?_ (mc (fun x:Int=>x) (fun Y Y e=>e) hk hr k);intro h1 h2)
 unfold bL at q
 induction hx:(l.find? fun kv=>decide (kv.1=k)).map (·.2) with
 | none=>rw [hx] at q;refine U (h2 hx ..) ?_;exact (cF _ σ ι (Ext.refl _ _) (S.tok _) (by simp only [Option.getD,VR]) q)
 | some v=>(refine au ?_ (h1 v hx);intro y hy y7);rw [hx] at q;refine U hy ?_;exact (cF _ σ ι (Ext.refl _ _) (S.tok _) y7 q)
theorem St.alloc (S:St C ι σ s) {o:Obj} {ao:AO} (hf:o.isFreed=false) (h:OR C (ι++[(s.heap.objs.size,s.heap.objs.size)]) (s.heap.push o) (s.heap.objs.size,s.heap.objs.size) ao) :
  Ext ι s.heap (ι++[(s.heap.objs.size,s.heap.objs.size)]) (s.heap.push o)/\∀ t,St C (ι++[(s.heap.objs.size,s.heap.objs.size)]) (σ++[ao]) { s with heap:=s.heap.push o,toks:=t }:=by
 have eC:s.heap.get? s.heap.objs.size=none:=by
  induction e:s.heap.get? s.heap.objs.size with
  | none=>rfl
  | some o=>exact absurd (Heap.lt_size e) (Nat.lt_irrefl _)
 (refine ay ?_ (S.hr.alloc (h':=s.heap.push o) (ao:=ao) (fun b o e=>Heap.get?_push_of_some _ e) eC eC h);intro x y)
 exact ⟨y,fun t=>⟨x,S.gens,S.os⟩⟩
theorem sO {o:Obj} {q:Addr × Addr}:cH ι s.heap (ι++[q]) (s.heap.push o) :=
 ⟨fun i p e=>by refine U (List.getElem?_append_left (List.getElem?_eq_some_iff.mp e).1 ..) ?_;exact e,fun a vs=>au fun o ho q=>(aB o (Heap.get?_push_of_some _ ho) q)⟩
theorem sP {p:Addr × Addr} {h:Heap}:VR (ι++[p]) h (.ref ι.length) (.ref p.1):=by
 simp only [VR]
 exact (aB p (by simp) rfl)
theorem NH {l:List AV} {vs:List Value} {Q:AV->AH->Prop} (S:St C ι σ s) (hr:aI ι s.heap l vs) (hl:l.length<=1000000) (q:Q (.ref σ.length) (σ++[.list l])) :
  wpAny (model C.prog C.w) A (newList vs) (bY C ι s.heap Q) E s:=by
 have bC:=hr.length
 refine wpAny_newObj_type ?_ (by show vs.toArray.size<=sizeLine;refine U List.size_toArray (U sizeLine_eq ?_);lia)
 (refine ay ?_ (S.alloc (o:={ cls:=.type "list",data:=.seq vs.toArray }) (ao:=.list l) rfl (oZ rfl hl vs.toArray (aQ _ (Heap.get?_push_size _ rfl)) (aI.mono sO _ hr)));intro x y)
 refine (cF _ _ _ x (y s.toks) ?_ q)
 refine aT S.hr.len ?_
 exact sP
theorem NI {l:List AV} {vs:List Value} {Q:AV->AH->Prop} (S:St C ι σ s) (hr:aI ι s.heap l vs) (hl:l.length<=1000000) (q:Q (.tup l) σ) :
  wpAny (model C.prog C.w) A (newTuple vs) (bY C ι s.heap Q) E s:=by
 have bC:=hr.length
 refine wpAny_newObj_type ?_ (by show vs.toArray.size<=sizeLine;refine U List.size_toArray (U sizeLine_eq ?_);lia)
 have hk:∀ b o,s.heap.get? b=some o->(s.heap.push { cls:=.type "tuple",data:=.seq vs.toArray }).get? b=some o:=fun b o e=>Heap.get?_push_of_some _ e
 refine (cF (.tup l) σ ι (Ext.keeps hk) ⟨S.hr.keeps hk,S.gens,S.os⟩ ?_ q)
 simp only [VR]
 exact (iL _ vs.toArray rfl (sj _ (Heap.get?_push_size _ rfl) rfl _ rfl) hl (aI.mono (cH.keeps hk) _ hr))
end
inductive fE where
 | add | sub | mul | fdiv | mod | shr | pow
 deriving DecidableEq
noncomputable def fE.op:fE->Operator
 | .add=>.Add | .sub=>.Sub | .mul=>.Mult | .fdiv=>.FloorDiv | .mod=>.Mod | .shr=>.RShift | .pow=>.Pow
inductive eJ where
 | lt | le | gt | ge
 deriving DecidableEq
noncomputable def eJ.op:eJ->CmpOp
 | .lt=>.Lt | .le=>.LtE | .gt=>.Gt | .ge=>.GtE
noncomputable def eJ.rel:eJ->Int->Int->Bool
 | .lt,a,b=>decide (a<b) | .le,a,b=>decide (a<=b) | .gt,a,b=>decide (b<a) | .ge,a,b=>decide (b<=a)
theorem Gq {o p:Option AO} {K:List AV->List AV->Prop} {G:Prop} (h:match o,p with | some (.list l),some (.list m)=>K l m | _,_=>False) (k:∀ l m,o=some (.list l)->p=some (.list m)->K l m->G):G:=by
 induction o with
 | none=>exact h.elim
 | some a=>induction a with
  | list l=>induction p with
   | none=>exact h.elim
   | some b=>induction b with
    | list m=>exact k l m rfl rfl h
    | _=>exact h.elim
  | _=>exact h.elim
theorem qS {o:Option AV} {σ:AH} {K:AV->AH->Prop} {G:Prop} (h:match o with | some u=>K u σ | Option.none=>False) (k:∀ u,o=some u->K u σ->G):G:=by
 induction o with
 | none=>exact h.elim
 | some a=>exact k a rfl h
theorem y8 {o:Option AO} {K:Cl->List (Nm × AV)->Prop} {G:Prop} (h:match o with | some (.inst c l)=>K c l | _=>False) (k:∀ c l,o=some (.inst c l)->K c l->G):G:=by
 induction o with
 | none=>exact h.elim
 | some a=>induction a with
  | inst c l=>exact k c l rfl h
  | _=>exact h.elim
theorem Gs {o:Option AO} {K:List (Nm × AV)->Prop} {G:Prop} (h:match o with | some (.bl l)=>K l | _=>False) (k:∀ l,o=some (.bl l)->K l->G):G:=by
 induction o with
 | none=>exact h.elim
 | some a=>induction a with
  | bl l=>exact k l rfl h
  | _=>exact h.elim
theorem vO {o:Option AO} {K:List (Int × AV)->Prop} {G:Prop} (h:match o with | some (.an l)=>K l | _=>False) (k:∀ l,o=some (.an l)->K l->G):G:=by
 induction o with
 | none=>exact h.elim
 | some a=>induction a with
  | an l=>exact k l rfl h
  | _=>exact h.elim
theorem qT {o:Option AO} {K:List AV->Prop} {G:Prop} (h:match o with | some (.list l)=>K l | _=>False) (k:∀ l,o=some (.list l)->K l->G):G:=by
 induction o with
 | none=>exact h.elim
 | some a=>induction a with
  | list l=>exact k l rfl h
  | _=>exact h.elim
theorem NJ {o:Option AO} {K:List AV->Prop} {K':List (Int × AV)->Prop} {G:Prop} (h:match o with | some (.list l)=>K l | some (.an l)=>K' l | _=>False) (k:∀ l,o=some (.list l)->K l->G) (k':∀ l,o=some (.an l)->K' l->G):G:=by
 induction o with
 | none=>exact h.elim
 | some a=>induction a with
  | list l=>exact k l rfl h
  | an l=>exact k' l rfl h
  | _=>exact h.elim
@[elab_as_elim] theorem sQ {G:AV->AV->Prop} (a b:AV) {K:Int->Int->Prop} (h:match a,b with | .int x,.int y=>K x y | _,_=>False) (k:∀ x y,K x y->G (.int x) (.int y)):G a b:=by
 induction a using AV.casesOn with
 | int x=>induction b using AV.casesOn with
  | int y=>exact k x y h
  | _=>exact False.elim h
 | _=>exact False.elim h
theorem NK {o:Option Bool} {K:Bool->Prop} {G:Prop} (h:match o with | some u=>K u | Option.none=>False) (k:∀ u,o=some u->K u->G):G:=by
 induction o with
 | none=>exact h.elim
 | some a=>exact k a rfl h
theorem NL {o:Option Int} {K:Int->Prop} {G:Prop} (h:match o with | some u=>K u | Option.none=>False) (k:∀ u,o=some u->K u->G):G:=by
 induction o with
 | none=>exact h.elim
 | some a=>exact k a rfl h
noncomputable def iO:fE->AV->AV->AH->(AV->AH->Prop)->Prop
 | .add,.int a,.int b,σ,Q=>Q (.int (a+b)) σ
 | .add,.tup a,.tup b,σ,Q=>a.length+b.length<=1000000/\Q (.tup (a++b)) σ
 | .add,.ref i,.ref j,σ,Q=>match σ[i]?,σ[j]? with
  | some (.list a),some (.list b)=>a.length+b.length<=1000000/\Q (.ref σ.length) (σ++[.list (a++b)])
  | _,_=>False
 | .sub,.int a,.int b,σ,Q=>Q (.int (a - b)) σ
 | .mul,.int a,.int b,σ,Q=>((-(2 ^ 64)<a/\a<2 ^ 64)∨(-(2 ^ 64)<b/\b<2 ^ 64))/\Q (.int (a*b)) σ
 | .fdiv,.int a,.int b,σ,Q=>0<b/\b<2 ^ 64/\Q (.int (a / b)) σ
 | .mod,.int a,.int b,σ,Q=>0<b/\Q (.int (a % b)) σ
 | .shr,.int a,.int b,σ,Q=>0<=b/\Q (.int (a / 2 ^ b.toNat)) σ
 | .pow,.int a,.int b,σ,Q=>a=2/\0<=b/\b<=1000/\Q (.int (2 ^ b.toNat)) σ
 | _,_,_,_,_=>False
mutual
noncomputable def gf:Nat->AV->Prop
 | _,.none=>True
 | _,.bool _=>True
 | _,.int _=>True
 | 0,.tup _=>False
 | n+1,.tup l=>eZ n l
 | _,.ref _=>False
noncomputable def eZ:Nat->List AV->Prop
 | _,[]=>True
 | n,a::l=>gf n a/\eZ n l
end
mutual
noncomputable def pd:AV->PyData
 | .none=>.none
 | .bool b=>.bool b
 | .int i=>.int i
 | .tup l=>.tuple (jf l)
 | .ref _=>.none
noncomputable def jf:List AV->List PyData
 | []=>[]
 | a::l=>pd a::jf l
end
mutual
theorem y9:∀ a:AV,PyData.eqv (pd a) (pd a)=true
 | .none=>by simp [pd,PyData.eqv]
 | .bool b=>by simp [pd,PyData.eqv]
 | .int i=>by simp [pd,PyData.eqv]
 | .tup l=>by simp [pd,PyData.eqv,za l]
 | .ref _=>by simp [pd,PyData.eqv]
theorem za:∀ l:List AV,PyData.eqvAll (jf l) (jf l)=true
 | []=>by simp [jf,PyData.eqvAll]
 | a::l=>by simp [jf,PyData.eqvAll,y9 a,za l]
end
mutual
theorem zb:∀ a:AV,(pd a).canLay0=true
 | .none=>by simp [pd,PyData.canLay0]
 | .bool b=>by simp [pd,PyData.canLay0]
 | .int i=>by simp [pd,PyData.canLay0]
 | .tup l=>by simp [pd,PyData.canLay0,zc l]
 | .ref _=>by simp [pd,PyData.canLay0]
theorem zc:∀ l:List AV,PyData.canLayAll0 (jf l)=true
 | []=>by simp [jf,PyData.canLayAll0]
 | a::l=>by simp [jf,PyData.canLayAll0,zb a,zc l]
end
mutual
theorem zd:∀ (a:AV) (n:Nat),gf n a->(pd a).depth<=n
 | .none,n,_=>by simp [pd,PyData.depth]
 | .bool b,n,_=>by simp [pd,PyData.depth]
 | .int i,n,_=>by simp [pd,PyData.depth]
 | .tup l,0,h=>by simp [gf] at h
 | .tup l,n+1,h=>by
  simp only [gf] at h
  have:=ze l n h
  simp only [pd,PyData.depth]
  lia
 | .ref _,n,h=>by simp [gf] at h
theorem ze:∀ (l:List AV) (n:Nat),eZ n l->PyData.depthAll (jf l)<=n
 | [],n,_=>by simp [jf,PyData.depthAll]
 | a::l,n,h=>by
  simp only [eZ] at h
  have h1:=zd a n h.1
  have h2:=ze l n h.2
  simp only [jf,PyData.depthAll]
  exact Nat.max_le.mpr ⟨h1,h2⟩
end
mutual
theorem sR {ι:bf} {h:Heap}:∀ (a:AV) (n:Nat) {v:Value},gf n a->VR ι h a v->∃ as,Reads h v (pd a) as
 | .none,n,v,_,e=>by refine U e.none_inv ?_;exact (aQ _ (.none))
 | .bool b,n,v,_,e=>by refine U e.bool_inv ?_;exact (aQ _ (.bool b))
 | .int i,n,v,_,e=>by (refine aM ?_ (e.int_inv);rintro t rfl);exact (aQ _ (.int i t))
 | .tup l,0,v,f,e=>by simp [gf] at f
 | .tup l,n+1,v,f,e=>by
  simp only [gf] at f
  (refine MD ?_ (e.jE);rintro a vs rfl o ho hc k hd _ hr)
  (refine aM ?_ (vP l n f hr);intro as r)
  exact (aQ _ (.tuple ho hc hd r))
 | .ref _,n,v,f,e=>by simp [gf] at f
theorem vP {ι:bf} {h:Heap}:∀ (l:List AV) (n:Nat) {vs:List Value},eZ n l->aI ι h l vs->∃ as,ReadsAll h vs (jf l) as
 | [],n,vs,_,e=>by simp only [aI] at e;subst e;exact (aQ _ (.nil))
 | a::l,n,vs,f,e=>by
  simp only [eZ] at f
  simp only [aI] at e
  (revert e;refine cW ?_;rintro v fB rfl e1 e2)
  (refine aM ?_ (sR a n f.1 e1);intro as r)
  (refine aM ?_ (vP l n f.2 e2);intro bs r2)
  exact (aQ _ (.cons r r2))
end
theorem NM {o p:Option AO} {K:List AV->List AV->Prop} {K':List (Int × AV)->List (Int × AV)->Prop} {G:Prop} (h:match o,p with | some (.list l),some (.list m)=>K l m | some (.an l),some (.an m)=>K' l m | _,_=>False)
  (k:∀ l m,o=some (.list l)->p=some (.list m)->K l m->G) (k':∀ l m,o=some (.an l)->p=some (.an m)->K' l m->G):G:=by
 induction o with
 | none=>exact h.elim
 | some a=>induction a with
  | list l=>induction p with
   | none=>exact h.elim
   | some b=>induction b with
    | list m=>exact k l m rfl rfl h
    | _=>exact h.elim
  | an l=>induction p with
   | none=>exact h.elim
   | some b=>induction b with
    | an m=>exact k' l m rfl rfl h
    | _=>exact h.elim
  | _=>exact h.elim
noncomputable def eK:AV->AV->AH->(Bool->Prop)->Prop
 | .int a,.int b,_,Q=>Q (a==b)
 | .tup l,.tup m,_,Q=>l=m/\gf 40 (.tup l)/\Q true
 | .ref i,.ref j,σ,Q=>match σ[i]?,σ[j]? with
  | some (.list l),some (.list m)=>l=m/\eZ 40 l/\Q true
  | some (.an l),some (.an m)=>l=m/\eZ 40 (l.map (·.2))/\Q true
  | _,_=>False
 | _,_,_,_=>False
section
variable {C:Cx} {ι:bf} {σ:AH} {s:Shared} {A:Around} {E:Value->Shared->Prop} {n:Nat}
theorem Gu {k:Int} (h1 : -(2 ^ 64)<k) (h2:k<2 ^ 64):Builtin.Int.intBits k<=64:=intBits_le_64 h1 h2
theorem Yg {a b:Int} (h0:0<b) (h:b<2 ^ 64):Builtin.divisionGoesByPylong a b=false:=by
 unfold Builtin.divisionGoesByPylong
 have hb:(b==0)=false:=by rw [beq_eq_false_iff_ne];lia
 have:b.natAbs.log2<64:=by
  rw [Nat.log2_lt (by lia)];lia
 have h3:b.natAbs.log2 / 30+1<=300:=by lia
 simp only [hb,Bool.false_eq_true,if_false]
 rw [decide_eq_false (by lia)]
 rfl
set_option tactic.hygienic true in
theorem NN {op:fE} {a b:AV} {u v:Value} {Q:AV->AH->Prop} (S:St C ι σ s) (ha:VR ι s.heap a u) (hb:VR ι s.heap b v) (h:iO op a b σ Q) :
  wpAny (model C.prog C.w) A (binaryOp op.op u v) (bY C ι s.heap Q) E s:=by
 induction a using AV.casesOn with
 | int x =>
  induction b using AV.casesOn with
  | int y =>
   (refine aM ?_ (ha.int_inv);rintro t rfl)
   (refine aM ?_ (hb.int_inv);rintro t' rfl)
   induction op with
   | add=>exact add_int (S.kx h)
   | sub=>exact sub_int (S.kx h)
   | mul =>
    conv at h=>whnf
    refine mul_int (S.kx h.2) ?_
    rcases h.1 with h | h
    ·exact IntMulOk.of_left (Gu h.1 h.2)
    ·exact IntMulOk.of_right (Gu h.1 h.2)
   | fdiv =>
    conv at h=>whnf
    refine floordiv_int (by lia) ?_ (.inl (Yg h.1 h.2.1))
    refine U (Int.fdiv_eq_ediv_of_nonneg _ (by lia) ..) ?_
    exact S.kx h.2.2
   | mod =>
    conv at h=>whnf
    refine mod_int' (by lia) ?_
    refine U (Int.fmod_eq_emod_of_nonneg _ (by lia) ..) ?_
    exact S.kx h.2
   | shr =>
    conv at h=>whnf
    refine rshift_int h.1 ?_
    refine U (Int.fdiv_eq_ediv_of_nonneg _ (Int.pow_nonneg (by decide)) ..) ?_
    exact S.kx h.2
   | pow =>
    conv at h=>whnf
    (revert h;refine jw ?_;rintro rfl h0 h1 q)
    refine pow_int h0 ?_ (S.kx q)
    have:(Builtin.Int.intBits 2:Int)=2:=by decide +kernel
    refine U this ?_
    lia
  | _=>induction op <;> exact False.elim h
 | tup l =>
  induction b using AV.casesOn with
  | tup m =>
   induction op with
   | add =>
    conv at h=>whnf
    (revert h;refine ay ?_;intro bC q)
    (refine eV ?_ (ha.jE);rintro x vs rfl ht hl hr)
    (refine eV ?_ (hb.jE);rintro y ws rfl NO sS iP)
    have e1:=hr.length
    have e2:=iP.length
    rw [Array.length_toList] at e1 e2
    (refine nc ?_ (id ht);rintro ⟨cls,dd,data,sl⟩ ho hc n hd)
    (refine nc ?_ (id NO);rintro ⟨Yl,zf,data2,zg⟩ dT Gv n2 fO)
    simp only at hc hd Gv fO
    subst hc hd Gv fO
    by_cases hv:vs.isEmpty=true
    ·refine concat_meets (aB _ ho rfl) (aB _ dT rfl) noFill_tuple_add seq_tuple_add PySem.F.slot_tuple_add PySem.F.entry_tuple_add (PySem.F.args_tuple_add_2 _ _)
      (tuple_addW0 x y vs ws n n2 dd zf sl zg hv) ⟨ho,dT,?_⟩
     have:l=[]:=by
      apply List.length_eq_zero_iff.mp
      refine aT e1 ?_;simpa using hv
     subst this
     exact S.here hb q
    ·by_cases hw:ws.isEmpty=true
     ·refine concat_meets (aB _ ho rfl) (aB _ dT rfl) noFill_tuple_add seq_tuple_add PySem.F.slot_tuple_add PySem.F.entry_tuple_add (PySem.F.args_tuple_add_2 _ _)
       (tuple_addW1 x y vs ws n n2 dd zf sl zg hv hw) ⟨ho,dT,?_⟩
      have:m=[]:=by
       apply List.length_eq_zero_iff.mp
       refine aT e2 ?_;simpa using hw
      subst this
      rw [List.append_nil] at q
      exact S.here ha q
     ·refine concat_meets (aB _ ho rfl) (aB _ dT rfl) noFill_tuple_add seq_tuple_add PySem.F.slot_tuple_add PySem.F.entry_tuple_add (PySem.F.args_tuple_add_2 _ _)
       (tuple_addW2 x y vs ws n n2 dd zf sl zg hv hw (by refine U sizeLine_eq ?_;lia)) ⟨ho,dT,?_⟩
      have hk:∀ b o,s.heap.get? b=some o->(s.heap.push { cls:=.type "tuple",data:=.seq (vs++ws) }).get? b=some o:=fun b o e=>Heap.get?_push_of_some _ e
      refine (cF (.tup (l++m)) σ ι (Ext.keeps hk) ⟨S.hr.keeps hk,S.gens,S.os⟩ ?_ q)
      simp only [VR]
      exact (iL _ (vs++ws) rfl (sj _ (Heap.get?_push_size _ rfl) rfl _ rfl) (by simpa using bC) (by refine U Array.toList_append ?_;exact (aI.mono (cH.keeps hk) _ hr).append (aI.mono (cH.keeps hk) _ iP)))
   | _=>exact False.elim h
  | _=>induction op <;> exact False.elim h
 | ref i =>
  induction b using AV.casesOn with
  | ref j =>
   induction op with
   | add =>
    conv at h=>whnf
    refine Gq h ?_
    clear h
    ·intro l m hi hj h
     (revert h;refine ay ?_;intro bC q)
     (refine nh ?_ (S.list ha hi);rintro x vs rfl hp n ho hl hr)
     (refine nh ?_ (S.list hb hj);rintro y ws rfl io n2 dT sS iP)
     have e1:=hr.length
     have e2:=iP.length
     rw [Array.length_toList] at e1 e2
     refine concat_meets (aB _ ho rfl) (aB _ dT rfl) noFill_list_add seq_list_add PySem.F.slot_list_add PySem.F.entry_list_add (PySem.F.args_list_add_2 _ _)
      (list_addW x y vs ws n n2 _ _ _ _ (by refine U sizeLine_eq ?_;lia)) ⟨ho,dT,?_⟩
     obtain ⟨X,Y⟩:=S.alloc (o:={ cls:=.type "list",data:=.seq (vs++ws) }) (ao:=.list (l++m)) rfl (oZ rfl (by simpa using bC) (vs++ws) (aQ _ (Heap.get?_push_size _ rfl)) (by refine U Array.toList_append ?_;exact (aI.mono sO _ hr).append (aI.mono sO _ iP)))
     refine (cF _ _ _ X (Y s.toks) ?_ q)
     refine aT S.hr.len ?_
     exact sP
   | _=>exact False.elim h
  | _=>induction op <;> exact False.elim h
 | _=>induction op <;> exact False.elim h
theorem vQ {op:eJ} {a b:Int} {u v:Value} {Q:AV->AH->Prop} (S:St C ι σ s) (ha:VR ι s.heap (.int a) u) (hb:VR ι s.heap (.int b) v) (q:Q (.bool (op.rel a b)) σ) :
  wpAny (model C.prog C.w) A (compareOp op.op u v) (bY C ι s.heap Q) E s:=by
 (refine aM ?_ (ha.int_inv);rintro t rfl)
 (refine aM ?_ (hb.int_inv);rintro t' rfl)
 induction op with
 | lt=>exact lt_int (S.jD q)
 | le=>exact le_int (S.jD q)
 | gt=>exact gt_int (S.jD q)
 | ge=>exact ge_int (S.jD q)
theorem Gw {kvs:List (Int × Value)} {pz:List (Int × Value)} {A:Around} (hu:A.units+64<cLine) {l:List (Int × AV)} (hk:pz.map (·.1)=l.map (·.1)) (hr:aI ι s.heap (l.map (·.2)) (pz.map (·.2))) :
  ∀ {m:List (Int × AV)} {kvs:List (Int × Value)},(∀ x∈m,bL l x.1=some x.2)->eZ 40 (m.map (·.2))->kvs.map (·.1)=m.map (·.1)->aI ι s.heap (m.map (·.2)) (kvs.map (·.2))->KeqHits A s pz kvs true
 | [],kvs,_,_,e,r=>by
  have:kvs=[]:=by induction kvs using List.casesOn with | nil=>rfl | cons _ _=>exact (noConfusion_of_Nat List.ctorIdx e).elim
  subst this
  exact .nil
 | x::m,kvs,hm,hf,e,r=>by
  induction kvs using List.casesOn with
  | nil=>exact (noConfusion_of_Nat List.ctorIdx e).elim
  | cons kv kvs =>
   simp only [List.map_cons,List.cons.injEq] at e
   simp only [List.map_cons,aI] at r
   simp only [List.map_cons,eZ] at hf
   (revert r;refine cW ?_;intro v fB e1 r1 r2)
   simp only [List.cons.injEq] at e1
   (revert e1;refine ay ?_;rintro rfl rfl)
   (refine au ?_ ((mc (fun x:Int=>x) (fun Y Y e=>e) hk hr x.1).1 x.2 (hm x (.head _)));intro y hy pA)
   (refine aM ?_ (sR x.2 40 hf.1 r1);intro as ra)
   (refine aM ?_ (sR x.2 40 hf.1 pA);intro bs rb)
   have zh:SeqAt.shaped (pd x.2)=true:=by
    unfold SeqAt.shaped
    refine U (zb ..) (U (Bool.true_and ..) (U decide_eq_true_eq ?_))
    have:=zd x.2 40 hf.1
    lia
   have eq1:=SeqAt.eqAt_reads (pd x.2) (pd x.2) A s kv.2 y as bs ra rb (SeqAt.canLay_of_shaped zh) (SeqAt.canLay_of_shaped zh) (SeqAt.room_of_shaped zh hu)
   rw [y9] at eq1
   obtain ⟨k,vv⟩:=kv
   have ek:k=x.1:=e.1
   subst ek
   exact .hit (e:=true) (b:=true) hy eq1 (Gw (kvs:=kvs) hu hk hr (fun z hz=>hm z (.tail _ hz)) hf.2 e.2 r2)
theorem NP {l:List (Int × AV)} (hn:(l.map (·.1)).Nodup):∀ x∈l,bL l x.1=some x.2:=by
 intro x hx
 unfold bL
 induction l with
 | nil=>cases hx
 | cons y l ih =>
  simp only [List.map_cons,List.nodup_cons] at hn
  rcases List.mem_cons.mp hx with rfl | hx
  ·simp
  ·have:¬ y.1=x.1:=fun e=>hn.1 (e ▸ List.mem_map_of_mem hx)
   refine U List.find?_cons (U (decide_eq_false this ..) ?_)
   exact ih hn.2 hx
set_option tactic.hygienic true in
theorem Gy {neg:Bool} {a b:AV} {u v:Value} {Q:AV->AH->Prop} (S:St C ι σ s) (ha:VR ι s.heap a u) (hb:VR ι s.heap b v) (qU:A.units+80<cLine) (vR:∃ o,C.base.get? sysModules=some o)
  (h:eK a b σ fun r=>Q (.bool (if neg then !r else r)) σ) :
  wpAny (model C.prog C.w) A (compareOp (if neg then .NotEq else .Eq) u v) (bY C ι s.heap Q) E s:=by
 have hu:A.units+64<cLine:=Nat.lt_of_le_of_lt (Nat.add_le_add_left (by decide) _) qU
 have NQ:A.in1.units+64<cLine:=Nat.lt_of_le_of_lt (show A.units+1+64<=A.units+80 by lia) qU
 have Gz:A.units<cLine:=Nat.lt_of_le_of_lt (Nat.le_add_right _ _) qU
 have data:∀ {da:PyData} {as bs:List Addr},Reads s.heap u da as->Reads s.heap v da bs->SeqAt.shaped da=true->PyData.eqv da da=true->Q (.bool (if neg then !true else true)) σ ->
   wpAny (model C.prog C.w) A (compareOp (if neg then .NotEq else .Eq) u v) (bY C ι s.heap Q) E s:=by
  intro da as bs ra rb hs he q
  induction neg with
  | false=>exact eq_dataH ra rb hs hs hu (by refine U he ?_;exact S.jD q)
  | true=>exact ne_dataH ra rb hs hs hu (by refine U he ?_;exact S.jD q)
 induction a using AV.casesOn with
 | int x =>
  induction b using AV.casesOn with
  | int y =>
   (refine aM ?_ (ha.int_inv);rintro t rfl)
   (refine aM ?_ (hb.int_inv);rintro t' rfl)
   conv at h=>whnf
   induction neg with
   | false=>exact eq_int (S.jD h)
   | true=>exact ne_int (S.jD h)
  | _=>exact False.elim h
 | tup l =>
  induction b using AV.casesOn with
  | tup m =>
   conv at h=>whnf
   (revert h;refine bS ?_;rintro rfl hf q)
   (refine aM ?_ (sR _ _ hf ha);intro as ra)
   (refine aM ?_ (sR _ _ hf hb);intro bs rb)
   refine data ra rb ?_ (y9 _) q
   unfold SeqAt.shaped
   refine U (zb ..) (U (Bool.true_and ..) (U decide_eq_true_eq ?_))
   have:=zd _ _ hf
   lia
  | _=>exact False.elim h
 | ref i =>
  induction b using AV.casesOn with
  | ref j =>
   conv at h=>whnf
   refine NM h ?_ ?_ <;> clear h
   ·intro l m hi hj h
    (revert h;refine bS ?_;rintro rfl hf q)
    (refine nh ?_ (S.list ha hi);rintro x vs rfl hp n ho hl hr)
    (refine nh ?_ (S.list hb hj);rintro y ws rfl io n2 dT sS iP)
    (refine aM ?_ (vP _ _ hf hr);intro as ra)
    (refine aM ?_ (vP _ _ hf iP);intro bs rb)
    refine data (.list ho rfl rfl ra) (.list dT rfl rfl rb) ?_ ?_ q
    ·unfold SeqAt.shaped
     have:=ze _ _ hf
     simp only [PyData.canLay0,zc,Bool.true_and,PyData.depth]
     exact decide_eq_true (by lia)
    ·simp only [PyData.eqv,za]
   ·intro l m hi hj h
    (revert h;refine bS ?_;rintro rfl hf q)
    (refine ja ?_ (S.an ha hi);rintro x kvs rfl hp hd hl hk hr)
    (refine ja ?_ (S.an hb hj);rintro y pz rfl io fO sS md iP)
    have bP:(l.map (·.1)).Nodup:=by
     (revert hd;refine yl ?_;intro _ _ _ _ _ _ _ _ hn)
     refine aT hk ?_;exact hn
    have bC:kvs.length=pz.length:=by
     have e1:=congrArg List.length hk
     have e2:=congrArg List.length md
     simp only [List.length_map] at e1 e2
     lia
    have hh:kvs.length=pz.length->KeqHits A.in1 s pz kvs true:=fun Y =>
     Gw (kvs:=kvs) NQ md iP (NP bP) hf hk hr
    induction neg with
    | false =>
     refine keq_eq (nw S hp vR) (nw S io vR) hd fO Gz hh ?_
     refine U bC ?_;simp only [beq_self_eq_true,Bool.true_and]
     exact S.jD q
    | true =>
     refine keq_ne (nw S hp vR) (nw S io vR) hd fO Gz hh ?_
     refine U bC ?_;simp only [beq_self_eq_true,Bool.true_and]
     exact S.jD q
  | _=>exact False.elim h
 | _=>exact False.elim h
end
section
variable {C:Cx} {ι:bf} {σ:AH} {s:Shared} {A:Around} {E:Value->Shared->Prop} {n:Nat}
theorem NR (b n:Nat) (hb:b<=n):Builtin.Slice.sliceAdjust Option.none (some (b:Int)) 1 (n:Int)=((0:Int),(b:Int)):=by
 unfold Builtin.Slice.sliceAdjust
 have h1:¬ ((1:Int)<0):=by decide
 have h2:¬ ((b:Int)<0):=by lia
 simp only [h1,h2,if_false]
 congr 1
 lia
theorem NS (b:Nat):Builtin.Slice.slicePlaces (0:Int) (b:Int) 1=b:=by
 unfold Builtin.Slice.slicePlaces
 have h1:(1:Int)>0:=by decide
 simp only [h1,if_true,Int.ediv_one]
 split <;> wtm_at "o"
theorem NT {prog:Program} {w:World} {sl:Addr} {b n:Nat} {u:Tok} {Q:Int × Int × Nat->Shared->Prop} (hs:s.heap.IsSliceOf sl .none (.int b u) .none) (hb:b<=n) (h:Q ((0:Int),1,b) s) :
  wpAny (model prog w) A (Builtin.Slice.sliceApplied (.ref sl) (pure (n:Int))) Q E s:=by
 (refine bO ?_ (id hs);intro os sT GA vS)
 unfold Builtin.Slice.sliceApplied Builtin.Slice.sliceFields
 refine wpAny_bind (wpAny_bind (wpAny_field sT vS (x:=.none) rfl (wpAny_bind (wpAny_field sT vS (x:=.int b u) rfl (wpAny_bind (wpAny_field sT vS (x:=.none) rfl (wpAny_pure ?_)))))))
 refine wpAny_bind (slicePart_none ?_)
 show wpAny _ _ (if ((1:Int)==0)=true then _ else _) _ _ s
 refine U (if_neg (by decide) ..) ?_
 refine wpAny_bind (slicePart_none (wpAny_bind (slicePart_int (wpAny_bind (wpAny_pure ?_)))))
 show wpAny _ _ (match Builtin.Slice.sliceAdjust Option.none (some (b:Int)) 1 (n:Int) with | (lo,hi)=>pure (lo,(1:Int),Builtin.Slice.slicePlaces lo hi 1)) _ _ s
 refine U (NR b n hb ..) ?_
 show wpAny _ _ (pure ((0:Int),(1:Int),Builtin.Slice.slicePlaces (0:Int) (b:Int) 1)) _ _ s
 refine U (NS b ..) ?_
 exact wpAny_pure h
theorem NU (xs:Array Value) (b:Nat) (hb:b<=xs.size):((List.range b).filterMap fun (k:Nat)=>xs[((0:Int)+(k:Int)*1).toNat]?).toArray=(xs.toList.take b).toArray:=by
 have e:(fun (k:Nat)=>xs[((0:Int)+(k:Int)*1).toNat]?)=fun k=>xs[0+k]?:=by
  funext k
  have:((0:Int)+(k:Int)*1).toNat=0+k:=by lia
  exact U this rfl
 refine U e ?_
 have:=pick_run xs 0 b
 rw [List.filterMap_map] at this
 have e2:((fun x=>xs[x]?) ∘ fun x=>0+x)=fun k=>xs[0+k]?:=rfl
 rw [e2] at this
 exact U this (U List.drop_zero rfl)
theorem NV {prog:Program} {w:World} {t sl:Addr} {items:Array Value} {b:Nat} {u:Tok} {Q:Value->Shared->Prop} (ht:IsTup s.heap t items) (hs:s.heap.IsSliceOf sl .none (.int b u) .none) (hb:b<items.size)
  (h:Q (.ref s.heap.objs.size) { s with heap:=s.heap.push { cls:=.type "tuple",data:=.seq (items.toList.take b).toArray } })
  (pr:items.size<=sizeLine):wpAny (model prog w) A (getItem (.ref t) (.ref sl)) Q E s:=by
 have kz:sizeOk (.seq (items.toList.take b).toArray):=by
  show (items.toList.take b).toArray.size<=sizeLine
  refine U List.size_toArray (U List.length_take (U Array.length_toList ?_))
  lia
 (refine bO ?_ (id hs);intro os sT GA vS)
 have NW:s.TypeIs (.ref sl) "slice":=(aB os sT GA)
 unfold getItem
 try with_reducible refine wpAny_holding ?_
 first | refine wpAny_bind (wpAny_pure ?_) | skip
 refine wpAny_bind (wpAny_sequenceKey ht.typeIs (by decide) ?_)
 refine wpAny_bind (wpAny_callSpecial?_slot (name:=Str.ofString "__getitem__") ht.typeIs slot_tuple_getitem
  (wpAny_call_entry slot_tuple_getitem ht.typeIs entry_tuple_getitem ?_ (args_tuple_getitem _ _)))
 show wpAny _ _ (Builtin.Tuple.tupleItemsOf (.ref t) >>= _) _ _ s
 refine wpAny_bind (tupleItemsOf_ ht ?_)
 refine wpAny_bind (wpAny_typeOf NW ?_)
 rw [if_pos (by decide)]
 refine wpAny_bind (NT hs (Nat.le_of_lt hb) ?_)
 have eh:¬ (((0:Int)==0&&(1:Int)==1&&b==items.size)=true):=by
  have:(b==items.size)=false:=by rw [beq_eq_false_iff_ne];lia
  refine U this ?_;simp
 show wpAny _ _ (if ((0:Int)==0&&(1:Int)==1&&b==items.size)=true then _ else _) _ _ s
 refine U (if_neg eh ..) (U (NU items b (Nat.le_of_lt hb) ..) ?_)
 first
  | exact wpAny_bind (m:=Builtin.Tuple.tupleExact _) (wpAny_newObj_type (wpAny_pure (aB _ rfl (wpAny_pure h))) kz)
  | exact wpAny_bind (m:=Builtin.Tuple.tupleExact _) (wpAny_newObj_type (wpAny_bind (wpAny_pure (wpAny_pure ⟨_,rfl,wpAny_pure h⟩))) kz)
  | exact wpAny_bind (wpAny_bind (m:=Builtin.Tuple.tupleExact _) (wpAny_newObj_type (wpAny_pure (wpAny_pure ⟨_,rfl,wpAny_pure h⟩)) kz))
  | exact wpAny_bind (wpAny_bind (m:=Builtin.Tuple.tupleExact _) (wpAny_newObj_type (wpAny_pure ⟨_,rfl,wpAny_pure h⟩) kz))
noncomputable def GB:AV->AV->AH->(AV->AH->Prop)->Prop
 | .tup l,.int k,σ,Q=>0<=k/\k<l.length/\Q (.tup (l.take k.toNat)) σ
 | .ref r,.int k,σ,Q=>match σ[r]? with
  | some (.list l)=>0<=k/\k<2 ^ 62/\Q (.ref σ.length) (σ++[.list (l.take k.toNat)])
  | _=>False
 | _,_,_,_=>False
noncomputable def GC:AV->AV->AH->(AV->AH->Prop)->Prop
 | .tup l,.int k,σ,Q=>1<=k/\k<=l.length/\Q (.tup (l.drop k.toNat)) σ
 | _,_,_,_=>False
theorem St.slice (S:St C ι σ s) {l u st:Value}:Ext ι s.heap ι (s.heap.push { cls:=.type "slice",data:=.fields #[l,u,st] })/\St C ι σ { s with heap:=s.heap.push { cls:=.type "slice",data:=.fields #[l,u,st] } } :=
 have hk:∀ b o,s.heap.get? b=some o->(s.heap.push { cls:=.type "slice",data:=.fields #[l,u,st] }).get? b=some o:=fun b o e=>Heap.get?_push_of_some _ e
 ⟨Ext.keeps hk,⟨S.hr.keeps hk,S.gens,S.os⟩⟩
theorem GD (items:Array Value) (b:Nat):slicePick items Option.none (some (b:Int)) Option.none=(items.toList.take b).toArray:=by
 rcases Nat.lt_or_ge items.size b with h | h
 ·have e:slicePick items Option.none (some (b:Int)) Option.none=slicePick items Option.none (some (items.size:Int)) Option.none:=by
   have hb:sliceBounds Option.none (some (b:Int)) Option.none items.size=sliceBounds Option.none (some (items.size:Int)) Option.none items.size:=by
    unfold sliceBounds
    have h1:¬ ((b:Int)<0):=by lia
    have h2:¬ ((items.size:Int)<0):=by lia
    simp only [Option.getD]
    simp [h1,h2]
    lia
   unfold slicePick
   exact U hb rfl
  exact U e (U (slicePick_upto items items.size (Nat.le_refl _) ..) (U (List.take_of_length_le (by simp) ..) (U (List.take_of_length_le (by simp;lia) ..) rfl)))
 ·exact slicePick_upto items b h
set_option tactic.hygienic true in
theorem NX {value a b:Expr} {lo hi:Option Expr} {p:Pos} {x y:AV} {o i:Value} {Q:AV->AH->Prop} (S:St C ι σ s) (ho:VR ι s.heap x o) (iQ:VR ι s.heap y i) (h:GB x y σ Q) :
  wpAny (model C.prog C.w) A (newFields "slice" [.none,i,.none]) (fun iv aG=>wpAny (model C.prog C.w) A (subscriptTail value (.Slice lo hi Option.none p) o iv) (bY C ι s.heap Q) E aG) E s:=by
 refine wpAny_newObj_type ?_
 (refine ay ?_ (S.slice (l:=.none) (u:=i) (st:=.none));intro X S')
 have qV:=Heap.IsSliceOf.new s.heap .none i .none
 induction x using AV.casesOn with
 | tup l =>
  induction y using AV.casesOn with
  | int k =>
   conv at h=>whnf
   (revert h;refine bS ?_;intro h0 h1 q)
   (refine aM ?_ (iQ.int_inv);rintro t rfl)
   (refine eV ?_ ((VR.mono (X.cI S.hr) _ ho).jE);rintro a vs rfl ht hl hr)
   have e1:=hr.length
   rw [Array.length_toList] at e1
   (refine aM ?_ (Int.eq_ofNat_of_zero_le h0);rintro kk rfl)
   refine tail_any ht.typeIs slot_tuple_getitem.lookup (NV ht qV (by lia) ?_ (by refine U sizeLine_eq ?_;lia)) (ops:=[.ref s.heap.objs.size,.ref a]) rfl
   have hk:∀ b o,(s.heap.push { cls:=.type "slice",data:=.fields #[.none,.int kk t,.none] }).get? b=some o->((s.heap.push { cls:=.type "slice",data:=.fields #[.none,.int kk t,.none] }).push { cls:=.type "tuple",data:=.seq (vs.toList.take kk).toArray }).get? b=some o:=fun b o e=>Heap.get?_push_of_some _ e
   refine (cF (.tup (l.take kk)) σ ι (X.trans (Ext.keeps hk)) ⟨S'.hr.keeps hk,S.gens,S.os⟩ ?_ q)
   simp only [VR]
   exact (iL _ (vs.toList.take kk).toArray rfl (sj _ (Heap.get?_push_size _ rfl) rfl _ rfl) (by simp;lia) ((aI.mono (cH.keeps hk) _ hr).take kk))
  | _=>exact False.elim h
 | ref r =>
  induction y using AV.casesOn with
  | int k =>
   conv at h=>whnf
   refine qT h ?_
   clear h
   ·intro l bm h
    (revert h;refine bS ?_;intro h0 h1 q)
    (refine aM ?_ (iQ.int_inv);rintro t rfl)
    (refine lq ?_ (S'.list (VR.mono (X.cI S.hr) _ ho) bm);rintro a vs rfl hp dj hl hr)
    have e1:=hr.length
    rw [Array.length_toList] at e1
    (refine aM ?_ (Int.eq_ofNat_of_zero_le h0);rintro kk rfl)
    refine tail_any dj.isList.typeIs slot_list_getitem.lookup (wpAny_getItem_list_slice dj.isList qV .none (.int _ _) .none (by simp) ?_ (by refine U sizeLine_eq ?_;lia)) (ops:=[.ref s.heap.objs.size,.ref a]) rfl
    refine U (show slicePick vs Option.none (some (kk:Int)) Option.none=(vs.toList.take kk).toArray from GD vs kk) ?_
    (refine ay ?_ (S'.alloc (o:={ cls:=.type "list",data:=.seq (vs.toList.take kk).toArray }) (ao:=.list (l.take kk)) rfl (oZ rfl (by simp;lia) _ (aQ _ (Heap.get?_push_size _ rfl)) (aI.mono sO _ (hr.take kk))));intro X2 Y2)
    refine (cF _ _ _ (X.trans X2) (Y2 s.toks) ?_ q)
    refine aT S.hr.len ?_
    exact sP
  | _=>exact False.elim h
 | _=>exact False.elim h
theorem NY {value a b:Expr} {lo hi:Option Expr} {p:Pos} {x y:AV} {o i:Value} {Q:AV->AH->Prop} (S:St C ι σ s) (ho:VR ι s.heap x o) (iQ:VR ι s.heap y i) (h:GC x y σ Q) :
  wpAny (model C.prog C.w) A (newFields "slice" [i,.none,.none]) (fun iv aG=>wpAny (model C.prog C.w) A (subscriptTail value (.Slice lo hi Option.none p) o iv) (bY C ι s.heap Q) E aG) E s:=by
 refine wpAny_newObj_type ?_
 (refine ay ?_ (S.slice (l:=i) (u:=.none) (st:=.none));intro X S')
 have qV:=Heap.IsSliceOf.new s.heap i .none .none
 induction x using AV.casesOn with
 | tup l =>
  induction y using AV.casesOn with
  | int k =>
   conv at h=>whnf
   (revert h;refine bS ?_;intro h0 h1 q)
   (refine aM ?_ (iQ.int_inv);rintro t rfl)
   (refine eV ?_ ((VR.mono (X.cI S.hr) _ ho).jE);rintro a vs rfl ht hl hr)
   have e1:=hr.length
   rw [Array.length_toList] at e1
   (refine aM ?_ (Int.eq_ofNat_of_zero_le (show 0<=k by lia));rintro kk rfl)
   refine tail_any ht.typeIs slot_tuple_getitem.lookup (getItem_tuple_from ht qV (by lia) (by lia) ?_ (by refine U sizeLine_eq ?_;lia)) (ops:=[.ref s.heap.objs.size,.ref a]) rfl
   have hk:∀ b o,(s.heap.push { cls:=.type "slice",data:=.fields #[.int kk t,.none,.none] }).get? b=some o->((s.heap.push { cls:=.type "slice",data:=.fields #[.int kk t,.none,.none] }).push { cls:=.type "tuple",data:=.seq (vs.toList.drop kk).toArray }).get? b=some o:=fun b o e=>Heap.get?_push_of_some _ e
   refine (cF (.tup (l.drop kk)) σ ι (X.trans (Ext.keeps hk)) ⟨S'.hr.keeps hk,S.gens,S.os⟩ ?_ q)
   simp only [VR]
   exact (iL _ (vs.toList.drop kk).toArray rfl (sj _ (Heap.get?_push_size _ rfl) rfl _ rfl) (by simp;lia) ((aI.mono (cH.keeps hk) _ hr).drop kk))
  | _=>exact False.elim h
 | _=>exact False.elim h
theorem NZ {r:Nat} {l:List AV} {o:Value} {Q:AV->AH->Prop} (S:St C ι σ s) (ho:VR ι s.heap (.ref r) o) (bm:σ[r]?=some (.list l)) (q:Q (.tup l) σ) :
  wpAny (model C.prog C.w) A (call (.type "tuple") [o]) (bY C ι s.heap Q) E s:=by
 (refine lq ?_ (S.list ho bm);rintro a vs rfl hp dj hl hr)
 have hz:=qR hl hr
 refine call_tuple_list dj.isList (fun h' hk=>?_) (vK hz)
 have gc:∀ b o,s.heap.get? b=some o->(h'.push { cls:=.type "tuple",data:=.seq vs }).get? b=some o:=fun b o e=>Heap.get?_push_of_some _ (hk b o e)
 refine (cF (.tup l) σ ι (Ext.keeps gc) ⟨S.hr.keeps gc,S.gens,S.os⟩ ?_ q)
 simp only [VR]
 exact (iL _ vs rfl (sj _ (Heap.get?_push_size _ rfl) rfl _ rfl) hl (aI.mono (cH.keeps gc) _ hr))
theorem N0 {a b:Int} {u v:Value} {Q:AV->AH->Prop} (S:St C ι σ s) (hh:A.handled=Option.none) (ha:VR ι s.heap (.int a) u) (hb:VR ι s.heap (.int b) v) (q:Q (.int (if b<a then b else a)) σ) :
  wpAny (model C.prog C.w) A (call (.builtin "min") [u,v]) (bY C ι s.heap Q) E s:=by
 (refine aM ?_ (ha.int_inv);rintro t rfl)
 (refine aM ?_ (hb.int_inv);rintro t' rfl)
 refine min_two_ints hh fun h' tk hk=>?_
 refine (cF _ σ ι (Ext.keeps hk) ⟨S.hr.keeps hk,S.gens,S.os⟩ ?_ q)
 split <;> simp only [VR] <;> exact (aQ _ rfl)
theorem N1 {a b:Int} {u v:Value} {Q:AV->AH->Prop} (S:St C ι σ s) (hh:A.handled=Option.none) (ha:VR ι s.heap (.int a) u) (hb:VR ι s.heap (.int b) v) (q:Q (.int (if b>a then b else a)) σ) :
  wpAny (model C.prog C.w) A (call (.builtin "max") [u,v]) (bY C ι s.heap Q) E s:=by
 (refine aM ?_ (ha.int_inv);rintro t rfl)
 (refine aM ?_ (hb.int_inv);rintro t' rfl)
 refine max_two_ints hh fun h' tk hk=>?_
 refine (cF _ σ ι (Ext.keeps hk) ⟨S.hr.keeps hk,S.gens,S.os⟩ ?_ q)
 split <;> simp only [VR] <;> exact (aQ _ rfl)
theorem N2 {b:Bool} {u:Value} {Q:AV->AH->Prop} (S:St C ι σ s) (ha:VR ι s.heap (.bool b) u) (q:Q (.bool true) σ) :
  wpAny (model C.prog C.w) A (call (.builtin "isinstance") [u,.type "bool"]) (bY C ι s.heap Q) E s:=by
 refine U ha.bool_inv ?_
 exact call_isinstance_yes (PySem.typeIs_bool _ _) meta_bool sub_bool_bool (S.jD q)
theorem N3 {i j:Nat} {l m:List AV} {u v:Value} {Q:AV->AH->Prop} (S:St C ι σ s) (ha:VR ι s.heap (.ref i) u) (hb:VR ι s.heap (.ref j) v) (hi:σ[i]?=some (.list l)) (hj:σ[j]?=some (.list m)) (bC:l.length+m.length<=1000000)
  (q:Q (.ref i) (σ.set i (.list (l++m)))):wpAny (model C.prog C.w) A (inplaceOp .Add u v) (bY C ι s.heap Q) E s:=by
 (refine nh ?_ (S.list ha hi);rintro x vs rfl hp n ho hl hr)
 (refine nh ?_ (S.list hb hj);rintro y ws rfl io n2 dT sS iP)
 have e1:=hr.length
 have e2:=iP.length
 rw [Array.length_toList] at e1 e2
 have hT:s.TypeIs (.ref x) "list":=(aB _ ho rfl)
 have N4:s.TypeIs (.ref y) "list":=(aB _ dT rfl)
 unfold inplaceOp
 refine wpAny_holding ?_
 have GF:isSeqSlot (some (.builtin "list.__iadd__"))=true:=by decide +kernel
 have N5:fillsInplaceSlot (.type "list") "add" (Operator.Add==.Add)=pure false:=by
  unfold fillsInplaceSlot
  show (typeLookup (.type "list") (dunderI "add") >>= fun fi=>pure (fi.isSome&&!isSeqSlot fi))=pure false
  refine U PySem.F.slot_list_iadd.lookup ?_
  show (pure (true&&!isSeqSlot (some (.builtin "list.__iadd__"))):Sem Bool)=_
  refine U GF ?_;rfl
 refine wpAny_bind (wpAny_typeOf hT (wpAny_bind (wpAny_of_eq N5 ?_)))
 show wpAny _ A (if false=true then _ else _) _ E s
 refine U (if_neg Bool.false_ne_true ..) ?_
 refine wpAny_bind (wpAny_binaryOp1_none (nm:="add") hT N4 noFill_list_add ?_)
 refine wpAny_bind (wpAny_of_eq (PySem.seqSlot_of PySem.F.slot_list_iadd.lookup GF) ?_)
 refine wpAny_bind (wpAny_rule ?_)
 refine call_meets PySem.F.slot_list_iadd hT PySem.F.entry_list_iadd (PySem.F.args_list_iadd_2 _ _) (PySem.AutoSeq1.list___iadd___list_list_0 x vs n y ws n2 ?_ (by refine U sizeLine_eq ?_;lia) (by refine U sizeLine_eq ?_;lia)) ⟨ho,dT,?_⟩
 ·have:Builtin.List.listTooLong (vs.size+ws.size)=false:=by
   unfold Builtin.List.listTooLong
   simp only [decide_eq_false_iff_not]
   refine U sizeLine_eq ?_
   lia
  refine U this ?_;simp
 have ky:∃ k,(s.heap.update x (Obj.mapSeq fun z=>z++ws)).get? x=some { cls:=.type "list",data:=.seq (vs++ws) k }:=by
  refine U (Heap.get?_update_self _ ho (by simp [Obj.mapSeq];rfl) ..) ?_
  simp only [Obj.mapSeq]
  exact (aQ _ rfl)
 (revert ky;refine aM ?_;intro k ky)
 (refine ay ?_ (S.vL (l:=l++m) hp (Heap.SameBut.update ..) (aQ k ky) (by simpa using bC) (by refine U Array.toList_append ?_;exact hr.append iP));intro X Y)
 exact (cF (.ref i) _ ι X (Y s.toks) (by simp only [VR];exact (aB _ hp rfl)) q)
end
inductive Ex where
 | none | bool (b:Bool) | int (i:Int) | neg (i:Int)
 | nm (x:Nm) | gi (x:Nm) (i:Int)
 | ba (e:Ex) (f:Nm) | sub (e i:Ex) | ss (e:Ex) (f:Nm)
 | slt (e i:Ex) | nz (e i:Ex)
 | bin (op:fE) (l r:Ex)
 | cmp (op:eJ) (l r:Ex) | kB (o1 o2:eJ) (a b c:Ex) | eq (neg:Bool) (l r:Ex) | cc (neg:Bool) (e:Ex) | fV (neg:Bool) (k d:Ex) | lD (neg:Bool) (e:Ex)
 | and (es:List Ex) | or (es:List Ex) | not (e:Ex) | ite (c a b:Ex)
 | tup (es:List Ex) | list (es:List Ex) | gh | pB (k:Int) (e:Ex) | bl (es:List (Nm × Ex))
 | comp (elt:Ex) (x:Nm) (frees:List Nm) (bJ:Bool) (it:Ex) (cond:Option Ex)
 | call (f:Fn) (es:List Ex) | new (c:Cl) (es:List Ex) | jA (e:Ex) (c:Cl) (f:Fn) (es:List Ex)
 | app (e x:Ex) | pop (e:Ex) | nA (e k:Ex) | nB (e k d:Ex)
 | len (e:Ex) | min (a b:Ex) | max (a b:Ex) | tuple (e:Ex) | nC (e:Ex)
inductive Sm where
 | as (x:Nm) (e:Ex)
 | aa (o:Ex) (f:Nm) (e:Ex)
 | dU (o i:Ex) (e:Ex)
 | jG (o:Ex) (f:Nm) (e:Ex)
 | at2 (xs:List Nm) (e:Ex)
 | ag (x:Nm) (op:fE) (e:Ex)
 | kC (o:Ex) (f:Nm) (op:fE) (e:Ex)
 | pC (o:Ex) (f:Nm) (op:fE) (e:Ex)
 | ex (e:Ex)
 | iff (c:Ex) (a b:List Sm)
 | wh (c:Ex) (b:List Sm)
 | fo (xs:List Nm) (bJ:Bool) (it:Ex) (b:List Sm)
 | ret (e:Ex)
 | nD
structure FW (C:Cx) (n:Nat) (f:Fn) (args:List AV) (Q:AV->AH->Prop) (σ:AH):Prop where
 go:∀ (A:Around) (ι:bf) (s:Shared) (vs:List Value),Rm A n->St C ι σ s->aI ι s.heap args vs ->
  codeAny (model C.prog C.w) A (.call (.ref (C.fa f)) ⟨vs,[]⟩) (fun r s'=>∃ cv,r=.ok (.ret cv)/\bY C ι s.heap Q cv s') s
theorem FW.mono {C:Cx} {n:Nat} {f:Fn} {args:List AV} {Q Q':AV->AH->Prop} {σ:AH} (h:FW C n f args Q σ) (hQ:∀ v σ,Q v σ->Q' v σ):FW C n f args Q' σ :=
 ⟨fun A ι s vs hR S hv=>codeAny_mono (h.go A ι s vs hR S hv) fun r s' ⟨cv,e,v,V,aK,x,S',hr,q⟩=>(sk cv e v V aK x S' hr (hQ _ _ q))⟩
noncomputable def dD:AV->Option Bool
 | .none=>some false
 | .bool b=>some b
 | .int i=>some (i != 0)
 | _=>Option.none
noncomputable def ip (bJ:Bool) (v:AV) (σ:AH) (K:List AV->Option (Nat × List AV)->Prop):Prop:=match bJ,v with
 | true,.int n=>(0<=n/\n<=1000000)/\K ((List.range n.toNat).map fun i=>.int (i:Nat)) Option.none
 | false,.tup l=>K l Option.none
 | false,.ref r=>(match σ[r]? with
  | some (.list l)=>K l (some (r,l))
  | _=>False)
 | _,_=>False
noncomputable def GG (σ:AH):AV->Prop
 | .ref r=>∃ l,σ[r]?=some (.list l)
 | _=>False
noncomputable def zi (σ:AH):AV->Prop
 | .ref r=>∃ l,σ[r]?=some (.an l)
 | _=>False
noncomputable def kD (g:Option (Nat × List AV)) (σ:AH):Prop:=match g with
 | some (r,l)=>σ[r]?=some (.list l)
 | Option.none=>True
noncomputable def kE (step:AV->(Loc->AH->Prop)->Loc->AH->Prop) (g:Option (Nat × List AV)) (N:Loc->AH->Prop):List AV->Loc->AH->Prop
 | [],ρ,σ=>N ρ σ
 | x::xs,ρ,σ=>step x (fun ae V=>kD g V/\kE step g N xs ae V) ρ σ
noncomputable def me (cond:(Bool->AH->Prop)->Loc->AH->Prop) (step:(Loc->AH->Prop)->Loc->AH->Prop) (N:Loc->AH->Prop):Nat->Loc->AH->Prop
 | 0,_,_=>False
 | k+1,ρ,σ=>cond (fun b V=>match b with
  | true=>step (me cond step N k) ρ V
  | false=>N ρ V) ρ σ
noncomputable def kF (step:AV->(Option AV->AH->Prop)->AH->Prop) (g:Option (Nat × List AV)) (K:List AV->AH->Prop):List AV->List AV->AH->Prop
 | [],acc,σ=>K acc σ
 | x::xs,acc,σ=>step x (fun o V=>kD g V/\(acc++o.toList).length<=1000000/\kF step g K xs (acc++o.toList) V) σ
noncomputable def co (ρ:Loc) (x:Nm) (v:AV):Loc:=fun y=>match cc y x with
 | true=>some v
 | false=>ρ y
theorem kG {ρ:Loc} {x y:Nm} {v:AV}:co ρ x v y=if y=x then some v else ρ y:=by
 unfold co
 refine U vI ?_
 by_cases h:y=x <;> simp [h]
noncomputable def sU (y:Nm):List Nm->Bool
 | []=>false
 | x::l=>match cc y x with
  | true=>true
  | false=>sU y l
theorem GH {y:Nm}:∀ {l:List Nm},sU y l=decide (y∈l)
 | []=>by simp [sU]
 | x::l=>by
  unfold sU
  refine U vI (U GH ?_)
  by_cases h:y=x <;> simp [h]
noncomputable def iq (ρ:Loc):List Nm->List AV->Option Loc
 | [],[]=>some ρ
 | x::xs,v::vs=>iq (co ρ x v) xs vs
 | _,_=>Option.none
noncomputable def ei (ρ:Loc) (x:Nm) (frees:List Nm) (v:AV):Loc:=fun y=>match cc y x with
 | true=>some v
 | false=>match sU y frees with
  | true=>ρ y
  | false=>Option.none
theorem zj {ρ:Loc} {x y:Nm} {frees:List Nm} {v:AV}:ei ρ x frees v y=if y=x then some v else if y∈frees then ρ y else Option.none:=by
 unfold ei
 refine U vI (U GH ?_)
 by_cases h:y=x
 ·simp [h]
 ·by_cases h2:y∈frees <;> simp [h,h2]
noncomputable def eN (xs:List Nm) (v:AV) (ρ:Loc) (σ:AH) (K:Loc->Prop):Prop:=match xs with
 | [x]=>K (co ρ x v)
 | xs=>match v with
  | .tup l=>(match iq ρ xs l with | some ae=>K ae | Option.none=>False)
  | .ref r=>(match σ[r]? with
   | some (.list l)=>(match iq ρ xs l with | some ae=>K ae | Option.none=>False)
   | _=>False)
  | _=>False
mutual
noncomputable def aD (C:Cx) (n:Nat):Ex->(AV->AH->Prop)->Loc->AH->Prop
 | .none,Q,_,σ=>Q .none σ
 | .bool b,Q,_,σ=>Q (.bool b) σ
 | .int i,Q,_,σ=>Q (.int i) σ
 | .neg i,Q,_,σ=>Q (.int (-i)) σ
 | .nm x,Q,ρ,σ=>match ρ x with | some v=>Q v σ | Option.none=>False
 | .gi _ i,Q,_,σ=>Q (.int i) σ
 | .ba e f,Q,ρ,σ=>aD C n e (fun v V=>match gD V v f with | some u=>Q u V | Option.none=>False) ρ σ
 | .sub e i,Q,ρ,σ=>aD C n e (fun v V=>aD C n i (fun k ar=>match gC ar v k with | some u=>Q u ar | Option.none=>False) ρ V) ρ σ
 | .ss e f,Q,ρ,σ=>aD C n e (fun v V=>match gR V v f with | some u=>Q u V | Option.none=>False) ρ σ
 | .slt e i,Q,ρ,σ=>aD C n e (fun v V=>aD C n i (fun k ar=>GB v k ar Q) ρ V) ρ σ
 | .nz e i,Q,ρ,σ=>aD C n e (fun v V=>aD C n i (fun k ar=>GC v k ar Q) ρ V) ρ σ
 | .bin op l r,Q,ρ,σ=>aD C n l (fun a V=>aD C n r (fun b ar=>iO op a b ar Q) ρ V) ρ σ
 | .cmp op l r,Q,ρ,σ=>aD C n l (fun a V=>aD C n r (fun b ar=>match a,b with | .int a,.int b=>Q (.bool (op.rel a b)) ar | _,_=>False) ρ V) ρ σ
 | .kB ..,_,_,_=>False
 | .eq ng l r,Q,ρ,σ=>aD C n l (fun a V=>aD C n r (fun b ar=>eK a b ar fun t=>Q (.bool (if ng then !t else t)) ar) ρ V) ρ σ
 | .cc ng e,Q,ρ,σ=>aD C n e (fun a V=>match a with | .none=>Q (.bool (!ng)) V | _=>Q (.bool ng) V) ρ σ
 | .fV ng k d,Q,ρ,σ=>aD C n k (fun a V=>aD C n d (fun b ar=>match a,b with
   | .int i,.ref r=>(match ar[r]? with | some (.an l)=>Q (.bool (if ng then !(bL l i).isSome else (bL l i).isSome)) ar | _=>False)
   | _,_=>False) ρ V) ρ σ
 | .lD ng e,Q,ρ,σ=>aD C n e (fun a V=>match a with | .int i=>Q (.bool (if ng then !(i==0||i==1) else (i==0||i==1))) V | _=>False) ρ σ
 | .and es,Q,ρ,σ=>mf C n es Q ρ σ
 | .or es,Q,ρ,σ=>vT C n es Q ρ σ
 | .not e,Q,ρ,σ=>aD C n e (fun a V=>match dD a with | some b=>Q (.bool (!b)) V | Option.none=>False) ρ σ
 | .ite c a b,Q,ρ,σ=>cN C n c (fun t V=>match t with | true=>aD C n a Q ρ V | false=>aD C n b Q ρ V) ρ σ
 | .tup es,Q,ρ,σ=>fF C n es (fun vs V=>vs.length<=1000000/\Q (.tup vs) V) ρ σ
 | .list es,Q,ρ,σ=>fF C n es (fun vs V=>vs.length<=1000000/\Q (.ref V.length) (V++[.list vs])) ρ σ
 | .gh,Q,_,σ=>Q (.ref σ.length) (σ++[.an []])
 | .pB k e,Q,ρ,σ=>aD C n e (fun v V=>Q (.ref V.length) (V++[.an [(k,v)]])) ρ σ
 | .bl es,Q,ρ,σ=>pD C n es (fun fs V=>(fs.map (·.1)).Nodup/\Q (.ref V.length) (V++[.bl fs])) ρ σ
 | .comp elt x frees bJ it cond,Q,ρ,σ=>aD C n it (fun v V=>ip bJ v V fun xs g =>
   kF (fun a K ai=>jg C n cond (fun t aH=>match t with
     | true=>aD C n elt (fun r bn=>K (some r) bn) (ei ρ x frees a) aH
     | false=>K Option.none aH) (ei ρ x frees a) ai) g (fun acc ai=>Q (.ref ai.length) (ai++[.list acc])) xs [] V) ρ σ
 | .call f es,Q,ρ,σ=>fF C n es (fun vs V=>FW C n f vs Q V) ρ σ
 | .new c es,Q,ρ,σ=>fF C n es (fun vs V=>FW C n (nn c) (.ref V.length::vs) (fun r ar=>r=.none/\Q (.ref V.length) ar) (V++[.inst c []])) ρ σ
 | .jA e c f es,Q,ρ,σ=>aD C n e (fun o V=>match o with
   | .ref r=>(match V[r]? with
    | some (.inst c' _)=>c'=c/\fF C n es (fun vs ar=>FW C n f (.ref r::vs) Q ar) ρ V
    | _=>False)
   | _=>False) ρ σ
 | .app e x,Q,ρ,σ=>aD C n e (fun o V=>GG V o/\aD C n x (fun v ar=>match o with
   | .ref r=>(match ar[r]? with
    | some (.list l)=>l.length<1000000/\Q .none (ar.set r (.list (l++[v])))
    | _=>False)
   | _=>False) ρ V) ρ σ
 | .pop e,Q,ρ,σ=>aD C n e (fun o V=>match o with
   | .ref r=>(match V[r]? with
    | some (.list l)=>∃ m a,l=m++[a]/\Q a (V.set r (.list m))
    | _=>False)
   | _=>False) ρ σ
 | .nA e k,Q,ρ,σ=>aD C n e (fun o V=>zi V o/\aD C n k (fun v ar=>match o,v with
   | .ref r,.int i=>(match ar[r]? with
    | some (.an l)=>Q ((bL l i).getD .none) ar
    | _=>False)
   | _,_=>False) ρ V) ρ σ
 | .nB e k d,Q,ρ,σ=>aD C n e (fun o V=>zi V o/\aD C n k (fun v ai=>aD C n d (fun u ar=>match o,v with
   | .ref r,.int i=>(match ar[r]? with
    | some (.an l)=>Q ((bL l i).getD u) ar
    | _=>False)
   | _,_=>False) ρ ai) ρ V) ρ σ
 | .len e,Q,ρ,σ=>aD C n e (fun v V=>match jF V v with | some k=>Q (.int k) V | Option.none=>False) ρ σ
 | .min a b,Q,ρ,σ=>aD C n a (fun u V=>aD C n b (fun v ar=>match u,v with | .int x,.int y=>Q (.int (if y<x then y else x)) ar | _,_=>False) ρ V) ρ σ
 | .max a b,Q,ρ,σ=>aD C n a (fun u V=>aD C n b (fun v ar=>match u,v with | .int x,.int y=>Q (.int (if y>x then y else x)) ar | _,_=>False) ρ V) ρ σ
 | .tuple e,Q,ρ,σ=>aD C n e (fun v V=>match v with
   | .ref r=>(match V[r]? with | some (.list l)=>Q (.tup l) V | _=>False)
   | _=>False) ρ σ
 | .nC e,Q,ρ,σ=>aD C n e (fun v V=>match v with | .bool _=>Q (.bool true) V | _=>False) ρ σ
noncomputable def fF (C:Cx) (n:Nat):List Ex->(List AV->AH->Prop)->Loc->AH->Prop
 | [],Q,_,σ=>Q [] σ
 | e::es,Q,ρ,σ=>aD C n e (fun v V=>fF C n es (fun vs ar=>Q (v::vs) ar) ρ V) ρ σ
noncomputable def pD (C:Cx) (n:Nat):List (Nm × Ex)->(List (Nm × AV)->AH->Prop)->Loc->AH->Prop
 | [],Q,_,σ=>Q [] σ
 | (f,e)::es,Q,ρ,σ=>aD C n e (fun v V=>pD C n es (fun vs ar=>Q ((f,v)::vs) ar) ρ V) ρ σ
noncomputable def jg (C:Cx) (n:Nat):Option Ex->(Bool->AH->Prop)->Loc->AH->Prop
 | Option.none,K,_,σ=>K true σ
 | some e,K,ρ,σ=>cN C n e K ρ σ
noncomputable def mf (C:Cx) (n:Nat):List Ex->(AV->AH->Prop)->Loc->AH->Prop
 | [],_,_,_=>False
 | [e],Q,ρ,σ=>aD C n e Q ρ σ
 | e::es,Q,ρ,σ=>aD C n e (fun v V=>match dD v with | some true=>mf C n es Q ρ V | some false=>Q v V | Option.none=>False) ρ σ
noncomputable def vT (C:Cx) (n:Nat):List Ex->(AV->AH->Prop)->Loc->AH->Prop
 | [],_,_,_=>False
 | [e],Q,ρ,σ=>aD C n e Q ρ σ
 | e::es,Q,ρ,σ=>aD C n e (fun v V=>match dD v with | some false=>vT C n es Q ρ V | some true=>Q v V | Option.none=>False) ρ σ
noncomputable def cN (C:Cx) (n:Nat):Ex->(Bool->AH->Prop)->Loc->AH->Prop
 | .not e,K,ρ,σ=>cN C n e (fun b V=>K (!b) V) ρ σ
 | .and es,K,ρ,σ=>vU C n es K ρ σ
 | .or es,K,ρ,σ=>vV C n es K ρ σ
 | .kB o1 o2 a b c,K,ρ,σ=>aD C n a (fun x ai=>aD C n b (fun y aH=>match x,y with
   | .int x,.int y=>(match o1.rel x y with
    | true=>aD C n c (fun z bn=>match z with | .int z=>K (o2.rel y z) bn | _=>False) ρ aH
    | false=>K false aH)
   | _,_=>False) ρ ai) ρ σ
 | .cmp op l r,K,ρ,σ=>aD C n l (fun a V=>aD C n r (fun b ar=>match a,b with | .int a,.int b=>K (op.rel a b) ar | _,_=>False) ρ V) ρ σ
 | .eq ng l r,K,ρ,σ=>aD C n l (fun a V=>aD C n r (fun b ar=>eK a b ar fun t=>K (if ng then !t else t) ar) ρ V) ρ σ
 | .cc ng e,K,ρ,σ=>aD C n e (fun a V=>match a with | .none=>K (!ng) V | _=>K ng V) ρ σ
 | .fV ng k d,K,ρ,σ=>aD C n k (fun a V=>aD C n d (fun b ar=>match a,b with
   | .int i,.ref r=>(match ar[r]? with | some (.an l)=>K (if ng then !(bL l i).isSome else (bL l i).isSome) ar | _=>False)
   | _,_=>False) ρ V) ρ σ
 | .lD ng e,K,ρ,σ=>aD C n e (fun a V=>match a with | .int i=>K (if ng then !(i==0||i==1) else (i==0||i==1)) V | _=>False) ρ σ
 | .nm x,K,ρ,σ=>match ρ x with | some v=>(match dD v with | some b=>K b σ | Option.none=>False) | Option.none=>False
 | .call f es,K,ρ,σ=>fF C n es (fun vs V=>FW C n f vs (fun v ar=>match dD v with | some b=>K b ar | Option.none=>False) V) ρ σ
 | _,_,_,_=>False
noncomputable def vU (C:Cx) (n:Nat):List Ex->(Bool->AH->Prop)->Loc->AH->Prop
 | [],K,_,σ=>K true σ
 | e::es,K,ρ,σ=>cN C n e (fun b V=>match b with | true=>vU C n es K ρ V | false=>K false V) ρ σ
noncomputable def vV (C:Cx) (n:Nat):List Ex->(Bool->AH->Prop)->Loc->AH->Prop
 | [],K,_,σ=>K false σ
 | e::es,K,ρ,σ=>cN C n e (fun b V=>match b with | true=>K true V | false=>vV C n es K ρ V) ρ σ
end
mutual
noncomputable def wpS (C:Cx) (n:Nat):Sm->(Loc->AH->Prop)->(AV->AH->Prop)->Loc->AH->Prop
 | .as x e,N,_,ρ,σ=>aD C n e (fun v V=>N (co ρ x v) V) ρ σ
 | .aa o f e,N,_,ρ,σ=>aD C n e (fun v ai=>aD C n o (fun u V=>match u with
   | .ref r=>(match V[r]? with
    | some (.inst c l)=>f∈fC c/\N ρ (V.set r (.inst c (bp l f v)))
    | _=>False)
   | _=>False) ρ ai) ρ σ
 | .dU o i e,N,_,ρ,σ=>aD C n e (fun v ai=>aD C n o (fun u aH=>aD C n i (fun k V=>match u,k with
   | .ref r,.int k=>(match V[r]? with
    | some (.list l)=>0<=k/\k<l.length/\N ρ (V.set r (.list (l.set k.toNat v)))
    | some (.an l)=>l.length<1000000/\N ρ (V.set r (.an (ee l k v)))
    | _=>False)
   | _,_=>False) ρ aH) ρ ai) ρ σ
 | .jG o f e,N,_,ρ,σ=>aD C n e (fun v ai=>aD C n o (fun u V=>match u with
   | .ref r=>(match V[r]? with
    | some (.bl l)=>l.length<1000000/\N ρ (V.set r (.bl (bp l f v)))
    | _=>False)
   | _=>False) ρ ai) ρ σ
 | .at2 xs e,N,_,ρ,σ=>aD C n e (fun v V=>eN xs v ρ V fun ae=>N ae V) ρ σ
 | .ag x op e,N,_,ρ,σ=>match ρ x with
  | some v=>aD C n e (fun u V=>match op,v,u with
   | .add,.int a,.int b=>N (co ρ x (.int (a+b))) V
   | .sub,.int a,.int b=>N (co ρ x (.int (a - b))) V
   | .add,.ref i,.ref j=>(match V[i]?,V[j]? with
    | some (.list l),some (.list m)=>l.length+m.length<=1000000/\N (co ρ x (.ref i)) (V.set i (.list (l++m)))
    | _,_=>False)
   | _,_,_=>False) ρ σ
  | Option.none=>False
 | .kC o f op e,N,_,ρ,σ=>aD C n o (fun u ai=>match gD ai u f with
  | some v=>aD C n e (fun y V=>match op,v,y,u with
   | .add,.int a,.int b,.ref r=>(match V[r]? with
    | some (.inst c l)=>f∈fC c/\N ρ (V.set r (.inst c (bp l f (.int (a+b)))))
    | _=>False)
   | _,_,_,_=>False) ρ ai
  | Option.none=>False) ρ σ
 | .pC o f op e,N,_,ρ,σ=>aD C n o (fun u ai=>match gR ai u f with
  | some v=>aD C n e (fun y V=>match op,v,y,u with
   | .add,.int a,.int b,.ref r=>(match V[r]? with
    | some (.bl l)=>l.length<1000000/\N ρ (V.set r (.bl (bp l f (.int (a+b)))))
    | _=>False)
   | _,_,_,_=>False) ρ ai
  | Option.none=>False) ρ σ
 | .ex e,N,_,ρ,σ=>aD C n e (fun Y V=>N ρ V) ρ σ
 | .iff c a b,N,R,ρ,σ=>cN C n c (fun t V=>match t with | true=>ax C n a N R ρ V | false=>ax C n b N R ρ V) ρ σ
 | .wh c b,N,R,ρ,σ=>∃ k,me (cN C n c) (fun K ae V=>ax C n b K R ae V) N k ρ σ
 | .fo xs bJ it b,N,R,ρ,σ=>aD C n it (fun v V=>ip bJ v V fun vs g =>
   kE (fun a K ae ar=>eN xs a ae ar fun dE=>ax C n b K R dE ar) g N vs ρ V) ρ σ
 | .ret e,_,R,ρ,σ=>aD C n e R ρ σ
 | .nD,_,R,_,σ=>R .none σ
noncomputable def ax (C:Cx) (n:Nat):List Sm->(Loc->AH->Prop)->(AV->AH->Prop)->Loc->AH->Prop
 | [],N,_,ρ,σ=>N ρ σ
 | s::r,N,R,ρ,σ=>wpS C n s (fun ae V=>ax C n r N R ae V) R ρ σ
end
theorem kl:aD C n (.int 3) Q ρ σ=Q (.int 3) σ:=rfl
structure XT (P:Addr->Prop) (ι:bf) (h:Heap) (aK:bf) (h':Heap):Prop where
 pre:∀ (i:Nat) (p:Addr × Addr),ι[i]?=some p->aK[i]?=some p
 keep:∀ b o,¬ b7 ι b->¬ P b->h.get? b=some o->h'.get? b=some o
 alive:∀ b o,h.get? b=some o->∃ o',h'.get? b=some o'
 new:∀ (i:Nat) (p:Addr × Addr),ι.length<=i->aK[i]?=some p->h.get? p.1=none/\h.get? p.2=none
variable {P P':Addr->Prop} {ι aK aU bH dF:bf} {h h' bD bI eg:Heap} {C:Cx} {σ V:AH} {env:Env} {ρ:Loc}
theorem Ext.xt (x:Ext ι h aK h'):XT P ι h aK h':=⟨x.pre,fun b o a Y e=>x.keep b o a e,x.alive,x.new⟩
theorem XT.refl:XT P ι h ι h:=(Ext.refl ι h).xt
theorem XT.weak (x:XT P ι h aK h') (k:∀ b,P b->P' b):XT P' ι h aK h':=⟨x.pre,fun b o a c e=>x.keep b o a (fun q=>c (k b q)) e,x.alive,x.new⟩
theorem XT.own (x:XT P ι h aK h') {b:Addr} {o:Obj} (hb:h.get? b=some o) (ho:b7 aK b):b7 ι b:=by
 (revert ho;refine au ?_;intro p hp e)
 (refine aM ?_ (List.mem_iff_getElem?.mp hp);intro i hi)
 rcases Nat.lt_or_ge i ι.length with aS | jB
 ·have:=x.pre i ι[i] (List.getElem?_eq_getElem aS)
  rw [hi] at this
  (revert this;refine si ?_;rintro rfl)
  exact (aB _ (List.getElem_mem aS) e)
 ·have:=x.new i p jB hi
  exfalso
  rcases e with rfl | rfl
  ·rw [this.1] at hb;exact aZ hb
  ·rw [this.2] at hb;exact aZ hb
theorem XT.dead (x:XT P ι h aK h') {b:Addr} (hb:h'.get? b=none):h.get? b=none:=by
 induction e:h.get? b with
 | none=>rfl
 | some o=>(refine aM ?_ (x.alive b o e);intro o' e');rw [hb] at e';exact aZ e'
theorem XT.trans (x:XT P aU bD bH bI) (y:XT P bH bI dF eg):XT P aU bD dF eg where
 pre:=fun i p e=>y.pre i p (x.pre i p e)
 keep:=fun b o hb hp e=>y.keep b o (fun ho=>hb (x.own e ho)) hp (x.keep b o hb hp e)
 alive:=fun b o e=>let ⟨o',e'⟩:=x.alive b o e;y.alive b o' e'
 new:=fun i p hi e=>by
  rcases Nat.lt_or_ge i bH.length with aS | jB
  ·have:=y.pre i bH[i] (List.getElem?_eq_getElem aS)
   rw [e] at this
   (revert this;refine si ?_;rintro rfl)
   exact x.new i _ hi (List.getElem?_eq_getElem aS)
  ·have:=y.new i p jB e
   exact ⟨x.dead this.1,x.dead this.2⟩
theorem XT.ext (x:XT P ι h aK h') (k:∀ b,P b->h.get? b=none):Ext ι h aK h' :=
 ⟨x.pre,fun b o a e=>x.keep b o a (fun q=>by rw [k b q] at e;exact aZ e) e,x.alive,x.new⟩
noncomputable def gF (env:Env) (b:Addr):Prop:=b=env.locals∨∃ n,(n,b)∈env.cells
structure FR (C:Cx) (env:Env) (ρ:Loc) (ι:bf) (h:Heap):Prop where
 kind:env.scope.kind=.function
 glob:env.globals=mainGlobals
 blt:env.builtins=builtinsNs
 ns:∃ m,h.Ns env.locals m/\∀ x v,ρ x=some v->env.kindOf x.str=some .local->∃ cv,m x.str=some cv/\VR ι h v cv
 cell:∀ x v,ρ x=some v->(env.kindOf x.str=some .cell∨env.kindOf x.str=some .free)->∃ c cv,env.cells.lookup x.str=some c/\h.IsCell c (some cv)/\VR ι h v cv
 cells:∀ n c,(n,c)∈env.cells->(∃ v,h.IsCell c v)/\C.base.get? c=none/\¬ b7 ι c
 apart:env.cells.Pairwise fun x y=>x.2≠y.2
 loc:C.base.get? env.locals=none/\¬ b7 ι env.locals
 kH:∀ x:Str,env.kindOf x=some .cell->env.cells.lookup x≠none
theorem Ext.pE (x:Ext ι h aK h') {b:Addr} {o:Obj} (e:h.get? b=some o) (hn:¬ b7 ι b):¬ b7 aK b:=fun q=>hn (x.own e q)
theorem FR.mono (F:FR C env ρ ι h) (r:HR C ι σ h) (x:Ext ι h aK h'):FR C env ρ aK h' where
 kind:=F.kind
 glob:=F.glob
 blt:=F.blt
 ns:=by
  (refine au ?_ (F.ns);intro m hn hm)
  (revert hn;refine lr ?_;intro o es ep ho r')
  exact (aB m (l5 o es ep (x.keep _ _ F.loc.2 ho) r') (fun y v e k=>let ⟨cv,a,b⟩:=hm y v e k;(aB cv a (VR.mono (x.cI r) _ b))))
 cell:=fun y v e k=>by
  (refine E0 ?_ (F.cell y v e k);intro c cv a o ho hd b)
  exact (cA c cv a (aB o (x.keep _ _ (F.cells _ _ (mem_of_lookup a)).2.2 ho) hd) (VR.mono (x.cI r) _ b))
 cells:=fun n c hc=>by
  (refine vf ?_ (F.cells n c hc);intro v o ho hd b d)
  exact ⟨(jb v o (x.keep _ _ d ho) hd),b,x.pE ho d⟩
 apart:=F.apart
 loc:=by
  (refine EZ ?_ (F.ns);intro m o es ep ho _ _)
  exact ⟨F.loc.1,x.pE ho F.loc.2⟩
 kH:=F.kH
theorem FR.keeps (F:FR C env ρ ι h) (hk:∀ b o,h.get? b=some o->h'.get? b=some o):FR C env ρ ι h' where
 kind:=F.kind
 glob:=F.glob
 blt:=F.blt
 ns:=by
  (refine au ?_ (F.ns);intro m hn hm)
  exact (aB m (hn.keeps hk) (fun y v e k=>let ⟨cv,a,b⟩:=hm y v e k;(aB cv a (VR.mono (cH.keeps hk) _ b))))
 cell:=fun y v e k=>by
  (refine cW ?_ (F.cell y v e k);intro c cv a hc b)
  exact (cA c cv a (hc.keeps hk) (VR.mono (cH.keeps hk) _ b))
 cells:=fun n c hc=>by
  (refine ve ?_ (F.cells n c hc);intro v hv b d)
  exact ⟨(aQ v (hv.keeps hk)),b,d⟩
 apart:=F.apart
 loc:=F.loc
 kH:=F.kH
theorem FR.jC (F:FR C env ρ ι h) {a:Addr} (hp:¬ gF env a) (fW:∀ vs,¬ h.IsTuple a vs) (hk:∀ b o,b≠a->h.get? b=some o->h'.get? b=some o):FR C env ρ ι h':=by
 have tx:cH ι h ι h':=⟨fun Y Y e=>e,fun b vs ht=>by
  have hb:b≠a:=by rintro rfl;exact fW vs ht
  (revert ht;refine au ?_;intro o ho q)
  exact (aB o (hk _ _ hb ho) q)⟩
 refine ⟨F.kind,F.glob,F.blt,?_,fun y v e k=>?_,fun n c hc=>?_,F.apart,F.loc,F.kH⟩
 ·(refine EZ ?_ (F.ns);intro m o es ep ho r' hm)
  exact (aB m (l5 o es ep (hk _ _ (fun e=>hp (.inl e.symm)) ho) r') (fun y v e k=>let ⟨cv,a,b⟩:=hm y v e k;(aB cv a (VR.mono tx _ b))))
 ·(refine E0 ?_ (F.cell y v e k);intro c cv a' o ho hd b)
  exact (cA c cv a' (aB o (hk _ _ (fun e=>hp (.inr (aQ _ (e ▸ mem_of_lookup a')))) ho) hd) (VR.mono tx _ b))
 ·(refine vf ?_ (F.cells n c hc);intro v o ho hd b d)
  exact ⟨(jb v o (hk _ _ (fun e=>hp (.inr (aQ _ (e ▸ hc)))) ho) hd),b,d⟩
section
variable {s:Shared} {A:Around} {E:Value->Shared->Prop} {n:Nat}
noncomputable def qW (sc:Scope) (x:Nm):Bool:=sc.names.lookup x.str==some .local||sc.names.lookup x.str==some .cell||(sc.names.lookup x.str==some .free&&x.str != ("__classdict__":Str))
noncomputable def vW (x:Nm):Bool:=!(x.str==("__debug__":Str))
theorem N6 {x:Nm} {pos:Pos} {v:AV} {Q:AV->AH->Prop} (F:FR C env ρ ι s.heap) (S:St C ι σ s) (hv:ρ x=some v) (hl:qW env.scope x=true) (hd:vW x=true) (q:Q v σ) :
  wpAny (model C.prog C.w) A (eval (.Name x.str pos) env) (bY C ι s.heap Q) E s:=by
 have cG:(x.str==("__debug__":Str))=false:=by simpa [vW] using hd
 refine wpAny_Name ?_ cG
 unfold qW at hl
 rw [Bool.or_eq_true,Bool.or_eq_true] at hl
 rcases hl with (hl | hl) | hl
 ·have hl:env.kindOf x.str=some .local:=by show env.scope.names.lookup x.str=_;simpa using hl
  (refine au ?_ (F.ns);intro m hn hm)
  (refine au ?_ (hm x v hv hl);intro cv a b)
  exact wpAny_loadName_local F.kind hl hn a (S.here b q)
 ·have hl:env.kindOf x.str=some .cell:=by show env.scope.names.lookup x.str=_;simpa using hl
  (refine cW ?_ (F.cell x v hv (.inl hl));intro c cv a hc b)
  exact wpAny_loadName_cell F.kind hl a hc (S.here b q)
 ·rw [Bool.and_eq_true] at hl
  have pF:env.kindOf x.str=some .free:=by show env.scope.names.lookup x.str=_;simpa using hl.1
  (refine cW ?_ (F.cell x v hv (.inr pF));intro c cv a hc b)
  exact wpAny_loadName_free F.kind pF a hc (S.here b q) (by simpa using hl.2)
theorem N7 {x:Nm} {v:AV} {Q:AV->AH->Prop} (F:FR C env ρ ι s.heap) (S:St C ι σ s) (hv:ρ x=some v) (hl:qW env.scope x=true) (q:Q v σ) :
  wpAny (model C.prog C.w) A (loadName env x.str) (bY C ι s.heap Q) E s:=by
 unfold qW at hl
 rw [Bool.or_eq_true,Bool.or_eq_true] at hl
 rcases hl with (hl | hl) | hl
 ·have hl:env.kindOf x.str=some .local:=by show env.scope.names.lookup x.str=_;simpa using hl
  (refine au ?_ (F.ns);intro m hn hm)
  (refine au ?_ (hm x v hv hl);intro cv a b)
  exact wpAny_loadName_local F.kind hl hn a (S.here b q)
 ·have hl:env.kindOf x.str=some .cell:=by show env.scope.names.lookup x.str=_;simpa using hl
  (refine cW ?_ (F.cell x v hv (.inl hl));intro c cv a hc b)
  exact wpAny_loadName_cell F.kind hl a hc (S.here b q)
 ·rw [Bool.and_eq_true] at hl
  have pF:env.kindOf x.str=some .free:=by show env.scope.names.lookup x.str=_;simpa using hl.1
  (refine cW ?_ (F.cell x v hv (.inr pF));intro c cv a hc b)
  exact wpAny_loadName_free F.kind pF a hc (S.here b q) (by simpa using hl.2)
theorem zk {x:Str} {pos:Pos} {v:Value} {Q:Value->Shared->Prop} (F:FR C env ρ ι s.heap) (S:St C ι σ s) (hx:env.kindOf x=some .globalImplicit) (hv:nsIn C.K mainGlobals x=some (some v))
  (hd:(x==("__debug__":Str))=false) (q:Q v s):wpAny (model C.prog C.w) A (eval (.Name x pos) env) Q E s:=by
 (refine lq ?_ (C.g);intro mg mb hg hb _ h1 h2)
 have e:=F.glob
 exact PySem.Calls.Name_function_global F.kind hx (PySem.Calls.loadGlobal_global (by refine U e ?_;exact hg.keeps S.hr.keep) (h1 _ _ hv) q) hd
theorem GI {x:Str} {pos:Pos} {v:Value} {Q:Value->Shared->Prop} (F:FR C env ρ ι s.heap) (S:St C ι σ s) (hx:env.kindOf x=some .globalImplicit) (hv:nsIn C.K mainGlobals x=some Option.none) (zl:bootBuiltins x=some v)
  (hd:(x==("__debug__":Str))=false) (hn:x≠"__name__") (q:Q v s):wpAny (model C.prog C.w) A (eval (.Name x pos) env) Q E s:=by
 (refine lq ?_ (C.g);intro mg mb hg hb _ h1 h2)
 have e:=F.glob
 have e2:=F.blt
 exact PySem.Calls.Name_function_global F.kind hx (PySem.Calls.loadGlobal_builtin (by refine U e ?_;exact hg.keeps S.hr.keep) (h1 _ _ hv) (by refine U e2 ?_;exact hb.keeps S.hr.keep) ((h2 x hn).trans zl) q) hd
theorem Ns.same {h:Heap} {a:Addr} {m:Str->Option Value} (hn:h.Ns a m) {vs:Array Value}:¬ h.IsTuple a vs:=by
 (refine nc ?_;intro o ho hc n hd)
 (revert hn;refine oW ?_;intro o' es ep br cG _)
 rw [ho] at br;(revert br;refine si ?_;rintro rfl);rw [hd] at cG;exact (noConfusion_of_Nat Data.ctorIdx cG).elim
theorem IsCell.noTuple {h:Heap} {a:Addr} {v:Option Value} (hn:h.IsCell a v) {vs:Array Value}:¬ h.IsTuple a vs:=by
 (refine nc ?_;intro o ho hc n hd)
 (revert hn;refine au ?_;intro o' br cG)
 rw [ho] at br;(revert br;refine si ?_;rintro rfl);rw [hd] at cG;exact (noConfusion_of_Nat Data.ctorIdx cG).elim
noncomputable def vX (sc:Scope) (x:Nm):Bool:=sc.names.lookup x.str==some .local||sc.names.lookup x.str==some .cell
theorem HR.turn (r:HR C ι σ h) {a:Addr} (eh:¬ b7 ι a) (hb:C.base.get? a=none) (fW:∀ vs,¬ h.IsTuple a vs) (hs:Heap.SameBut a h h') (sV:∃ o,h'.get? a=some o):HR C ι σ h'/\XT (fun b=>b=a) ι h ι h' :=
 ⟨r.jC (fun b=>b=a) (fun b e=>by subst e;exact ⟨eh,hb,fW⟩) fun b o hb e=>(hs.2 b hb).trans e,
  fun Y Y e=>e,fun b o Y hb e=>(hs.2 b hb).trans e,fun b o e=>by
  by_cases zm:b=a
  ·refine U zm ?_;exact sV
  ·exact (aQ o ((hs.2 b zm).trans e)),fun i p hi e=>by rw [List.getElem?_eq_none hi] at e;exact aZ e⟩
theorem GJ {x:Nm} {v:AV} {cv:Value} {Q:Unit->Shared->Prop} (F:FR C env ρ ι s.heap) (S:St C ι σ s) (hl:env.kindOf x.str=some .local) (hv:VR ι s.heap v cv)
  (q:∀ h' t,XT (fun b=>b=env.locals) ι s.heap ι h'->St C ι σ { s with heap:=h',toks:=t }->FR C env (co ρ x v) ι h'->Q () { s with heap:=h',toks:=t }) :
  wpAny (model C.prog C.w) A (storeName env x.str cv) Q E s:=by
 (refine au ?_ (F.ns);intro m hn hm)
 refine wpAny_storeName_local hl hn (fun h' iN hs=>?_) (by refine U F.kind ?_;rfl)
 (refine lr ?_ (id iN);intro o' gE N8 br _)
 (refine ay ?_ (S.hr.turn F.loc.2 F.loc.1 (fun vs=>Ns.same hn) hs (aQ _ br));intro H X)
 have tx:cH ι s.heap ι h':=⟨fun Y Y e=>e,fun b vs ht=>by
  have hb:b≠env.locals:=by rintro rfl;exact Ns.same hn ht
  (revert ht;refine au ?_;intro o ho q)
  exact (aB o ((hs.2 b hb).trans ho) q)⟩
 refine q h' _ X ⟨H,S.gens,S.os⟩ ⟨F.kind,F.glob,F.blt,(aB _ iN (fun y u e k=>?_)),fun y u e k=>?_,fun n c hc=>?_,F.apart,F.loc,F.kH⟩
 ·by_cases kI:y=x
  ·subst kI
   simp only [kG,if_true,Option.some.injEq] at e
   subst e
   exact (aB cv (by simp) (VR.mono tx _ hv))
  ·simp only [kG,if_neg kI] at e
   (refine au ?_ (hm y u e k);intro cu a b)
   exact (aB cu (by refine U (if_neg (fun e=>kI (Nm.str_inj e)) ..) ?_;exact a) (VR.mono tx _ b))
 ·have kI:y≠x:=by
   rintro rfl
   rcases k with k | k <;> rw [hl] at k <;> cases k
  simp only [kG,if_neg kI] at e
  (refine cW ?_ (F.cell y u e k);intro c cu a hc b)
  have bu:c≠env.locals:=by
   rintro rfl
   (revert hc;refine au ?_;intro o ho hd)
   (revert hn;refine oW ?_;intro o2 es ep dT fO _)
   rw [ho] at dT;(revert dT;refine si ?_;rintro rfl);rw [hd] at fO;exact (noConfusion_of_Nat Data.ctorIdx fO).elim
  exact (cA c cu a (hc.sameBut hs bu) (VR.mono tx _ b))
 ·(refine ve ?_ (F.cells n c hc);intro v hv b d)
  have bu:c≠env.locals:=by
   rintro rfl
   (revert hv;refine au ?_;intro o ho hd)
   (revert hn;refine oW ?_;intro o2 es ep dT fO _)
   rw [ho] at dT;(revert dT;refine si ?_;rintro rfl);rw [hd] at fO;exact (noConfusion_of_Nat Data.ctorIdx fO).elim
  exact ⟨(aQ v (hv.sameBut hs bu)),b,d⟩
theorem pG {x:Nm} {v:AV} {cv:Value} {Q:Unit->Shared->Prop} (F:FR C env ρ ι s.heap) (S:St C ι σ s) (hl:vX env.scope x=true) (hv:VR ι s.heap v cv)
  (q:∀ h' t,XT (gF env) ι s.heap ι h'->St C ι σ { s with heap:=h',toks:=t }->FR C env (co ρ x v) ι h'->Q () { s with heap:=h',toks:=t }) :
  wpAny (model C.prog C.w) A (storeName env x.str cv) Q E s:=by
 unfold vX at hl
 rw [Bool.or_eq_true] at hl
 (refine au ?_ (F.ns);intro m hn hm)
 rcases hl with hl | hl
 ·have hl:env.kindOf x.str=some .local:=by show env.scope.names.lookup x.str=_;simpa using hl
  exact GJ F S hl hv fun h' t X S' F'=>q h' t (X.weak fun b e=>.inl e) S' F'
 ·have hl:env.kindOf x.str=some .cell:=by show env.scope.names.lookup x.str=_;simpa using hl
  (refine aM ?_ (Option.ne_none_iff_exists'.mp (F.kH _ hl));intro c jH)
  have qX:=mem_of_lookup jH
  (refine ve ?_ (F.cells _ _ qX);intro Ym vY hb eh)
  refine wpAny_storeName_cell F.kind hl jH vY fun h' gG hs=>?_
  (refine au ?_ (id gG);intro o' br _)
  (refine ay ?_ (S.hr.turn eh hb (fun vs=>IsCell.noTuple vY) hs (aQ _ br));intro H X)
  have tx:cH ι s.heap ι h':=⟨fun Y Y e=>e,fun b vs ht=>by
   have hb:b≠c:=by rintro rfl;exact IsCell.noTuple vY ht
   (revert ht;refine au ?_;intro o ho q)
   exact (aB o ((hs.2 b hb).trans ho) q)⟩
  have bu:env.locals≠c:=by
   intro e
   (revert vY;refine au ?_;intro o ho hd)
   (revert hn;refine oW ?_;intro o2 es ep dT fO _)
   rw [e,ho] at dT;(revert dT;refine si ?_;rintro rfl);rw [hd] at fO;exact (noConfusion_of_Nat Data.ctorIdx fO).elim
  refine q h' s.toks (X.weak fun b e=>.inr (aQ x.str (e ▸ qX))) ⟨H,S.gens,S.os⟩ ⟨F.kind,F.glob,F.blt,(aB _ (hn.sameBut hs bu) (fun y u e k=>?_)),fun y u e k=>?_,fun n c' N9=>?_,F.apart,F.loc,F.kH⟩
  ·have kI:y≠x:=by
    rintro rfl
    rw [hl] at k;cases k
   simp only [kG,if_neg kI] at e
   (refine au ?_ (hm y u e k);intro cu a b)
   exact (aB cu a (VR.mono tx _ b))
  ·by_cases kI:y=x
   ·subst kI
    simp only [kG,if_true,Option.some.injEq] at e
    subst e
    exact (cA c cv jH gG (VR.mono tx _ hv))
   ·simp only [kG,if_neg kI] at e
    (refine cW ?_ (F.cell y u e k);intro c' cu a Oa b)
    have kJ:c'≠c:=fun e'=>kI (Nm.str_inj (name_of_addr F.apart (mem_of_lookup a) (e' ▸ qX)))
    exact (cA c' cu a (Oa.sameBut hs kJ) (VR.mono tx _ b))
  ·(refine ve ?_ (F.cells n c' N9);intro v gj b d)
   by_cases kJ:c'=c
   ·subst kJ;exact ⟨(aQ _ gG),b,d⟩
   ·exact ⟨(aQ v (gj.sameBut hs kJ)),b,d⟩
theorem FR.weak {ae:Loc} (F:FR C env ρ ι h) (k:∀ y v,ae y=some v->ρ y=some v):FR C env ae ι h :=
 ⟨F.kind,F.glob,F.blt,(let ⟨m,a,b⟩:=F.ns;(aB m a (fun x v e=>b x v (k x v e)))),fun x v e=>F.cell x v (k x v e),F.cells,F.apart,F.loc,F.kH⟩
end
noncomputable def bZ:Expr->Bool
 | .Set .. | .Starred .. | .Slice ..=>false
 | _=>true
noncomputable def pH:Expr->Bool
 | .Call _ [] _ _=>false
 | .Set .. | .Starred .. | .Slice ..=>false
 | _=>true
theorem g9 {a b:Bool} (h:(a&&b)=true):a=true/\b=true:=(Bool.and_eq_true a b ▸ h :)
theorem aw {a b:Bool} {G:Prop} (k:a=true->b=true->G) (h:(a&&b)=true):G:=k (g9 h).1 (g9 h).2
noncomputable def l0 {α:Type}:List α->Bool
 | []=>true
 | _::_=>false
noncomputable def lc {α:Type} (l:List α) (k:α->List α->Bool):Bool:=match l with
 | a::r=>k a r
 | []=>false
noncomputable def oS {α:Type} (o:Option α) (k:α->Bool):Bool:=match o with
 | some a=>k a
 | none=>false
noncomputable def l1 {α:Type} (l:List α) (k:α->Bool):Bool:=lc l fun a r=>l0 r&&k a
noncomputable def l2 {α:Type} (l:List α) (k:α->α->Bool):Bool:=lc l fun a r=>l1 r (k a)
theorem ir {α:Type} {l:List α} (h:l0 l=true):l=[]:=by
 induction l using List.casesOn with
 | nil=>rfl
 | cons _ _=>exact du h
@[elab_as_elim] theorem GK {α:Type} {P:List α->Prop} {l:List α} (h:l0 l=true) (q:P []):P l:=ir h ▸ q
@[elab_as_elim] theorem kK {α:Type} {P:List α->Prop} {l:List α} {k:α->List α->Bool} (h:lc l k=true) (k':∀ a r,k a r=true->P (a::r)):P l:=by
 induction l using List.casesOn with
 | nil=>exact du h
 | cons a r=>exact k' a r h
@[elab_as_elim] theorem pI {α:Type} {P:Option α->Prop} {o:Option α} {k:α->Bool} (h:oS o k=true) (k':∀ a,k a=true->P (some a)):P o:=by
 induction o with
 | none=>exact du h
 | some a=>exact k' a h
@[elab_as_elim] theorem jh {α:Type} {P:List α->Prop} {l:List α} {k:α->Bool} (h:l1 l k=true) (k':∀ a,k a=true->P [a]):P l :=
 kK h fun a r h=>GK (P:=fun r=>P (a::r)) (g9 h).1 (k' a (g9 h).2)
@[elab_as_elim] theorem nE {α:Type} {P:List α->Prop} {l:List α} {k:α->α->Bool} (h:l2 l k=true) (k':∀ a b,k a b=true->P [a,b]):P l :=
 kK h fun a r h=>jh (P:=fun r=>P (a::r)) h (k' a)
noncomputable def iB (n i:Nat) (f:n=i->Bool):Bool:=if h:n=i then f h else false
theorem fm {n i:Nat} {f:n=i->Bool} (h:iB n i f=true):∃ q,f q=true :=
 if q:n=i then (aQ q ((dif_pos q).symm.trans h)) else (Bool.false_ne_true ((dif_neg q).symm.trans h)).elim
noncomputable def aC (e:Expr) (k:Const->Bool):Bool:=iB e.ctorIdx 19 fun q=>Expr.Constant.elim (motive_1:=fun Y=>Bool) e q (fun c Y Y=>k c)
@[elab_as_elim] theorem jI {P:Expr->Prop} {e:Expr} {k:Const->Bool} (h:aC e k=true) (k':∀ c n p,k c=true->P (.Constant c n p)):P e :=
 (fm h).elim fun q h=>Expr.Constant.elim (motive_1:=fun tt=>∀ q,Expr.Constant.elim (motive_1:=fun Y=>Bool) tt q (fun c Y Y=>k c)=true->P tt) e q (fun c n p Y h=>k' c n p h) q h
noncomputable def sW (e:Expr) (k:Str->Bool):Bool:=iB e.ctorIdx 23 fun q=>Expr.Name.elim (motive_1:=fun Y=>Bool) e q (fun x Y=>k x)
@[elab_as_elim] theorem qY {P:Expr->Prop} {e:Expr} {k:Str->Bool} (h:sW e k=true) (k':∀ x p,k x=true->P (.Name x p)):P e :=
 (fm h).elim fun q h=>Expr.Name.elim (motive_1:=fun tt=>∀ q,Expr.Name.elim (motive_1:=fun Y=>Bool) tt q (fun x Y=>k x)=true->P tt) e q (fun x p Y h=>k' x p h) q h
noncomputable def mh (e:Expr) (k:Expr->Str->Pos->Bool):Bool:=iB e.ctorIdx 20 fun q=>Expr.Attribute.elim (motive_1:=fun Y=>Bool) e q (k)
@[elab_as_elim] theorem nF {P:Expr->Prop} {e:Expr} {k:Expr->Str->Pos->Bool} (h:mh e k=true) (k':∀ v g p,k v g p=true->P (.Attribute v g p)):P e :=
 (fm h).elim fun q h=>Expr.Attribute.elim (motive_1:=fun tt=>∀ q,Expr.Attribute.elim (motive_1:=fun Y=>Bool) tt q (k)=true->P tt) e q (fun v g p Y h=>k' v g p h) q h
noncomputable def nG (e:Expr) (k:Expr->Expr->Bool):Bool:=iB e.ctorIdx 21 fun q=>Expr.Subscript.elim (motive_1:=fun Y=>Bool) e q (fun v s Y=>k v s)
@[elab_as_elim] theorem nH {P:Expr->Prop} {e:Expr} {k:Expr->Expr->Bool} (h:nG e k=true) (k':∀ v s p,k v s=true->P (.Subscript v s p)):P e :=
 (fm h).elim fun q h=>Expr.Subscript.elim (motive_1:=fun tt=>∀ q,Expr.Subscript.elim (motive_1:=fun Y=>Bool) tt q (fun v s Y=>k v s)=true->P tt) e q (fun v s p Y h=>k' v s p h) q h
noncomputable def zn (e:Expr) (k:UnaryOp->Expr->Bool):Bool:=iB e.ctorIdx 3 fun q=>Expr.UnaryOp.elim (motive_1:=fun Y=>Bool) e q (fun o x Y=>k o x)
@[elab_as_elim] theorem zo {P:Expr->Prop} {e:Expr} {k:UnaryOp->Expr->Bool} (h:zn e k=true) (k':∀ o x p,k o x=true->P (.UnaryOp o x p)):P e :=
 (fm h).elim fun q h=>Expr.UnaryOp.elim (motive_1:=fun tt=>∀ q,Expr.UnaryOp.elim (motive_1:=fun Y=>Bool) tt q (fun o x Y=>k o x)=true->P tt) e q (fun o x p Y h=>k' o x p h) q h
noncomputable def GL (e:Expr) (k:Expr->Operator->Expr->Bool):Bool:=iB e.ctorIdx 2 fun q=>Expr.BinOp.elim (motive_1:=fun Y=>Bool) e q (fun a o b Y=>k a o b)
@[elab_as_elim] theorem Ob {P:Expr->Prop} {e:Expr} {k:Expr->Operator->Expr->Bool} (h:GL e k=true) (k':∀ a o b p,k a o b=true->P (.BinOp a o b p)):P e :=
 (fm h).elim fun q h=>Expr.BinOp.elim (motive_1:=fun tt=>∀ q,Expr.BinOp.elim (motive_1:=fun Y=>Bool) tt q (fun a o b Y=>k a o b)=true->P tt) e q (fun a o b p Y h=>k' a o b p h) q h
noncomputable def zp (e:Expr) (k:Expr->List CmpOp->List Expr->Bool):Bool:=iB e.ctorIdx 15 fun q=>Expr.Compare.elim (motive_1:=fun Y=>Bool) e q (fun a o b Y=>k a o b)
@[elab_as_elim] theorem GN {P:Expr->Prop} {e:Expr} {k:Expr->List CmpOp->List Expr->Bool} (h:zp e k=true) (k':∀ a o b p,k a o b=true->P (.Compare a o b p)):P e :=
 (fm h).elim fun q h=>Expr.Compare.elim (motive_1:=fun tt=>∀ q,Expr.Compare.elim (motive_1:=fun Y=>Bool) tt q (fun a o b Y=>k a o b)=true->P tt) e q (fun a o b p Y h=>k' a o b p h) q h
noncomputable def zq (e:Expr) (k:BoolOp->List Expr->Bool):Bool:=iB e.ctorIdx 0 fun q=>Expr.BoolOp.elim (motive_1:=fun Y=>Bool) e q (fun o vs Y=>k o vs)
@[elab_as_elim] theorem vZ {P:Expr->Prop} {e:Expr} {k:BoolOp->List Expr->Bool} (h:zq e k=true) (k':∀ o vs p,k o vs=true->P (.BoolOp o vs p)):P e :=
 (fm h).elim fun q h=>Expr.BoolOp.elim (motive_1:=fun tt=>∀ q,Expr.BoolOp.elim (motive_1:=fun Y=>Bool) tt q (fun o vs Y=>k o vs)=true->P tt) e q (fun o vs p Y h=>k' o vs p h) q h
noncomputable def GO (e:Expr) (k:Expr->Expr->Expr->Bool):Bool:=iB e.ctorIdx 5 fun q=>Expr.IfExp.elim (motive_1:=fun Y=>Bool) e q (fun x y z Y=>k x y z)
@[elab_as_elim] theorem Oc {P:Expr->Prop} {e:Expr} {k:Expr->Expr->Expr->Bool} (h:GO e k=true) (k':∀ x y z p,k x y z=true->P (.IfExp x y z p)):P e :=
 (fm h).elim fun q h=>Expr.IfExp.elim (motive_1:=fun tt=>∀ q,Expr.IfExp.elim (motive_1:=fun Y=>Bool) tt q (fun x y z Y=>k x y z)=true->P tt) e q (fun x y z p Y h=>k' x y z p h) q h
noncomputable def sX (e:Expr) (k:List Expr->Bool):Bool:=iB e.ctorIdx 25 fun q=>Expr.Tuple.elim (motive_1:=fun Y=>Bool) e q (fun vs Y Y=>k vs)
@[elab_as_elim] theorem sY {P:Expr->Prop} {e:Expr} {k:List Expr->Bool} (h:sX e k=true) (k':∀ vs n p,k vs=true->P (.Tuple vs n p)):P e :=
 (fm h).elim fun q h=>Expr.Tuple.elim (motive_1:=fun tt=>∀ q,Expr.Tuple.elim (motive_1:=fun Y=>Bool) tt q (fun vs Y Y=>k vs)=true->P tt) e q (fun vs n p Y h=>k' vs n p h) q h
noncomputable def GP (e:Expr) (k:List Expr->Bool):Bool:=iB e.ctorIdx 24 fun q=>Expr.List.elim (motive_1:=fun Y=>Bool) e q (fun vs Y=>k vs)
@[elab_as_elim] theorem Od {P:Expr->Prop} {e:Expr} {k:List Expr->Bool} (h:GP e k=true) (k':∀ vs p,k vs=true->P (.List vs p)):P e :=
 (fm h).elim fun q h=>Expr.List.elim (motive_1:=fun tt=>∀ q,Expr.List.elim (motive_1:=fun Y=>Bool) tt q (fun vs Y=>k vs)=true->P tt) e q (fun vs p Y h=>k' vs p h) q h
noncomputable def v3 (e:Expr) (k:List (Option Expr)->List Expr->Bool):Bool:=iB e.ctorIdx 6 fun q=>Expr.Dict.elim (motive_1:=fun Y=>Bool) e q (fun ks vs Y=>k ks vs)
@[elab_as_elim] theorem zr {P:Expr->Prop} {e:Expr} {k:List (Option Expr)->List Expr->Bool} (h:v3 e k=true) (k':∀ ks vs p,k ks vs=true->P (.Dict ks vs p)):P e :=
 (fm h).elim fun q h=>Expr.Dict.elim (motive_1:=fun tt=>∀ q,Expr.Dict.elim (motive_1:=fun Y=>Bool) tt q (fun ks vs Y=>k ks vs)=true->P tt) e q (fun ks vs p Y h=>k' ks vs p h) q h
noncomputable def GQ (e:Expr) (k:Expr->List Comprehension->Scope->Bool):Bool:=iB e.ctorIdx 8 fun q=>Expr.ListComp.elim (motive_1:=fun Y=>Bool) e q (fun x gs sub Y=>k x gs sub)
@[elab_as_elim] theorem Oe {P:Expr->Prop} {e:Expr} {k:Expr->List Comprehension->Scope->Bool} (h:GQ e k=true) (k':∀ x gs sub p,k x gs sub=true->P (.ListComp x gs sub p)):P e :=
 (fm h).elim fun q h=>Expr.ListComp.elim (motive_1:=fun tt=>∀ q,Expr.ListComp.elim (motive_1:=fun Y=>Bool) tt q (fun x gs sub Y=>k x gs sub)=true->P tt) e q (fun x gs sub p Y h=>k' x gs sub p h) q h
noncomputable def GR (e:Expr) (k:Expr->List Expr->List Keyword->Pos->Bool):Bool:=iB e.ctorIdx 16 fun q=>Expr.Call.elim (motive_1:=fun Y=>Bool) e q (k)
@[elab_as_elim] theorem Of {P:Expr->Prop} {e:Expr} {k:Expr->List Expr->List Keyword->Pos->Bool} (h:GR e k=true) (k':∀ f as ks p,k f as ks p=true->P (.Call f as ks p)):P e :=
 (fm h).elim fun q h=>Expr.Call.elim (motive_1:=fun tt=>∀ q,Expr.Call.elim (motive_1:=fun Y=>Bool) tt q (k)=true->P tt) e q (fun f as ks p Y h=>k' f as ks p h) q h
noncomputable def zs (e:Expr) (k:Option Expr->Option Expr->Option Expr->Bool):Bool:=iB e.ctorIdx 26 fun q=>Expr.Slice.elim (motive_1:=fun Y=>Bool) e q (fun a b c Y=>k a b c)
@[elab_as_elim] theorem zt {P:Expr->Prop} {e:Expr} {k:Option Expr->Option Expr->Option Expr->Bool} (h:zs e k=true) (k':∀ a b c p,k a b c=true->P (.Slice a b c p)):P e :=
 (fm h).elim fun q h=>Expr.Slice.elim (motive_1:=fun tt=>∀ q,Expr.Slice.elim (motive_1:=fun Y=>Bool) tt q (fun a b c Y=>k a b c)=true->P tt) e q (fun a b c p Y h=>k' a b c p h) q h
noncomputable def GS (e:Stmt) (k:List Expr->Expr->Bool):Bool:=iB e.ctorIdx 5 fun q=>Stmt.Assign.elim (motive_2:=fun Y=>Bool) e q (fun ts v Y=>k ts v)
@[elab_as_elim] theorem Og {P:Stmt->Prop} {e:Stmt} {k:List Expr->Expr->Bool} (h:GS e k=true) (k':∀ ts v p,k ts v=true->P (.Assign ts v p)):P e :=
 (fm h).elim fun q h=>Stmt.Assign.elim (motive_2:=fun tt=>∀ q,Stmt.Assign.elim (motive_2:=fun Y=>Bool) tt q (fun ts v Y=>k ts v)=true->P tt) e q (fun ts v p Y h=>k' ts v p h) q h
noncomputable def v4 (e:Stmt) (k:Expr->Operator->Expr->Bool):Bool:=iB e.ctorIdx 7 fun q=>Stmt.AugAssign.elim (motive_2:=fun Y=>Bool) e q (fun t o v Y=>k t o v)
@[elab_as_elim] theorem zu {P:Stmt->Prop} {e:Stmt} {k:Expr->Operator->Expr->Bool} (h:v4 e k=true) (k':∀ t o v p,k t o v=true->P (.AugAssign t o v p)):P e :=
 (fm h).elim fun q h=>Stmt.AugAssign.elim (motive_2:=fun tt=>∀ q,Stmt.AugAssign.elim (motive_2:=fun Y=>Bool) tt q (fun t o v Y=>k t o v)=true->P tt) e q (fun t o v p Y h=>k' t o v p h) q h
noncomputable def GU (e:Stmt) (k:Expr->Bool):Bool:=iB e.ctorIdx 24 fun q=>Stmt.Expr.elim (motive_2:=fun Y=>Bool) e q (fun v Y=>k v)
@[elab_as_elim] theorem Oh {P:Stmt->Prop} {e:Stmt} {k:Expr->Bool} (h:GU e k=true) (k':∀ v p,k v=true->P (.Expr v p)):P e :=
 (fm h).elim fun q h=>Stmt.Expr.elim (motive_2:=fun tt=>∀ q,Stmt.Expr.elim (motive_2:=fun Y=>Bool) tt q (fun v Y=>k v)=true->P tt) e q (fun v p Y h=>k' v p h) q h
noncomputable def GV (e:Stmt) (k:Expr->List Stmt->List Stmt->Bool):Bool:=iB e.ctorIdx 12 fun q=>Stmt.If.elim (motive_2:=fun Y=>Bool) e q (fun t x y Y=>k t x y)
@[elab_as_elim] theorem Oi {P:Stmt->Prop} {e:Stmt} {k:Expr->List Stmt->List Stmt->Bool} (h:GV e k=true) (k':∀ t x y p,k t x y=true->P (.If t x y p)):P e :=
 (fm h).elim fun q h=>Stmt.If.elim (motive_2:=fun tt=>∀ q,Stmt.If.elim (motive_2:=fun Y=>Bool) tt q (fun t x y Y=>k t x y)=true->P tt) e q (fun t x y p Y h=>k' t x y p h) q h
noncomputable def GW (e:Stmt) (k:Expr->List Stmt->List Stmt->Bool):Bool:=iB e.ctorIdx 11 fun q=>Stmt.While.elim (motive_2:=fun Y=>Bool) e q (fun t x y Y=>k t x y)
@[elab_as_elim] theorem Oj {P:Stmt->Prop} {e:Stmt} {k:Expr->List Stmt->List Stmt->Bool} (h:GW e k=true) (k':∀ t x y p,k t x y=true->P (.While t x y p)):P e :=
 (fm h).elim fun q h=>Stmt.While.elim (motive_2:=fun tt=>∀ q,Stmt.While.elim (motive_2:=fun Y=>Bool) tt q (fun t x y Y=>k t x y)=true->P tt) e q (fun t x y p Y h=>k' t x y p h) q h
noncomputable def GX (e:Stmt) (k:Expr->Expr->List Stmt->List Stmt->Bool):Bool:=iB e.ctorIdx 9 fun q=>Stmt.For.elim (motive_2:=fun Y=>Bool) e q (fun t i x y Y=>k t i x y)
@[elab_as_elim] theorem Ok {P:Stmt->Prop} {e:Stmt} {k:Expr->Expr->List Stmt->List Stmt->Bool} (h:GX e k=true) (k':∀ t i x y p,k t i x y=true->P (.For t i x y p)):P e :=
 (fm h).elim fun q h=>Stmt.For.elim (motive_2:=fun tt=>∀ q,Stmt.For.elim (motive_2:=fun Y=>Bool) tt q (fun t i x y Y=>k t i x y)=true->P tt) e q (fun t i x y p Y h=>k' t i x y p h) q h
noncomputable def zv (e:Stmt) (k:Option Expr->Bool):Bool:=iB e.ctorIdx 3 fun q=>Stmt.Return.elim (motive_2:=fun Y=>Bool) e q (fun v Y=>k v)
@[elab_as_elim] theorem GY {P:Stmt->Prop} {e:Stmt} {k:Option Expr->Bool} (h:zv e k=true) (k':∀ v p,k v=true->P (.Return v p)):P e :=
 (fm h).elim fun q h=>Stmt.Return.elim (motive_2:=fun tt=>∀ q,Stmt.Return.elim (motive_2:=fun Y=>Bool) tt q (fun v Y=>k v)=true->P tt) e q (fun v p Y h=>k' v p h) q h
noncomputable def zw:Const->Bool
 | .none=>true
 | _=>false
noncomputable def GZ (b:Bool):Const->Bool
 | .bool c=>b==c
 | _=>false
noncomputable def qZ (i:Int):Const->Bool
 | .int j=>i==j
 | _=>false
noncomputable def G0 (x:Str):Const->Bool
 | .str s=>s==x
 | _=>false
theorem zx {c:Const} (h:zw c=true):c=.none:=by
 induction c using Const.casesOn <;> first | rfl | exact absurd h Bool.false_ne_true
theorem Ol {b:Bool} {c:Const} (h:GZ b c=true):c=.bool b:=by
 induction c using Const.casesOn <;> first | exact (congrArg Const.bool (eq_of_beq h)).symm | exact absurd h Bool.false_ne_true
theorem pJ {i:Int} {c:Const} (h:qZ i c=true):c=.int i:=by
 induction c using Const.casesOn <;> first | exact (congrArg Const.int (eq_of_beq h)).symm | exact absurd h Bool.false_ne_true
theorem Om {x:Str} {c:Const} (h:G0 x c=true):c=.str x:=by
 induction c using Const.casesOn <;> first | exact congrArg Const.str (eq_of_beq h) | exact absurd h Bool.false_ne_true
noncomputable def iu (e:Expr) (k:Expr->List Expr->Pos->Bool):Bool:=GR e fun f as ks p=>l0 ks&&k f as p
@[elab_as_elim] theorem iw {P:Expr->Prop} {e:Expr} {k:Expr->List Expr->Pos->Bool} (h:iu e k=true) (k':∀ f as p,k f as p=true->P (.Call f as [] p)):P e :=
 Of h fun f as ks p h=>GK (P:=fun ks=>P (.Call f as ks p)) (g9 h).1 (k' f as p (g9 h).2)
noncomputable def q1 (e:Expr) (k:Expr->CmpOp->Expr->Bool):Bool:=zp e fun a os bs=>l1 os fun o=>l1 bs fun b=>k a o b
@[elab_as_elim] theorem lE {P:Expr->Prop} {e:Expr} {k:Expr->CmpOp->Expr->Bool} (h:q1 e k=true) (k':∀ a o b p,k a o b=true->P (.Compare a [o] [b] p)):P e :=
 GN h fun a os bs p h=>jh (P:=fun os=>P (.Compare a os bs p)) h fun o h=>jh (P:=fun bs=>P (.Compare a [o] bs p)) h fun b h=>k' a o b p h
noncomputable def q3 (e:Stmt) (k:Expr->Expr->Bool):Bool:=GS e fun ts v=>l1 ts fun t=>k t v
@[elab_as_elim] theorem q4 {P:Stmt->Prop} {e:Stmt} {k:Expr->Expr->Bool} (h:q3 e k=true) (k':∀ t v p,k t v=true->P (.Assign [t] v p)):P e :=
 Og h fun ts v p h=>jh (P:=fun ts=>P (.Assign ts v p)) h fun t h=>k' t v p h
noncomputable def G1 (g:Comprehension) (k:Str->Expr->List Expr->Bool):Bool:=g.is_async==0&&sW g.target fun x=>k x g.iter g.ifs
theorem On {g:Comprehension} {k:Str->Expr->List Expr->Bool} (h:G1 g k=true):∃ x p i l,g=⟨.Name x p,i,l,0⟩/\k x i l=true:=by
 obtain ⟨t,i,l,a⟩:=g
 (refine ay ?_ (g9 h);intro h0 h)
 obtain rfl:a=0:=eq_of_beq h0
 exact qY (P:=fun t=>∃ x' p i' l',(⟨t,i,l,0⟩:Comprehension)=⟨.Name x' p,i',l',0⟩/\k x' i' l'=true) h fun x p h=>MP x p i l rfl h
noncomputable def Oo:Expr->Bool
 | .Call ..=>true
 | _=>false
noncomputable def ji (sc:Scope) (x:Str) (e:Expr):Bool:=sW e fun id=>id==x&&sc.names.lookup x==some .globalImplicit&&!(x==("__debug__":Str))
noncomputable def sZ (x:Str) (e:Expr):Bool:=aC e (G0 x)
noncomputable def s0 (sc sub:Scope) (x:Nm) (frees:List Nm):Bool :=
 sub.kind==.function&&sub.names.lookup x.str==some .local&&sub.names.all (fun y=>y.2 != .cell)&&sub.names.all (fun y=>y.2 != .local||sub.names.lookup y.1==some .local) &&
 sub.names.all (fun y=>y.2 != .free||(sub.names.lookup y.1==some .free&&sc.names.lookup y.1==some .cell))&&frees.all (fun y=>sub.names.lookup y.str==some .free&&y.str != x.str)&&decide ((sub.names.map (·.1)).Nodup)
noncomputable def jJ (sc sub:Scope):Scope:={ sub with names:=sub.names.map fun (n,k)=>if (k==.free&&sc.kind==.function&&sc.names.lookup n==some .cell) then (n,.cell) else (n,k) }
mutual
noncomputable def mE (sc:Scope):Ex->Expr->Bool
 | .none,e=>aC e zw
 | .bool b,e=>aC e (GZ b)
 | .int i,e=>aC e (qZ i)
 | .neg i,e=>zn e fun o x=>o==.USub&&aC x (qZ i)
 | .nm x,e=>sW e fun id=>id==x.str&&qW sc x&&vW x
 | .gi x i,e=>ji sc x.str e&&x.vC==some i
 | .ba a f,e=>mh e fun v g Y=>g==f.str&&pH v&&mE sc a v
 | .sub a i,e=>nG e fun v s=>bZ s&&mE sc a v&&mE sc i s
 | .ss a f,e=>nG e fun v s=>sZ f.str s&&mE sc a v
 | .slt a i,e=>nG e fun v s=>zs s fun p q r=>p.isNone&&(r.isNone&&oS q fun hi=>mE sc a v&&mE sc i hi)
 | .nz a i,e=>nG e fun v s=>zs s fun p q r=>q.isNone&&(r.isNone&&oS p fun lo=>mE sc a v&&mE sc i lo)
 | .bin op l r,e=>GL e fun a o b=>o==op.op&&mE sc l a&&mE sc r b
 | .cmp op l r,e=>q1 e fun a o b=>o==op.op&&bZ b&&mE sc l a&&mE sc r b
 | .kB o1 o2 a b c,e=>zp e fun x os cs=>l2 os fun p q=>l2 cs fun y z=>p==o1.op&&q==o2.op&&bZ y&&bZ z&&mE sc a x&&mE sc b y&&mE sc c z
 | .eq ng l r,e=>q1 e fun a o b=>o==(if ng then .NotEq else .Eq)&&bZ b&&mE sc l a&&mE sc r b
 | .cc ng a,e=>q1 e fun x o c=>aC c zw&&(o==(if ng then .IsNot else .Is)&&mE sc a x)
 | .fV ng k d,e=>q1 e fun a o b=>o==(if ng then .NotIn else .In)&&bZ b&&mE sc k a&&mE sc d b
 | .lD ng a,e=>q1 e fun x o t=>sX t fun vs=>l2 vs fun p q=>aC p (qZ 0)&&(aC q (qZ 1)&&(o==(if ng then .NotIn else .In)&&mE sc a x))
 | .and es,e=>zq e fun o vs=>o==.And&&gH sc es vs
 | .or es,e=>zq e fun o vs=>o==.Or&&gH sc es vs
 | .not a,e=>zn e fun o x=>o==.Not&&mE sc a x
 | .ite c a b,e=>GO e fun x y z=>mE sc c x&&mE sc a y&&mE sc b z
 | .tup es,e=>sX e fun vs=>gH sc es vs
 | .list es,e=>GP e fun vs=>gH sc es vs
 | .gh,e=>v3 e fun ks vs=>l0 ks&&l0 vs
 | .pB k a,e=>v3 e fun ks vs=>l1 ks fun x=>l1 vs fun v=>oS x fun x=>aC x (qZ k)&&mE sc a v
 | .bl es,e=>v3 e fun ks vs=>!es.isEmpty&&decide (es.length<=15)&&v5 sc es ks vs
 | .comp elt x frees bJ it cond,e=>GQ e fun el gs sub=>l1 gs fun g=>G1 g fun id iter ifs=>id==x.str&&s0 sc sub x frees&&(match bJ with
     | true=>iu iter fun f as Y=>l1 as fun a=>ji sc (Str.ofString "range") f&&bZ a&&mE sc it a
     | false=>bZ iter&&mE sc it iter)&&mE (jJ sc sub) elt el&&mO (jJ sc sub) cond ifs
 | .call f es,e=>iu e fun g args Y=>f.glob&&ji sc f.str g&&gH sc es args&&decide (es.length<20)
 | .new c es,e=>iu e fun g args Y=>ji sc c.str g&&gH sc es args&&decide (es.length<20)
 | .jA a c f es,e=>iu e fun fn args p=>mh fn fun o g ap=>g==f.str&&pH o&&(ap.endLine==p.line)&&vG c f&&mE sc a o&&gH sc es args&&decide (es.length<20)
 | .app a x,e=>iu e fun fn args p=>mh fn fun o g ap=>l1 args fun y=>g==(Str.ofString "append")&&pH o&&(ap.endLine==p.line)&&bZ y&&mE sc a o&&mE sc x y
 | .pop a,e=>iu e fun fn args p=>mh fn fun o g ap=>l0 args&&(g==(Str.ofString "pop")&&pH o&&(ap.endLine==p.line)&&mE sc a o)
 | .nA a k,e=>iu e fun fn args p=>mh fn fun o g ap=>l1 args fun y=>g==(Str.ofString "get")&&pH o&&(ap.endLine==p.line)&&bZ y&&mE sc a o&&mE sc k y
 | .nB a k d,e=>iu e fun fn args p=>mh fn fun o g ap=>l2 args fun y z=>g==(Str.ofString "get")&&pH o&&(ap.endLine==p.line)&&bZ y&&bZ z&&mE sc a o&&mE sc k y&&mE sc d z
 | .len a,e=>iu e fun g args Y=>l1 args fun y=>ji sc (Str.ofString "len") g&&bZ y&&mE sc a y
 | .min a b,e=>iu e fun g args Y=>l2 args fun y z=>ji sc (Str.ofString "min") g&&bZ y&&bZ z&&mE sc a y&&mE sc b z
 | .max a b,e=>iu e fun g args Y=>l2 args fun y z=>ji sc (Str.ofString "max") g&&bZ y&&bZ z&&mE sc a y&&mE sc b z
 | .tuple a,e=>iu e fun g args Y=>l1 args fun y=>ji sc (Str.ofString "tuple") g&&bZ y&&mE sc a y
 | .nC a,e=>iu e fun g args Y=>l2 args fun y t=>ji sc (Str.ofString "isinstance") g&&bZ y&&ji sc (Str.ofString "bool") t&&mE sc a y
noncomputable def gH (sc:Scope):List Ex->List Expr->Bool
 | [],vs=>l0 vs
 | a::es,vs=>lc vs fun v vs=>bZ v&&mE sc a v&&gH sc es vs
noncomputable def v5 (sc:Scope):List (Nm × Ex)->List (Option Expr)->List Expr->Bool
 | [],ks,vs=>l0 ks&&l0 vs
 | (f,a)::es,ks,vs=>lc ks fun k ks=>lc vs fun v vs=>oS k fun k=>sZ f.str k&&mE sc a v&&v5 sc es ks vs
noncomputable def mO (sc:Scope):Option Ex->List Expr->Bool
 | .none,ifs=>l0 ifs
 | some c,ifs=>l1 ifs fun i=>mE sc c i
end
noncomputable def s1 (sc:Scope) (bJ:Bool) (it:Ex) (iter:Expr):Bool:=match bJ with
 | true=>iu iter fun f as Y=>l1 as fun a=>ji sc (Str.ofString "range") f&&bZ a&&mE sc it a
 | false=>bZ iter&&mE sc it iter
noncomputable def mi (sc:Scope) (x:Nm) (t:Expr):Bool:=sW t fun id=>id==x.str&&vX sc x
noncomputable def q5 (sc:Scope):List Nm->List Expr->Bool
 | [],[]=>true
 | x::xs,t::ts=>mi sc x t&&q5 sc xs ts
 | _,_=>false
noncomputable def mT (sc:Scope) (xs:List Nm) (t:Expr):Bool:=match xs with
 | [x]=>mi sc x t
 | []=>false
 | x::y::r=>sX t fun ts=>q5 sc (x::y::r) ts
noncomputable def G2:Expr->Bool
 | .Tuple ..=>true
 | _=>false
mutual
noncomputable def mS (sc:Scope):Sm->Stmt->Bool
 | .as x e,s=>q3 s fun t v=>mi sc x t&&bZ v&&mE sc e v
 | .aa o f e,s=>q3 s fun t v=>mh t fun o' g Y=>g==f.str&&bZ o'&&mE sc o o'&&bZ v&&mE sc e v
 | .dU o i e,s=>q3 s fun t v=>nG t fun o' i'=>bZ i'&&bZ o'&&mE sc o o'&&mE sc i i'&&bZ v&&mE sc e v
 | .jG o f e,s=>q3 s fun t v=>nG t fun o' i'=>sZ f.str i'&&bZ o'&&mE sc o o'&&bZ v&&mE sc e v
 | .at2 xs e,s=>q3 s fun t v=>mT sc xs t&&G2 t&&!G2 v&&bZ v&&mE sc e v
 | .ag x op e,s=>v4 s fun t o v=>mi sc x t&&o==op.op&&qW sc x&&mE sc e v
 | .kC o f op e,s=>v4 s fun t p v=>mh t fun o' g Y=>g==f.str&&p==op.op&&mE sc o o'&&mE sc e v
 | .pC o f op e,s=>v4 s fun t p v=>nG t fun o' i'=>sZ f.str i'&&p==op.op&&mE sc o o'&&mE sc e v
 | .ex e,s=>GU s fun v=>bZ v&&mE sc e v&&Oo v
 | .iff c a b,s=>GV s fun t x y=>mE sc c t&&mB sc a x&&mB sc b y
 | .wh c b,s=>GW s fun t x y=>l0 y&&(mE sc c t&&mB sc b x)
 | .fo xs bJ it b,s=>GX s fun t iter x y=>l0 y&&(mT sc xs t&&s1 sc bJ it iter&&mB sc b x)
 | .ret e,s=>zv s fun o=>oS o fun v=>mE sc e v
 | .nD,s=>zv s fun o=>o.isNone
noncomputable def mB (sc:Scope):List Sm->List Stmt->Bool
 | [],ss=>l0 ss
 | a::r,ss=>lc ss fun s ss=>mS sc a s&&mB sc r ss
end
theorem q6 {e:Expr} {rest:List Expr} {env:Env} (h:bZ e=true):starEach (e::rest) env=(false,eval e env)::starEach rest env:=by
 induction e using Expr.casesOn <;> first | rfl | exact absurd h Bool.false_ne_true
theorem Op {e:Expr} {env:Env} {x:Value} (h:bZ e=true):foldedSetIterable e env x=pure x:=by
 induction e using Expr.casesOn <;> first | rfl | exact absurd h Bool.false_ne_true
theorem kM {op:CmpOp} {e:Expr} (h:bZ e=true):behindInMarks op e=false:=by
 induction e using Expr.casesOn <;> first | rfl | exact absurd h Bool.false_ne_true
theorem G3 {e:Expr} (h:bZ e=true):∀ a b p,e≠.Slice a b none p:=by
 rintro a b p rfl;exact absurd h Bool.false_ne_true
theorem q7 {o:Expr} {attr:Str} {env:Env} {whole:Sem Value} (h:pH o=true):attributeBase o attr env whole=whole:=by
 induction o using Expr.casesOn with
 | Call f args ks p =>
  induction args using List.casesOn with
  | nil=>exact absurd h Bool.false_ne_true
  | cons a r=>first | rfl | (induction f using Expr.casesOn <;> rfl)
 | _=>rfl
section
variable {C:Cx} {ι:bf} {σ:AH} {s:Shared} {A:Around} {E:Value->Shared->Prop} {n:Nat} {env:Env} {ρ:Loc}
noncomputable def lF (C:Cx) (ι:bf) (h:Heap) (K:Bool->AH->Prop) (b:Bool) (s':Shared):Prop :=
 ∃ V aK,Ext ι h aK s'.heap/\St C aK V s'/\K b V
theorem lF.trans {ι aK:bf} {h h':Heap} {K:Bool->AH->Prop} {b:Bool} {s':Shared} (x:Ext ι h aK h') (p:lF C aK h' K b s'):lF C ι h K b s' :=
 let ⟨V,sK,e,r⟩:=p;(jb V sK (x.trans e) r)
noncomputable def Oq (C:Cx) (ι:bf) (h:Heap) (Q:List AV->AH->Prop) (cD:List Value) (s':Shared):Prop :=
 ∃ vs V aK,Ext ι h aK s'.heap/\St C aK V s'/\aI aK s'.heap vs cD/\Q vs V
theorem v6 {v:AV} {cv:Value} {b:Bool} {Q:Bool->Shared->Prop} (S:St C ι σ s) (hv:VR ι s.heap v cv) (ht:dD v=some b) (q:Q b s):wpAny (model C.prog C.w) A (truthy cv) Q E s:=by
 induction v using AV.casesOn with
 | none =>
  refine U hv.none_inv ?_
  (delta dD at ht;simp only [Option.some.injEq] at ht)
  subst ht
  exact fun Y Y Y=>q
 | bool b' =>
  refine U hv.bool_inv ?_
  (delta dD at ht;simp only [Option.some.injEq] at ht)
  subst ht
  exact wpAny_truthy_bool q
 | int i =>
  (refine aM ?_ (hv.int_inv);rintro t rfl)
  (delta dD at ht;simp only [Option.some.injEq] at ht)
  subst ht
  exact PySem.P.truthy_int q
 | _=>(delta dD at ht;simp at ht)
theorem Rm.le (hR:Rm A n) {m:Nat} (h:m<=n):Rm A m:=⟨hR.bP,by have:=hR.depth;lia,by have:=hR.units;lia⟩
theorem Rm.line (hR:Rm A n):A.units+80<cLine:=by
 have:=hR.units
 have:cLine=9900:=rfl
 lia
structure Rb (A:Around) (n:Nat):Prop where
 bP:A.handled=none
 depth:A.depth+3*n+2<=900
 units:A.units+20*n+17<=9000
theorem Rb.rm (hR:Rb A n):Rm A n:=⟨hR.bP,by have:=hR.depth;lia,by have:=hR.units;lia⟩
theorem Rb.line (hR:Rb A n):A.units+80<cLine:=hR.rm.line
theorem nI {id:String} (h:Heap):∃ k,(k=Keeper.frame∨k=Keeper.machine∨k=Keeper.boundFrame)/\Looks (model C.prog C.w) h (keeperOf (.builtin id)) k :=
 (aB (.machine) (.inr (.inl rfl)) (Looks.of_pure rfl))
theorem G4 {id:String} (h:Heap):∃ k,(k=Keeper.frame∨k=Keeper.machine∨k=Keeper.boundFrame)/\Looks (model C.prog C.w) h (keeperOf (.type id)) k :=
 (aB (.machine) (.inr (.inl rfl)) (Looks.of_pure rfl))
theorem Ot {es:List Expr} {pos:Pos} (h:∀ e∈es,bZ e=true):((backTo pos (starEach es env)).any (·.1))=false:=by
 induction es with
 | nil=>rfl
 | cons e r ih =>
  refine U (q6 (h e (.head _)) ..) ?_
  show (false||(backTo pos (starEach r env)).any (·.1))=false
  refine U (ih fun x hx=>h x (.tail _ hx) ..) ?_
  rfl
theorem Ou {f:Value} {es:List Expr} {pos:Pos} {Q:Args->Shared->Prop} (hp:∀ e∈es,bZ e=true)
  (h:wpAny (model C.prog C.w) A (spliced (backTo pos (starEach es env))) (fun vs s'=>Q ⟨vs,[]⟩ s') E s):wpAny (model C.prog C.w) A (evalArgs f true (backTo pos (starEach es env)) []) Q E s:=by
 induction es using List.casesOn with
 | nil =>
  exact fun Γ p G5=>evalArgs_nil3 (h Γ p G5) Γ p G5
 | cons e r =>
  rw [q6 (hp e (.head _))] at h ⊢
  exact PySem.Calls.evalArgs_plain h
end
inductive gz (ι:bf) (xs:List AV):Option (Nat × List AV)->Addr->Nat->Heap->Prop
 | list {r:Nat} {a it:Addr} {i:Nat} {h:Heap}:ι[r]?=some (a,a)->h.IsListIter it a i->gz ι xs (some (r,xs)) it i h
 | tup {a it:Addr} {i:Nat} {arr:Array Value} {h:Heap}:h.IsTupleIter it a i->h.IsTuple a arr->aI ι h xs arr.toList->gz ι xs none it i h
 | bJ {n i:Nat} {it:Addr} {h:Heap}:IsRangeIter h it (i:Int) ((n:Int) - (i:Int)) 1->xs=(List.range n).map (fun i=>AV.int (i:Nat))->gz ι xs none it i h
section
variable {C:Cx} {ι aK:bf} {σ V:AH} {s:Shared} {A:Around} {E:Value->Shared->Prop} {n:Nat} {env:Env} {ρ:Loc} {h h':Heap}
theorem gz.mono {xs:List AV} {g:Option (Nat × List AV)} {it:Addr} {i:Nat} (x:gz ι xs g it i h) (e:cH ι h aK h') (hk:∀ o,h.get? it=some o->h'.get? it=some o):gz aK xs g it i h':=by
 cases x with
 | list hr hit=>(revert hit;refine au ?_;intro o ho r);exact .list (e.pre _ _ hr) (aB o (hk _ ho) r)
 | tup hit ht hr=>(revert hit;refine au ?_;intro o ho r);exact .tup (aB o (hk _ ho) r) (e.tup _ _ ht) (aI.mono e _ hr)
 | bJ hit hx=>exact .bJ (hk _ hit) hx
theorem gz.alive {xs:List AV} {g:Option (Nat × List AV)} {it:Addr} {i:Nat} (x:gz ι xs g it i h):∃ o,h.get? it=some o/\∀ vs,¬ h.IsTuple it vs:=by
 cases x with
 | list hr hit =>
  (revert hit;refine bO ?_;intro o ho hc hd)
  refine (aB o ho (fun vs=>nc fun o' br gG n cG=>?_))
  rw [ho] at br;(revert br;refine si ?_;rintro rfl);rw [hd] at cG;exact (noConfusion_of_Nat Data.ctorIdx cG).elim
 | tup hit ht hr =>
  (revert hit;refine bO ?_;intro o ho hc hd)
  refine (aB o ho (fun vs=>nc fun o' br gG n cG=>?_))
  rw [ho] at br;(revert br;refine si ?_;rintro rfl);rw [hd] at cG;exact (noConfusion_of_Nat Data.ctorIdx cG).elim
 | bJ hit hx =>
  refine (aB _ hit (fun vs=>nc fun o' br gG n cG=>?_))
  rw [hit] at br;(revert br;refine si ?_;rintro rfl);exact (noConfusion_of_Nat Data.ctorIdx cG).elim
theorem G6 {xs:List AV} {g:Option (Nat × List AV)} {it:Addr} {i:Nat} {a:AV} {Q:Option Value->Shared->Prop} (S:St C ι σ s) (I:gz ι xs g it i s.heap) (hg:kD g σ) (eh:¬ b7 ι it) (hb:C.base.get? it=none) (hi:xs[i]?=some a)
  (q:∀ h' t cv,Heap.SameBut it s.heap h'->St C ι σ { s with heap:=h',toks:=t }->gz ι xs g it (i+1) h'->VR ι h' a cv->Q (some cv) { s with heap:=h',toks:=t }) :
  wpAny (model C.prog C.w) A (pyNext (.ref it)) Q E s:=by
 (refine au ?_ (I.alive);intro _ _ fW)
 have turn:∀ {h'},Heap.SameBut it s.heap h'->(∃ o,h'.get? it=some o)->(∀ t,St C ι σ { s with heap:=h',toks:=t })/\cH ι s.heap ι h':=fun hs al=>by
  (refine ay ?_ (S.hr.turn eh hb fW hs al);intro H X)
  exact ⟨fun t=>⟨H,S.gens,S.os⟩,⟨fun Y Y e=>e,fun b vs ht=>by
   have hb:b≠it:=by rintro rfl;exact fW vs ht
   (revert ht;refine au ?_;intro o ho q)
   exact (aB o ((hs.2 b hb).trans ho) q)⟩⟩
 cases I with
 | @list r l _ _ _ hr hit =>
  have bm:σ[r]?=some (.list xs):=hg
  have ho:=S.hr.obj r _ _ bm hr
  (revert ho;refine u9 ?_;intro _ hl vs dj fU)
  (refine au ?_ (fU.get hi);intro cv pu zy)
  rw [Array.getElem?_toList] at pu
  refine wpAny_pyNext_list_item hit dj.isList pu fun h' nJ hs=>?_
  (refine au ?_ (id nJ);intro o' br _)
  (refine ay ?_ (turn hs (aQ _ br));intro S' tx)
  exact q h' s.toks cv hs (S' _) (.list hr nJ) (VR.mono tx _ zy)
 | @tup t _ _ arr _ hit ht fU =>
  (refine au ?_ (fU.get hi);intro cv pu zy)
  rw [Array.getElem?_toList] at pu
  refine wpAny_pyNext_tuple_item hit ht pu fun h' nJ hs=>?_
  (refine au ?_ (id nJ);intro o' br _)
  (refine ay ?_ (turn hs (aQ _ br));intro S' tx)
  exact q h' s.toks cv hs (S' _) (.tup nJ (tx.tup _ _ ht) (aI.mono tx _ fU)) (VR.mono tx _ zy)
 | @bJ k _ _ _ hit hx =>
  subst hx
  have aS:i<k:=by
   have:=(List.getElem?_eq_some_iff.mp hi).1
   simpa using this
  have ea:a=.int (i:Nat):=by
   simp [aS] at hi
   exact hi.symm
  subst ea
  refine wpAny_pyNext_range_item hit (by lia) fun h' nJ hs=>?_
  (refine ay ?_ (turn hs (aQ _ nJ));intro S' tx)
  refine q h' _ _ hs (S' _) (.bJ (n:=k) ?_ rfl) (by simp only [VR];exact (aQ _ rfl))
  have e1:((i+1:Nat):Int)=(i:Int)+1:=by lia
  have e2:(k:Int) - ((i+1:Nat):Int)=(k:Int) - (i:Int) - 1:=by lia
  rw [e1] at *
  refine U (show (k:Int) - ((i:Int)+1)=(k:Int) - (i:Int) - 1 by lia) ?_
  exact nJ
theorem G7 {xs:List AV} {g:Option (Nat × List AV)} {it:Addr} {i:Nat} {Q:Option Value->Shared->Prop} (S:St C ι σ s) (I:gz ι xs g it i s.heap) (hh:A.handled=none) (hg:kD g σ) (eh:¬ b7 ι it) (hb:C.base.get? it=none) (hi:xs.length<=i)
  (q:∀ h',Heap.ExtBut it s.heap h'->St C ι σ { s with heap:=h' }->Q none { s with heap:=h' }) :
  wpAny (model C.prog C.w) A (pyNext (.ref it)) Q E s:=by
 (refine au ?_ (I.alive);intro _ _ fW)
 have turn:∀ {h'},Heap.ExtBut it s.heap h'->St C ι σ { s with heap:=h' }:=fun hs =>
  ⟨S.hr.jC (fun b=>b=it) (fun b e=>by subst e;exact ⟨eh,hb,fW⟩) fun b o hb e=>hs b o hb e,S.gens,S.os⟩
 cases I with
 | @list r l _ _ _ hr hit =>
  have bm:σ[r]?=some (.list xs):=hg
  have ho:=S.hr.obj r _ _ bm hr
  (revert ho;refine u9 ?_;intro _ hl vs dj fU)
  have bC:=fU.length
  rw [Array.length_toList] at bC
  exact wpAny_pyNext_list_end hh hit dj.isList (Array.getElem?_eq_none (by lia)) fun h' hs=>q h' hs (turn hs)
 | @tup t _ _ arr _ hit ht fU =>
  have bC:=fU.length
  rw [Array.length_toList] at bC
  exact wpAny_pyNext_tuple_end hh hit ht (Array.getElem?_eq_none (by lia)) fun h' hs=>q h' hs (turn hs)
 | @bJ k _ _ _ hit hx =>
  subst hx
  simp at hi
  exact wpAny_pyNext_range_end hh hit (by lia) fun h' hs=>q h' hs (turn hs)
noncomputable def zz (C:Cx) (ι:bf) (h:Heap) (K:List AV->Option (Nat × List AV)->AH->Prop) (s2:Value) (bh:Shared):Prop :=
 ∃ it xs g V aK,s2=.ref it/\h.get? it=none/\Ext ι h aK bh.heap/\St C aK V bh/\gz aK xs g it 0 bh.heap/\¬ b7 aK it/\C.base.get? it=none/\xs.length<=1000000/\kD g V/\K xs g V
theorem lG (S:St C ι σ s):s.heap.get? s.heap.objs.size=none/\¬ b7 ι s.heap.objs.size/\C.base.get? s.heap.objs.size=none:=by
 have eC:s.heap.get? s.heap.objs.size=none:=by
  induction e:s.heap.get? s.heap.objs.size with
  | none=>rfl
  | some o=>exact absurd (Heap.lt_size e) (Nat.lt_irrefl _)
 refine ⟨eC,?_,?_⟩
 ·(refine au ?_;intro p hp e)
  (refine aM ?_ (List.mem_iff_getElem?.mp hp);intro i hi)
  (refine au ?_ (S.hr.at hi);intro o _ ho)
  (refine yh ?_ (ho.alive);intro o1 h1 o2 h2)
  rcases e with e | e
  ·rw [<- e,eC] at h1;exact aZ h1
  ·rw [<- e,eC] at h2;exact aZ h2
 ·induction e:C.base.get? s.heap.objs.size with
  | none=>rfl
  | some o=>rw [S.hr.keep _ _ e] at eC;exact dQ eC
theorem St.pK (S:St C ι σ s) (o:Obj):St C ι σ { s with heap:=s.heap.push o }/\Ext ι s.heap ι (s.heap.push o) :=
 have hk:∀ b x,s.heap.get? b=some x->(s.heap.push o).get? b=some x:=fun b x e=>Heap.get?_push_of_some _ e
 ⟨⟨S.hr.keeps hk,S.gens,S.os⟩,Ext.keeps hk⟩
set_option tactic.hygienic true in
theorem Ov {v:AV} {cv:Value} {K:List AV->Option (Nat × List AV)->AH->Prop} (S:St C ι σ s) (hv:VR ι s.heap v cv) (h:ip false v σ fun xs g=>K xs g σ) :
  wpAny (model C.prog C.w) A (pyIter cv) (zz C ι s.heap K) E s:=by
 (refine bS ?_ (lG S);intro f1 f2 f3)
 induction v using AV.casesOn with
 | tup l =>
  (delta ip at h;dsimp only at h)
  (refine eV ?_ (hv.jE);rintro a vs rfl ht hl hr)
  refine wpAny_pyIter_tuple ht ?_
  (refine ay ?_ (S.pK { cls:=Value.type "tuple_iterator",data:=Data.fields #[Value.ref a,Value.int 0 0] });intro S' X)
  exact (yp _ l none σ ι rfl f1 X S' (.tup (ff _ (Heap.get?_push_size _ rfl) rfl rfl) ((X.cI S.hr).tup _ _ ht) (aI.mono (X.cI S.hr) _ hr)) f2 f3 hl trivial h)
 | ref r =>
  refine qT h ?_
  clear h
  ·intro l bm h
   (refine lq ?_ (S.list hv bm);rintro a vs rfl hp dj hl hr)
   refine wpAny_pyIter_list dj.isList ?_
   (refine ay ?_ (S.pK { cls:=Value.type "list_iterator",data:=Data.fields #[Value.ref a,Value.int 0 0] });intro S' X)
   exact (yp _ l (some (r,l)) σ ι rfl f1 X S' (.list hp (ff _ (Heap.get?_push_size _ rfl) rfl rfl)) f2 f3 hl bm h)
 | _=>exact False.elim h
theorem Ow {v:AV} {cv:Value} {K:List AV->Option (Nat × List AV)->AH->Prop} (S:St C ι σ s) (hv:VR ι s.heap v cv) (h:ip true v σ fun xs g=>K xs g σ) :
  wpAny (model C.prog C.w) A (call (.type "range") [cv]) (fun x aG=>wpAny (model C.prog C.w) A (pyIter x) (zz C ι s.heap K) E aG) E s:=by
 induction v using AV.casesOn with
 | int k =>
  (delta ip at h;dsimp only at h)
  (revert h;refine ay ?_;intro hk h)
  (refine aM ?_ (hv.int_inv);rintro t rfl)
  refine call_range_1 ?_
  (refine ay ?_ (S.pK { cls:=Value.type "range",data:=Data.fields #[Value.int 0 s.toks,Value.int k t,Value.int 1 (s.toks+1)] });intro S' X)
  have G8:=S'.tok (s.toks+1+1)
  (refine bS ?_ (lG G8);intro f1 f2 f3)
  refine wpAny_pyIter_range (IsRange.new s.heap 0 k 1 _ _ _) (small_one (by decide) (by decide) (by lia) (by lia)) ?_
  (refine ay ?_ (G8.pK { cls:=Value.type "range_iterator",data:=Data.fields #[rawInt 0,rawInt (Builtin.Range.rangeSize 0 k 1),rawInt 1] });intro aV ct)
  refine (yp _ _ none σ ι rfl (X.dead f1) (X.trans ct) aV (.bJ (n:=k.toNat) ?_ rfl) f2 f3 (by simp;lia) trivial h)
  have e:Builtin.Range.rangeSize 0 k 1=(k.toNat:Int) - ((0:Nat):Int):=by
   refine U (rangeSize_one ..) ?_;split <;> wtm_at "o"
  refine U e ?_
  exact Heap.get?_push_size _ rfl
 | _=>(delta ip at h;simp at h)
end
theorem Ox {env:Env} {n:Str} {c:Addr} (h:env.cells.lookup n=some c):cellOf env n=pure c:=by
 unfold cellOf;exact U h rfl
structure mj (env:Env) (names:List (Str × NameKind)) (cl:List (Str × Addr)):Prop where
 s3:∀ n c,(n,c)∈cl->env.cells.lookup n=some c/\(n,NameKind.free)∈names
 has:∀ n,(n,NameKind.free)∈names->∃ c,cl.lookup n=some c/\env.cells.lookup n=some c
 apart:cl.Pairwise fun x y=>x.2≠y.2
theorem G9 (env:Env) (nK:env.cells.Pairwise fun x y=>x.2≠y.2):∀ (names done:List (Str × NameKind)) (cl:List (Str × Addr)),((done++names).map (·.1)).Nodup ->
  (∀ y∈names,y.2=.free->∃ c,env.cells.lookup y.1=some c)->mj env done cl ->
  ∃ pL,forIn names cl (fun (x:Str × NameKind) (r:List (Str × Addr))=>if (x.2==NameKind.free)=true then (do let a <- cellOf env x.1;pure (ForInStep.yield ((x.1,a)::r)):Sem (ForInStep (List (Str × Addr)))) else pure (ForInStep.yield r))=pure pL/\mj env (done++names) pL
 | [],done,cl,_,_,hc=>(aB cl (by simp) (by simpa using hc))
 | (n,k)::r,done,cl,bP,hf,hc=>by
  refine U (List.forIn_cons ..) ?_
  have step:∀ pL,mj env (done++[(n,k)]) pL->∃ q8,forIn r pL (fun (x:Str × NameKind) (r:List (Str × Addr))=>if (x.2==NameKind.free)=true then (do let a <- cellOf env x.1;pure (ForInStep.yield ((x.1,a)::r)):Sem (ForInStep (List (Str × Addr)))) else pure (ForInStep.yield r))=pure q8/\mj env (done++(n,k)::r) q8:=by
   intro pL h
   have:=G9 env nK r (done++[(n,k)]) pL (by simpa using bP) (fun y hy=>hf y (.tail _ hy)) h
   simpa using this
  by_cases hk:k=.free
  ·subst hk
   (refine aM ?_ (hf _ (.head _) rfl);intro c jH)
   have zA:∀ m c',(m,c')∈cl->c'≠c:=by
    intro m c' hm e
    subst e
    (refine ay ?_ (hc.s3 m c' hm);intro h1 h2)
    have:=name_of_addr nK (mem_of_lookup h1) (mem_of_lookup jH)
    subst this
    rw [List.map_append,List.nodup_append] at bP
    exact bP.2.2 m (List.mem_map_of_mem (f:=(·.1)) h2) m (by simp) rfl
   have gG:mj env (done++[(n,NameKind.free)]) ((n,c)::cl):=by
    refine ⟨fun m c' hm=>?_,fun m hm=>?_,List.pairwise_cons.mpr ⟨fun y hy=>(zA y.1 y.2 hy).symm,hc.apart⟩⟩
    ·rcases List.mem_cons.mp hm with e | hm
     ·(revert e;refine ij Prod.mk.inj (ay ?_);rintro rfl rfl);exact ⟨jH,by simp⟩
     ·(refine ay ?_ (hc.s3 m c' hm);intro a b);exact ⟨a,List.mem_append_left _ b⟩
    ·by_cases e:m=n
     ·subst e;exact (aB c (by simp) jH)
     ·obtain ⟨c',a,b⟩:=hc.has m (by
       rcases List.mem_append.mp hm with hm | hm
       ·exact hm
       ·obtain hm:=List.mem_singleton.mp hm
        (revert hm;refine ij Prod.mk.inj (ay ?_);rintro rfl _);exact absurd rfl e)
      have:(m==n)=false:=beq_eq_false_iff_ne.mpr e
      exact (aB c' (by refine U (List.lookup_cons ..) (U this ?_);exact a) b)
   (refine au ?_ (step ((n,c)::cl) gG);intro q8 h1 h2)
   refine (aB q8 ?_ h2)
   simp only [beq_self_eq_true,if_true,Ox jH,pure_bind]
   exact h1
  ·have gG:mj env (done++[(n,k)]) cl:=by
    refine ⟨fun m c' hm=>?_,fun m hm=>hc.has m ?_,hc.apart⟩
    ·(refine ay ?_ (hc.s3 m c' hm);intro a b);exact ⟨a,List.mem_append_left _ b⟩
    ·rcases List.mem_append.mp hm with hm | hm
     ·exact hm
     ·obtain hm:=List.mem_singleton.mp hm
      (revert hm;refine ij Prod.mk.inj (ay ?_);rintro rfl rfl);exact absurd rfl hk
   (refine au ?_ (step cl gG);intro q8 h1 h2)
   refine (aB q8 ?_ h2)
   have:(k==NameKind.free)=false:=by simpa using hk
   simp only [this,Bool.false_eq_true,if_false,pure_bind]
   exact h1
theorem Oy {env:Env} {sub:Scope} (nK:env.cells.Pairwise fun x y=>x.2≠y.2) (bP:(sub.names.map (·.1)).Nodup) (hf:∀ y∈sub.names,y.2=.free->∃ c,env.cells.lookup y.1=some c) :
  ∃ cl,closureFor sub env=pure cl/\mj env sub.names cl:=by
 (refine au ?_ (G9 env nK sub.names [] [] (by simpa using bP) hf ⟨fun Y Y h=>(nomatch h),fun Y h=>(nomatch h),List.Pairwise.nil⟩);intro cl h1 h2)
 refine (aB cl ?_ h2)
 unfold closureFor
 have e:(forIn sub.names [] (fun (x:Str × NameKind) (r:List (Str × Addr))=>match x with
   | (name,kind)=>if (kind==NameKind.free)=true then (do let a <- cellOf env name;pure (ForInStep.yield ((name,a)::r)):Sem (ForInStep (List (Str × Addr)))) else pure (ForInStep.yield r)))=pure cl:=by
  exact aT h1 rfl
 show (forIn sub.names [] (fun (x:Str × NameKind) (r:List (Str × Addr))=>match x with
   | (name,kind)=>if (kind==NameKind.free)=true then (do let a <- cellOf env name;pure (ForInStep.yield ((name,a)::r)):Sem (ForInStep (List (Str × Addr)))) else pure (ForInStep.yield r)) >>= fun cs=>pure cs)=pure cl
 refine U e ?_;rfl
noncomputable def aN (C:Cx) (n:Nat) (m:Ex):Prop:=∀ (e:Expr) (env:Env) (A:Around) (ι:bf) (σ:AH) (s:Shared) (ρ:Loc) (Q:AV->AH->Prop),mE env.scope m e=true->Rb A n->St C ι σ s->FR C env ρ ι s.heap->aD C n m Q ρ σ ->
 wpAny (model C.prog C.w) A (eval e env) (bY C ι s.heap Q) (fun Y Y=>False) s
noncomputable def fp (C:Cx) (n:Nat) (m:Ex):Prop:=∀ (e:Expr) (env:Env) (A:Around) (ι:bf) (σ:AH) (s:Shared) (ρ:Loc) (K:Bool->AH->Prop),mE env.scope m e=true->Rb A n->St C ι σ s->FR C env ρ ι s.heap->cN C n m K ρ σ ->
 wpAny (model C.prog C.w) A (isTrue e env (eval e env)) (lF C ι s.heap K) (fun Y Y=>False) s
noncomputable def jK (C:Cx) (n:Nat) (ms:List Ex):Prop:=∀ (es:List Expr) (env:Env) (pos:Pos) (A:Around) (ι:bf) (σ:AH) (s:Shared) (ρ:Loc) (Q:List AV->AH->Prop),gH env.scope ms es=true->Rb A n->St C ι σ s->FR C env ρ ι s.heap->fF C n ms Q ρ σ ->
 wpAny (model C.prog C.w) A (spliced (backTo pos (starEach es env))) (Oq C ι s.heap Q) (fun Y Y=>False) s
noncomputable def nL (C:Cx) (n:Nat) (m:Option Ex):Prop:=∀ (ifs:List Expr) (env:Env) (A:Around) (ι:bf) (σ:AH) (s:Shared) (ρ:Loc) (K:Bool->AH->Prop),mO env.scope m ifs=true->Rb A n->St C ι σ s->FR C env ρ ι s.heap->jg C n m K ρ σ ->
 wpAny (model C.prog C.w) A (forIn ifs true fun c r=>if r=true then do let ok <- isTrue c env (eval c env);pure (ForInStep.yield ok) else pure (ForInStep.yield r)) (lF C ι s.heap K) (fun Y Y=>False) s
theorem zB {sc sub:Scope} {x:Str}:(jJ sc sub).names.lookup x=(sub.names.lookup x).map fun k=>if (k==.free&&sc.kind==.function&&sc.names.lookup x==some .cell) then .cell else k:=by
 show (sub.names.map _).lookup x=_
 induction sub.names with
 | nil=>rfl
 | cons y r ih =>
  obtain ⟨n,k⟩:=y
  simp only [List.map_cons]
  by_cases hx:x=n
  ·subst hx
   by_cases hc:(k==NameKind.free&&sc.kind==.function&&sc.names.lookup x==some .cell)=true
   ·refine U (if_pos hc ..) (U List.lookup_cons (U List.lookup_cons ?_))
    simp only [beq_self_eq_true,Option.map_some]
    exact U (if_pos hc ..) rfl
   ·refine U (if_neg hc ..) (U List.lookup_cons (U List.lookup_cons ?_))
    simp only [beq_self_eq_true,Option.map_some]
    exact U (if_neg hc ..) rfl
  ·have hb:(x==n)=false:=beq_eq_false_iff_ne.mpr hx
   by_cases hc:(k==NameKind.free&&sc.kind==.function&&sc.names.lookup n==some .cell)=true
   ·refine U (if_pos hc ..) (U List.lookup_cons (U List.lookup_cons (U hb ?_)));exact ih
   ·refine U (if_neg hc ..) (U List.lookup_cons (U List.lookup_cons (U hb ?_)));exact ih
theorem pM {α:Type}:∀ {l:List (Str × α)} {n:Str} {c:α},l.lookup n=some c->(n,c)∈l
 | (m,d)::r,n,c,h=>by
  rw [List.lookup_cons] at h
  by_cases hx:n=m
  ·subst hx;simp at h;subst h;exact .head _
  ·have hb:(n==m)=false:=beq_eq_false_iff_ne.mpr hx
   rw [hb] at h
   exact .tail _ (pM h)
noncomputable def ml (ρ:Loc) (frees:List Nm):Loc:=fun y=>if y∈frees then ρ y else none
section
variable {C:Cx} {ι aK:bf} {σ V:AH} {s:Shared} {A:Around} {E:Value->Shared->Prop} {n:Nat} {env:Env} {ρ:Loc} {h h':Heap}
structure zC (sc sub:Scope) (x:Nm) (frees:List Nm):Prop where
 kind:sub.kind=.function
 loc:sub.names.lookup x.str=some .local
 Ha:∀ y∈sub.names,y.2≠.cell
 locs:∀ y∈sub.names,y.2=.local->sub.names.lookup y.1=some .local
 free:∀ y∈sub.names,y.2=.free->sub.names.lookup y.1=some .free/\sc.names.lookup y.1=some .cell
 frees:∀ y∈frees,sub.names.lookup y.str=some .free/\y≠x
 nodup:(sub.names.map (·.1)).Nodup
theorem Oz {sc sub:Scope} {x:Nm} {frees:List Nm} (h:s0 sc sub x frees=true):zC sc sub x frees:=by
 unfold s0 at h
 simp only [Bool.and_eq_true,List.all_eq_true,Bool.or_eq_true,beq_iff_eq,bne_iff_ne,decide_eq_true_eq,ne_eq] at h
 (revert h;refine EY ?_;intro h1 h2 h3 h4 h5 h6 h7)
 exact ⟨h1,h2,h3,fun y hy e=>(h4 y hy).resolve_left (fun q=>q e),fun y hy e=>(h5 y hy).resolve_left (fun q=>q e),fun y hy=>⟨(h6 y hy).1,fun e=>(h6 y hy).2 (by exact U e rfl)⟩,h7⟩
theorem OA {sub:Scope} {x:Nm} {frees:List Nm} {cl:List (Str × Addr)} {L:Addr} (F:FR C env ρ ι h) (P:zC env.scope sub x frees) (K:mj env sub.names cl) (hn:h.Ns L fun Y=>none) (hb:C.base.get? L=none) (ho:¬ b7 ι L) :
  FR C (compEnvC sub cl L env) (ml ρ frees) ι h where
 kind:=P.kind
 glob:=F.glob
 blt:=F.blt
 ns:=(aB _ hn (fun y v e k=>by
  exfalso
  unfold ml at e
  split at e
  ·rename_i hy
   have h1:=(P.frees y hy).1
   have k':(jJ env.scope sub).names.lookup y.str=some .local:=k
   rw [zB,h1] at k'
   simp only [Option.map_some,Option.some.injEq] at k'
   split at k' <;> cases k'
  ·exact aZ e))
 cell:=fun y v e k=>by
  unfold ml at e
  split at e
  ·rename_i hy
   have h1:=(P.frees y hy).1
   have h2:=(P.free _ (pM h1) rfl).2
   (refine cW ?_ (F.cell y v e (.inl h2));intro c cv a b d)
   (refine au ?_ (K.has _ (pM h1));intro c' e1 e2)
   have:c'=c:=by
    have:=e2.symm.trans a
    exact Option.some.inj this
   subst this
   exact (cA c' cv e1 b d)
  ·exact aZ e
 cells:=fun m c hc=>by
  (refine ay ?_ (K.s3 m c hc);intro a _)
  exact F.cells m c (mem_of_lookup a)
 apart:=K.apart
 loc:=⟨hb,ho⟩
 kH:=fun y k=>by
  have k':(jJ env.scope sub).names.lookup y=some .cell:=k
  rw [zB] at k'
  induction hl:sub.names.lookup y with
  | none=>rw [hl] at k';exact aZ k'
  | some kd =>
   rw [hl] at k'
   have hm:=pM hl
   have hk:kd=.free:=by
    simp only [Option.map_some,Option.some.injEq] at k'
    split at k'
    ·rename_i q
     simp only [Bool.and_eq_true,beq_iff_eq] at q
     exact q.1.1
    ·exact absurd k' (P.Ha _ hm)
   subst hk
   (refine au ?_ (K.has y hm);intro c a _)
   show cl.lookup y≠none
   refine U a ?_;simp
theorem Hb (S:St C ι σ s) {a:Addr} (eh:¬ b7 ι a) (hb:C.base.get? a=none) (fW:∀ vs,¬ s.heap.IsTuple a vs) (hs:Heap.SameBut a s.heap h') (sV:∃ o,h'.get? a=some o) (t:Nat) :
  St C ι σ { s with heap:=h',toks:=t }/\XT (fun b=>b=a) ι s.heap ι h'/\cH ι s.heap ι h':=by
 (refine ay ?_ (S.hr.turn eh hb fW hs sV);intro H X)
 exact ⟨⟨H,S.gens,S.os⟩,X,⟨fun Y Y e=>e,fun b vs ht=>by
  have hb:b≠a:=by rintro rfl;exact fW vs ht
  (revert ht;refine au ?_;intro o ho q)
  exact (aB o ((hs.2 b hb).trans ho) q)⟩⟩
structure ES (C:Cx) (env cenv:Env) (ρ:Loc) (frees:List Nm) (ι₀:bf) (h₀:Heap) (gens:Array GenState) (g:Option (Nat × List AV)) (xs:List AV) (it D:Addr) (step:AV->(Option AV->AH->Prop)->AH->Prop) (K:List AV->AH->Prop) (i:Nat) (ι:bf) (σ:AH) (acc:List AV) (ys:Array Value) (s:Shared):Prop where
 st:St C ι σ s
 xt:XT (fun b=>b=it∨b=D∨b=cenv.locals) ι₀ h₀ ι s.heap
 mo:gz ι xs g it i s.heap
 gT:¬ b7 ι it
 kN:C.base.get? it=none
 Hc:s.heap.PlainList D ys
 v7:¬ b7 ι D
 v8:C.base.get? D=none
 Hd:aI ι s.heap acc ys.toList
 zD:acc.length<=1000000
 fr:FR C cenv (ml ρ frees) ι s.heap
 kg:kD g σ
 w:kF step g K (xs.drop i) acc σ
 le:i<=xs.length
theorem OB {elt:Ex} {cond:Option Ex} {x:Nm} {frees:List Nm} {env cenv:Env} {iter el:Expr} {ifs:List Expr} {tp pos:Pos} {scope:Scope} {ι₀:bf} {h₀:Heap} {g:Option (Nat × List AV)} {xs:List AV} {it D:Addr} {K:List AV->AH->Prop} {R:Result->Shared->Prop}
  (he:aN C n elt) (hc:nL C n cond) (hR:Rb A n) (hx:cenv.kindOf x.str=some .local) (He:∀ y∈frees,y≠x) (s4:mE cenv.scope elt el=true) (s5:mO cenv.scope cond ifs=true)
  (s6:it≠D) (s7:D≠cenv.locals) (s8:it≠cenv.locals)
  (Hf:∀ n c,(n,c)∈cenv.cells->c≠it/\c≠D)
  (fin:∀ aK V acc ys s',ES C env cenv ρ frees ι₀ h₀ s'.gens g xs it D (fun a K ai=>jg C n cond (fun t aH=>match t with
     | true=>aD C n elt (fun r bn=>K (some r) bn) (ei ρ x frees a) aH
     | false=>K Option.none aH) (ei ρ x frees a) ai) K xs.length aK V acc ys s'->∀ h',Heap.ExtBut it s'.heap h'->R (.ok .next) { s' with heap:=h' })
  {σ:AH} {ι:bf} {acc:List AV} {ys:Array Value} {s:Shared} (hI:ES C env cenv ρ frees ι₀ h₀ s.gens g xs it D (fun a K ai=>jg C n cond (fun t aH=>match t with
     | true=>aD C n elt (fun r bn=>K (some r) bn) (ei ρ x frees a) aH
     | false=>K Option.none aH) (ei ρ x frees a) ai) K 0 ι σ acc ys s) :
  codeAny (model C.prog C.w) A (.compLoop (.ListComp el [⟨.Name x.str tp,iter,ifs,0⟩] scope pos) 0 (.ref it) (.ref D) cenv) R s:=by
 refine codeAny_compLoop_tests (fun k s'=>∃ i ι σ acc ys,k=xs.length+1 - i/\ES C env cenv ρ frees ι₀ h₀ s'.gens g xs it D (fun a K ai=>jg C n cond (fun t aH=>match t with
     | true=>aD C n elt (fun r bn=>K (some r) bn) (ei ρ x frees a) aH
     | false=>K Option.none aH) (ei ρ x frees a) ai) K i ι σ acc ys s') ?_ (xs.length+1) (MQ 0 ι σ acc ys (by lia) hI)
 (intro k s';refine ME ?_;rintro i ι σ acc ys rfl I)
 by_cases aS:i<xs.length
 ·have hi:xs[i]?=some xs[i]:=List.getElem?_eq_getElem aS
  refine G6 I.st I.mo I.kg I.gT I.kN hi fun bD Hg cv lH ah Hh pN=>?_
  dsimp only
  (refine au ?_ (I.mo.alive);intro OC zE zF)
  have OD:∃ o,bD.get? it=some o:=let ⟨o,a,_⟩:=Hh.alive;(aQ o a)
  (refine bS ?_ (Hb I.st I.gT I.kN zF lH OD Hg);intro _ cf OE)
  have q9:¬ gF cenv it:=by
   rintro (e | ⟨m,e⟩)
   ·exact s8 e
   ·exact (Hf m it e).1 rfl
  have bq:FR C cenv (ml ρ frees) ι bD:=I.fr.jC q9 zF fun b o hb e=>(lH.2 b hb).trans e
  refine wpAny_assign_Name (GJ (s:={ s' with heap:=bD,toks:=Hg }) bq ah hx pN fun bI Yn bd av bN=>?_)
  have hw:=I.w
  rw [List.drop_eq_getElem_cons aS] at hw
  simp only [kF] at hw
  have Hi:FR C cenv (ei ρ x frees xs[i]) ι bI:=bN.weak fun y v e=>by
   rw [zj] at e
   refine U kG ?_
   unfold ml
   exact e
  refine wpAny_mono (hc ifs cenv A ι σ _ (ei ρ x frees xs[i]) _ s5 hR av Hi hw) (fun ok cO eg=>?_) fun Y Y f=>f.elim
  (revert eg;refine cW ?_;intro bn dF ct aV jj)
  have fX:=Hi.mono av.hr ct
  have Hj:XT (fun b=>b=it∨b=D∨b=cenv.locals) ι s'.heap dF cO.heap:=((cf.weak fun b e=>.inl e).trans (bd.weak fun b e=>.inr (.inr e))).trans ct.xt
  have OF:bI.PlainList D ys:=by
   (refine aM ?_ (I.Hc);intro k hk)
   exact (aQ k (bd.keep D _ I.v7 s7 ((lH.2 D s6.symm).trans hk)))
  have OG:aI ι bI acc ys.toList:=aI.mono (cH.mk (fun Y Y e=>e) fun a vs ht=>by
   have hn:=ah.hr.noOwn ht
   have hl:a≠cenv.locals:=by
    rintro rfl
    (refine au ?_ (bq.ns);intro m hm _)
    exact Ns.same hm ht
   (revert ht;refine au ?_;intro o ho q)
   exact (aB o (bd.keep a o hn hl ho) q)) _ (aI.mono OE _ I.Hd)
  have it₂:gz ι xs g it (i+1) bI:=Hh.mono ⟨fun Y Y e=>e,fun a vs ht=>by
   have hn:=ah.hr.noOwn ht
   have hl:a≠cenv.locals:=by
    rintro rfl
    (refine au ?_ (bq.ns);intro m hm _)
    exact Ns.same hm ht
   (revert ht;refine au ?_;intro o ho q)
   exact (aB o (bd.keep a o hn hl ho) q)⟩ fun o e=>bd.keep it o I.gT s8 e
  have zG:gz dF xs g it (i+1) cO.heap:=it₂.mono (ct.cI av.hr) fun o e=>ct.keep it o I.gT e
  have zH:¬ b7 dF it:=let ⟨o,a,_⟩:=it₂.alive;ct.pE a I.gT
  (revert OF;refine aM ?_;intro kk zI)
  have Hk:cO.heap.PlainList D ys:=(aQ kk (ct.keep D _ I.v7 zI))
  have zJ:¬ b7 dF D:=ct.pE zI I.v7
  have zK:aI dF cO.heap acc ys.toList:=aI.mono (ct.cI av.hr) _ OG
  induction ok with
  | false =>
   simp only [Bool.false_eq_true,if_false] at jj ⊢
   (revert jj;refine bS ?_;intro hg bC im)
   refine ⟨xs.length+1 - (i+1),by lia,i+1,dF,bn,acc,ys,rfl,aV,I.xt.trans Hj,zG,zH,I.kN,Hk,zJ,I.v8,zK,I.zD,fX.weak ?_,hg,?_,aS⟩
   ·intro y v e
    unfold ml at e
    refine U zj ?_
    by_cases hy:y∈frees
    ·refine U (if_neg (He y hy) ..) ?_;exact e
    ·rw [if_neg hy] at e;exact aZ e
   ·simpa using im
  | true =>
   simp only [if_true] at jj ⊢
   refine wpAny_mono (he el cenv A dF bn cO (ei ρ x frees xs[i]) _ s4 hR aV fX jj) (fun rv jL ix=>?_) fun Y Y f=>f.elim
   (revert ix;refine yl ?_;intro a cg s9 fG bK pO hg bC im)
   have pP:=fX.mono aV.hr fG
   (revert Hk;refine aM ?_;intro zL Hl)
   have rg:=fG.keep D _ zJ Hl
   have OH:jL.heap.PlainList D ys:=(aQ zL rg)
   have Hm:¬ b7 s9 D:=fG.pE Hl zJ
   have Hn:=aI.mono (fG.cI aV.hr) _ zK
   have OI:=zG.mono (fG.cI aV.hr) fun o e=>fG.keep it o zH e
   have OJ:¬ b7 s9 it:=let ⟨o,a,_⟩:=zG.alive;fG.pE a zH
   refine wpAny_list_append_plain OH (fun iy OK zM=>?_) (vK (by have:=Hn.length;rw [Array.length_toList] at this;have:=I.zD;lia))
   have Ho:∀ vs,¬ jL.heap.IsTuple D vs:=fun vs=>bO fun o' br gG Y=>by
    rw [rg] at br;(revert br;refine si ?_;rintro rfl);exact absurd (show Value.type "list"=Value.type "tuple" from gG) (by decide)
   (revert OK;refine aM ?_;intro OL Hp)
   (refine bS ?_ (Hb bK Hm I.v8 Ho zM (aQ _ Hp) jL.toks);intro dk tb tc)
   have OM:¬ gF cenv D:=by
    rintro (e | ⟨m,e⟩)
    ·exact s7 e
    ·exact (Hf m D e).2 rfl
   have v9:FR C cenv (ei ρ x frees xs[i]) s9 iy:=pP.jC OM Ho fun b o hb e=>(zM.2 b hb).trans e
   refine ⟨xs.length+1 - (i+1),by lia,i+1,s9,cg,acc++[a],ys.push rv,rfl,dk,(I.xt.trans (Hj.trans fG.xt)).trans (tb.weak fun b e=>.inr (.inl e)),OI.mono tc (fun o e=>(zM.2 it s6).trans e),OJ,I.kN,(aQ OL Hp),Hm,I.v8,?_,by simpa using bC,v9.weak ?_,hg,?_,aS⟩
   ·refine U Array.toList_push ?_;exact (aI.mono tc _ Hn).append (aI.one (VR.mono tc _ pO))
   ·intro y v e
    unfold ml at e
    refine U zj ?_
    by_cases hy:y∈frees
    ·refine U (if_neg (He y hy) ..) ?_;exact e
    ·rw [if_neg hy] at e;exact aZ e
   ·simpa using im
 ·have iz:i=xs.length:=by have:=I.le;lia
  subst iz
  exact G7 I.st I.mo hR.bP I.kg I.gT I.kN (Nat.le_refl _) fun bD ON ah=>fin _ _ _ _ _ I bD ON
end
theorem boot_len:bootBuiltins (Str.ofString "len")=some (.builtin "len"):=by decide +kernel
theorem boot_range:bootBuiltins (Str.ofString "range")=some (.type "range"):=by decide +kernel
theorem boot_min:bootBuiltins (Str.ofString "min")=some (.builtin "min"):=by decide +kernel
theorem boot_max:bootBuiltins (Str.ofString "max")=some (.builtin "max"):=by decide +kernel
theorem boot_tuple:bootBuiltins (Str.ofString "tuple")=some (.type "tuple"):=by decide +kernel
theorem OO:bootBuiltins (Str.ofString "isinstance")=some (.builtin "isinstance"):=by decide +kernel
theorem boot_bool:bootBuiltins (Str.ofString "bool")=some (.type "bool"):=by decide +kernel
section
variable {C:Cx} {ι aK:bf} {σ V:AH} {s:Shared} {A:Around} {E:Value->Shared->Prop} {n:Nat} {env:Env} {ρ:Loc} {h h':Heap}
theorem nM {f:Value} {first:List Value} {es:List Expr} {pos:Pos} {Q:Value->Shared->Prop} (P:Heap->Prop) (hp:∀ e∈es,bZ e=true)
  (hk:∀ h,P h->∃ k,(k=Keeper.frame∨k=Keeper.machine∨k=Keeper.boundFrame)/\Looks (model C.prog C.w) h (keeperOf f) k)
  (h:wpAny (model C.prog C.w) A (spliced (backTo pos (starEach es env))) (fun vs aG=>P aG.heap/\wpAny (model C.prog C.w) A (call f (first++vs) []) Q E aG) E s) :
  wpAny (model C.prog C.w) A (callWith pos f first (backTo pos (starEach es env)) []) Q E s :=
 callWith_of (P:=P) (by refine U (Ot hp ..) ?_;rfl) hk (Ou hp h)
theorem te {sc:Scope} {x:Str} {e:Expr} (h:ji sc x e=true):∃ p,e=.Name x p/\sc.names.lookup x=some .globalImplicit/\(x==("__debug__":Str))=false:=by
 (refine qY h ?_;clear h;intro id p h)
 simp only [Bool.and_eq_true,beq_iff_eq,Bool.not_eq_true'] at h
 (revert h;refine yg ?_;rintro rfl h2 h3)
 exact (ff p rfl h2 h3)
theorem rh {x:Str} {v:Value} {g:Expr} {es:List Expr} {pos:Pos} {Q:Value->Shared->Prop} (F:FR C env ρ ι s.heap) (S:St C ι σ s) (hg:ji env.scope x g=true) (hx:x∈vF) (hv:bootBuiltins x=some v) (hn:x≠"__name__")
  (hk:∀ h:Heap,∃ k,(k=Keeper.frame∨k=Keeper.machine∨k=Keeper.boundFrame)/\Looks (model C.prog C.w) h (keeperOf v) k) (hp:∀ e∈es,bZ e=true)
  (h:wpAny (model C.prog C.w) A (spliced (backTo pos (starEach es env))) (fun vs aG=>wpAny (model C.prog C.w) A (call v vs []) Q E aG) E s) :
  wpAny (model C.prog C.w) A (eval (.Call g es [] pos) env) Q E s:=by
 (refine bO ?_ (te hg);rintro p rfl h2 h3)
 refine Call_ (GI F S h2 (C.sF _ hx) hv h3 hn ?_)
 exact nM (fun Y=>True) hp (fun h Y=>hk h) (wpAny_mono h (fun vs aG q=>⟨trivial,q⟩) fun Y Y e=>e)
theorem rj {e:Expr} {pos:Pos} {Q:List Value->Shared->Prop} (hp:bZ e=true) (h:wpAny (model C.prog C.w) A (eval e env) (fun v aG=>Q [v] aG) E s) :
  wpAny (model C.prog C.w) A (spliced (backTo pos (starEach [e] env))) Q E s :=
 wpAny_items_cons (wpAny_mono h (fun v aG q=>wpAny_items_nil q) fun Y Y e=>e) (q6 hp)
theorem wa {e e':Expr} {pos:Pos} {Q:List Value->Shared->Prop} (hp:bZ e=true) (rp:bZ e'=true) (h:wpAny (model C.prog C.w) A (eval e env) (fun v aG=>wpAny (model C.prog C.w) A (eval e' env) (fun v' bh=>Q [v,v'] bh) E aG) E s) :
  wpAny (model C.prog C.w) A (spliced (backTo pos (starEach [e,e'] env))) Q E s :=
 wpAny_items_cons (wpAny_mono h (fun v aG q=>rj rp q) fun Y Y e=>e) (q6 hp)
theorem Hq {it:Ex} {bJ:Bool} {iter:Expr} {K:List AV->Option (Nat × List AV)->AH->Prop} (hi:aN C n it) (hm:s1 env.scope bJ it iter=true) (hR:Rb A n) (S:St C ι σ s) (F:FR C env ρ ι s.heap)
  (h:aD C n it (fun v V=>ip bJ v V fun xs g=>K xs g V) ρ σ) :
  wpAny (model C.prog C.w) A (eval iter env) (fun x aG=>wpAny (model C.prog C.w) A (pyIter x) (zz C ι s.heap K) (fun Y Y=>False) aG) (fun Y Y=>False) s:=by
 induction bJ with
 | false =>
  have fq:bZ iter=true/\mE env.scope it iter=true:=g9 hm
  refine wpAny_mono (hi iter env A ι σ s ρ _ fq.2 hR S F h) (fun cv aG bD=>?_) fun Y Y f=>f.elim
  (revert bD;refine oX ?_;intro v ai aU cf ah hv hw)
  refine wpAny_mono (Ov (E:=fun Y Y=>False) ah hv hw) (fun s2 bh bI=>?_) fun Y Y f=>f.elim
  (revert bI;refine ym ?_;intro it xs g aH bH e1 e2 bd av I r)
  exact (Fl it xs g aH bH e1 (cf.dead e2) (cf.trans bd) av I r)
 | true =>
  (refine iw hm ?_;clear hm;intro f z1 p hm)
  (refine jh hm ?_;clear hm;intro a hm)
  (revert hm;refine aw (aw ?_);intro hg hp fH)
  refine rh F S hg (by decide) boot_range (by decide) (fun h=>G4 h) (by simpa using hp) (rj hp ?_)
  refine wpAny_mono (hi a env A ι σ s ρ _ fH hR S F h) (fun cv aG bD=>?_) fun Y Y f=>f.elim
  (revert bD;refine oX ?_;intro v ai aU cf ah hv hw)
  refine wpAny_mono (Ow (E:=fun Y Y=>False) ah hv hw) (fun x bh bI=>wpAny_mono bI (fun s2 cO eg=>?_) fun Y Y f=>f.elim) fun Y Y f=>f.elim
  (revert eg;refine ym ?_;intro it xs g aH bH e1 e2 bd av I r)
  exact (Fl it xs g aH bH e1 (cf.dead e2) (cf.trans bd) av I r)
theorem XT.fin {P:Addr->Prop} {bD:Heap} {it:Addr} (x:XT P ι h aK bD) (k:∀ b,P b->h.get? b=none) (hP:P it) (e:Heap.ExtBut it bD h'):Ext ι h aK h' where
 pre:=x.pre
 keep:=fun b o hb e'=>by
  have hn:¬ P b:=fun q=>by rw [k b q] at e';exact aZ e'
  exact e b o (fun q=>hn (q ▸ hP)) (x.keep b o hb hn e')
 alive:=fun b o e'=>by
  have hn:¬ P b:=fun q=>by rw [k b q] at e';exact aZ e'
  (refine aM ?_ (x.alive b o e');intro o' br)
  exact (aQ o' (e b o' (fun q=>hn (q ▸ hP)) br))
 new:=x.new
structure yf (C:Cx) (ι₀:bf) (h₀:Heap) (K:List AV->AH->Prop) (D L:Addr) (s':Shared):Prop where
 d0:h₀.get? D=none
 l0:h₀.get? L=none
 ne:D≠L
 ex:∃ aK V acc ys m,Ext ι₀ h₀ aK s'.heap/\St C aK V s'/\s'.heap.Ns L m/\¬ b7 aK L/\C.base.get? L=none/\¬ b7 aK D/\C.base.get? D=none/\s'.heap.PlainList D ys/\aI aK s'.heap acc ys.toList/\acc.length<=1000000/\K acc V
theorem OP {elt:Ex} {cond:Option Ex} {x:Nm} {frees:List Nm} {iter el:Expr} {ifs:List Expr} {tp pos:Pos} {sub:Scope} {cl:List (Str × Addr)} {g:Option (Nat × List AV)} {xs:List AV} {it:Addr} {K:List AV->AH->Prop} {RR:Value->Addr->Result->Shared->Prop} {ι₀:bf} {il:Shared}
  (he:aN C n elt) (hc:nL C n cond) (hR:Rb A n) (P:zC env.scope sub x frees) (KO:mj env sub.names cl) (s4:mE (jJ env.scope sub) elt el=true) (s5:mO (jJ env.scope sub) cond ifs=true)
  (Hr:FR C env ρ ι₀ il.heap) (nN:St C ι₀ σ il) (hit:il.heap.get? it=none) {ι:bf} {V:AH} {bh:Shared} (X:Ext ι₀ il.heap ι bh.heap) (S:St C ι V bh) (I:gz ι xs g it 0 bh.heap) (eh:¬ b7 ι it) (hb:C.base.get? it=none) (hl:xs.length<=1000000) (hg:kD g V)
  (hw:kF (fun a K ai=>jg C n cond (fun t aH=>match t with
     | true=>aD C n elt (fun r bn=>K (some r) bn) (ei ρ x frees a) aH
     | false=>K Option.none aH) (ei ρ x frees a) ai) g K xs [] V)
  (OQ:∀ D L s',yf C ι₀ il.heap K D L s'->RR (.ref D) L (.ok .next) s') :
  wpAny (model C.prog C.w) A (newList []) (fun acc cO=>wpAny (model C.prog C.w) A (newFunctionEnv sub env.globals cl [] env.qual none .none (some env)) (fun cenv jL =>
   codeAny (model C.prog C.w) A (.compStart (.ListComp el [⟨.Name x.str tp,iter,ifs,0⟩] sub pos) 0 (.ref it) acc { cenv with scope:=relabel sub env }) (RR acc cenv.locals) jL) E cO) E bh:=by
 refine wpAny_newObj_type (wpAny_newFunctionEnv P.Ha (by intro y hy;simp at hy) (fun bD zN zO=>?_) P.kind)
 dsimp only at zN zO ⊢
 (refine bS ?_ (lG S);intro f1 f2 f3)
 generalize Hs:bh.heap.push { cls:=.type "list",dict:=none,data:=.seq ([]:List Value).toArray }=H2 at zN zO ⊢
 have k2:∀ b o,bh.heap.get? b=some o->H2.get? b=some o:=fun b o e=>Hs ▸ Heap.get?_push_of_some _ e
 have S2:St C ι V { bh with heap:=H2 }:=⟨S.hr.keeps k2,S.gens,S.os⟩
 (refine bS ?_ (lG S2);intro c1 c2 c3)
 dsimp only at c1 c2 c3
 have Ht:bh.heap.get? H2.objs.size=none:=by
  induction q:bh.heap.get? H2.objs.size with
  | none=>rfl
  | some o=>rw [k2 _ _ q] at c1;exact dQ c1
 have kL:∀ b o,H2.get? b=some o->bD.get? b=some o:=fun b o e =>
  zO.extBut b o (fun q=>by rw [q,c1] at e;exact aZ e) (Heap.get?_push_of_some _ e)
 have kA:∀ b o,bh.heap.get? b=some o->bD.get? b=some o:=fun b o e=>kL b o (k2 b o e)
 have OS:H2.PlainList bh.heap.objs.size #[]:=(aQ _ (Hs ▸ Heap.get?_push_size _ rfl))
 (revert OS;refine aM ?_;intro ka Hu)
 have s7:bh.heap.objs.size≠H2.objs.size:=fun q=>by rw [<- q,Hu] at c1;exact dQ c1
 (refine au ?_ (I.alive);intro OC zE zF)
 have s6:it≠bh.heap.objs.size:=fun q=>by rw [<- q,zE] at f1;exact dQ f1
 have s8:it≠H2.objs.size:=fun q=>by rw [<- q,k2 _ _ zE] at c1;exact dQ c1
 have F2:=(Hr.mono nN.hr X)
 have F1:FR C env ρ ι bD:=F2.keeps kA
 have CF:FR C (compEnvC sub cl H2.objs.size env) (ml ρ frees) ι bD:=OA F1 P KO zN c3 c2
 have SS:∀ t,St C ι V { bh with heap:=bD,toks:=t }:=fun t=>⟨S.hr.keeps kA,S.gens,S.os⟩
 have loop:∀ cO:Shared,cO={ bh with heap:=bD,toks:=bh.toks+([]:List (Str × Value)).length } ->
   codeAny (model C.prog C.w) A (.compLoop (.ListComp el [⟨.Name x.str tp,iter,ifs,0⟩] sub pos) 0 (.ref it) (.ref bh.heap.objs.size) (compEnvC sub cl H2.objs.size env)) (RR (.ref bh.heap.objs.size) H2.objs.size) cO:=by
  rintro cO rfl
  refine OB (cenv:=compEnvC sub cl H2.objs.size env) (env:=env) (ρ:=ρ) (frees:=frees) (ι₀:=ι₀) (h₀:=il.heap) (g:=g) (xs:=xs) (K:=K) (σ:=V) (ι:=ι) (acc:=[]) (ys:=#[]) he hc hR ?_ (fun y hy=>(P.frees y hy).2) s4 s5 s6 s7 s8 ?_ ?_ ?_
  ·show (jJ env.scope sub).names.lookup x.str=_
   refine U zB (U P.loc ?_);rfl
  ·intro m c hm
   (refine ay ?_ (KO.s3 m c hm);intro a _)
   (refine vf ?_ (F2.cells m c (mem_of_lookup a));intro v o ho hd _ _)
   refine ⟨fun q=>?_,fun q=>by rw [q,f1] at ho;exact aZ ho⟩
   subst q
   (refine vf ?_ (Hr.cells m c (mem_of_lookup a));intro v' o' br cG _ Yo)
   rw [hit] at br;exact aZ br
  ·intro aK ar acc ys s' CI h'' tf
   refine OQ _ _ _ ⟨X.dead f1,X.dead Ht,s7,?_⟩
   (refine au ?_ (CI.mo.alive);intro o3 Yp Hv)
   have S':St C aK ar { s' with heap:=h'' }:=⟨CI.st.hr.jC (fun b=>b=it) (fun b e=>by subst e;exact ⟨CI.gT,CI.kN,Hv⟩) fun b o hb e=>tf b o hb e,CI.st.gens,CI.st.os⟩
   have tx:cH aK s'.heap aK h'':=⟨fun Y Y e=>e,fun b vs ht=>by
    have hb:b≠it:=by rintro rfl;exact Hv vs ht
    (revert ht;refine au ?_;intro o ho q)
    exact (aB o (tf b o hb ho) q)⟩
   (refine au ?_ (CI.fr.ns);intro m hm _)
   (refine aM ?_ (CI.Hc);intro kq OT)
   have Hw:kF (fun a K ai=>jg C n cond (fun t aH=>match t with
     | true=>aD C n elt (fun r bn=>K (some r) bn) (ei ρ x frees a) aH
     | false=>K Option.none aH) (ei ρ x frees a) ai) g K [] acc ar:=by
    have:=CI.w;rwa [List.drop_length] at this
   simp only [kF] at Hw
   refine (MR aK ar acc ys m ?_ S' ?_ CI.fr.loc.2 CI.fr.loc.1 CI.v7 CI.v8 (aQ kq (tf _ _ s6.symm OT)) (aI.mono tx _ CI.Hd) CI.zD Hw)
   ·refine CI.xt.fin (fun b hb=>?_) (.inl rfl) tf
    rcases hb with rfl | rfl | rfl
    ·exact hit
    ·exact X.dead f1
    ·exact X.dead Ht
   ·(revert hm;refine lr ?_;intro o es ep ho r)
    exact (l5 o es ep (tf _ _ s8.symm ho) r)
  ·exact ⟨SS _,⟨X.pre,fun b o hb hP e=>kA b o (X.keep b o hb e),fun b o e=>let ⟨o',e'⟩:=X.alive b o e;(aQ o' (kA b o' e')),X.new⟩,I.mono (cH.keeps kA) fun o e=>kA _ _ e,eh,hb,(aQ ka (kL _ _ Hu)),f2,f3,by simp [aI],by simp,CF,hg,hw,Nat.zero_le _⟩
 refine codeAny_compStart_list (loop _ rfl) ?_
 cases I with
 | list hr hi=>exact wpAny_pyIter_listiter (hi.at fun o e=>kA _ _ e) (loop _ rfl)
 | tup hi ht hr=>exact wpAny_pyIter_tupleiter (let ⟨o,a,b⟩:=hi;(aB o (kA _ _ a) b)) (loop _ rfl)
 | bJ hi hx=>exact wpAny_pyIter_rangeiter (kA _ _ hi) (loop _ rfl)
end
section
variable {C:Cx} {ι aK ι₀:bf} {σ V:AH} {s:Shared} {A:Around} {E:Value->Shared->Prop} {n:Nat} {env:Env} {ρ:Loc} {h h' h₀:Heap}
theorem rq {a:Addr × Addr} {i:Nat} {p:Addr × Addr} (hi:ι.length<=i) (e:(ι++[a])[i]?=some p):i=ι.length/\p=a:=by
 rw [List.getElem?_append_right hi] at e
 have:i - ι.length=0:=by
  rcases Nat.eq_zero_or_pos (i - ι.length) with h0 | h0
  ·exact h0
  ·rw [List.getElem?_eq_none (by simp only [List.length_singleton];lia)] at e;exact aZ e
 rw [this] at e
 (revert e;refine si ?_;rintro rfl)
 exact ⟨by lia,rfl⟩
theorem Ext.adopt (x:Ext ι₀ h₀ ι h) {a:Addr} (ha:h₀.get? a=none) (hk:∀ b o,b≠a->h.get? b=some o->h'.get? b=some o) (sV:∃ o,h'.get? a=some o):Ext ι₀ h₀ (ι++[(a,a)]) h' where
 pre:=fun i p e=>by
  have:=x.pre i p e
  refine U (List.getElem?_append_left (List.getElem?_eq_some_iff.mp this).1 ..) ?_;exact this
 keep:=fun b o hb e=>hk b o (by rintro rfl;rw [ha] at e;exact aZ e) (x.keep b o hb e)
 alive:=fun b o e=>by
  (refine aM ?_ (x.alive b o e);intro o' e')
  exact (aQ o' (hk b o' (by rintro rfl;rw [ha] at e;exact aZ e) e'))
 new:=fun i p hi e=>by
  rcases Nat.lt_or_ge i ι.length with aS | jB
  ·rw [List.getElem?_append_left aS] at e
   exact x.new i p hi e
  ·(refine ay ?_ (rq jB e);rintro _ rfl)
   exact ⟨ha,ha⟩
theorem HR.adopt (r:HR C ι σ h) {a:Addr} {ao:AO} (eh:¬ b7 ι a) (hb:C.base.get? a=none) (fW:∀ vs,¬ h.IsTuple a vs) (hk:∀ b o,b≠a->h.get? b=some o->h'.get? b=some o)
  (ho:OR C (ι++[(a,a)]) h' (a,a) ao):HR C (ι++[(a,a)]) (σ++[ao]) h':=by
 have tx:cH ι h (ι++[(a,a)]) h':=⟨fun i p e=>by
  refine U (List.getElem?_append_left (List.getElem?_eq_some_iff.mp e).1 ..) ?_;exact e,fun b vs ht=>by
  have hb:b≠a:=by rintro rfl;exact fW vs ht
  (revert ht;refine au ?_;intro o ho q)
  exact (aB o (hk _ _ hb ho) q)⟩
 refine ⟨by simp [r.len],fun b o e=>hk b o (by rintro rfl;rw [hb] at e;exact aZ e) (r.keep b o e),?_,?_,?_⟩
 ·intro p hp
  rcases List.mem_append.mp hp with hp | hp
  ·exact r.above p hp
  ·obtain rfl:=List.mem_singleton.mp hp;exact ⟨hb,hb⟩
 ·have fresh:∀ (j:Nat) (q:Addr × Addr),ι[j]?=some q->a≠q.1/\a≠q.2:=fun j q e =>
   ⟨fun h=>eh (h ▸ (b7.of_get e).1),fun h=>eh (h ▸ (b7.of_get e).2)⟩
  intro i j p q e1 e2 ik
  rcases Nat.lt_or_ge i ι.length with hi | hi <;> rcases Nat.lt_or_ge j ι.length with hj | hj
  ·rw [List.getElem?_append_left hi] at e1
   rw [List.getElem?_append_left hj] at e2
   exact r.inj i j p q e1 e2 ik
  ·rw [List.getElem?_append_left hi] at e1
   (refine ay ?_ (rq hj e2);rintro _ rfl)
   have:=fresh i p e1
   exact ⟨this.1.symm,this.1.symm,this.2.symm,this.2.symm⟩
  ·rw [List.getElem?_append_left hj] at e2
   (refine ay ?_ (rq hi e1);rintro _ rfl)
   have:=fresh j q e2
   exact ⟨this.1,this.2,this.1,this.2⟩
  ·exact absurd ((rq hi e1).1.trans (rq hj e2).1.symm) ik
 ·intro i o p e1 e2
  rcases Nat.lt_or_ge i ι.length with hi | hi
  ·rw [List.getElem?_append_left hi] at e2
   rw [List.getElem?_append_left (by refine aT r.len ?_;exact hi)] at e1
   have own:=b7.of_get e2
   exact OR.mono tx (fun o e=>hk _ _ (fun q=>eh (q ▸ own.1)) e) (fun o e=>hk _ _ (fun q=>eh (q ▸ own.2)) e) (r.obj i o p e1 e2)
  ·(refine ay ?_ (rq hi e2);rintro rfl rfl)
   rw [r.len,List.getElem?_append_right (Nat.le_refl _),Nat.sub_self] at e1
   (revert e1;refine si ?_;rintro rfl)
   exact ho
theorem yf.take {K:List AV->AH->Prop} {D L:Addr} (ce:yf C ι₀ h₀ K D L s) {h'':Heap} (hs:Heap.SameBut L s.heap h'') :
  ∃ acc V aK,Ext ι₀ h₀ (aK++[(D,D)]) h''/\(∀ t,St C (aK++[(D,D)]) (V++[.list acc]) { s with heap:=h'',toks:=t })/\K acc V/\VR (aK++[(D,D)]) h'' (.ref V.length) (.ref D)/\¬ b7 (aK++[(D,D)]) L:=by
 obtain ⟨d0,l0,ne,aK,V,acc,ys,m,X,S,iA,lo,lb,dO,db,dj,hv,hl,hK⟩:=ce
 have Hx:∀ vs,¬ s.heap.IsTuple L vs:=fun vs=>Ns.same iA
 have Yq:∀ vs,¬ s.heap.IsTuple D vs:=fun vs=>bO fun o' br gG Y=>by
  (revert dj;refine aM ?_;intro k hk)
  rw [hk] at br;(revert br;refine si ?_;rintro rfl);exact absurd (show Value.type "list"=Value.type "tuple" from gG) (by decide)
 have kL:∀ b o,b≠L->s.heap.get? b=some o->h''.get? b=some o:=fun b o hb e=>(hs.2 b hb).trans e
 have jM:HR C aK V h'':=S.hr.jC (fun b=>b=L) (fun b e=>by subst e;exact ⟨lo,lb,Hx⟩) kL
 have cf:Ext ι₀ h₀ aK h'':=⟨X.pre,fun b o hb e=>kL b o (by rintro rfl;rw [l0] at e;exact aZ e) (X.keep b o hb e),fun b o e=>let ⟨o',e'⟩:=X.alive b o e;(aQ o' (kL b o' (by rintro rfl;rw [l0] at e;exact aZ e) e')),X.new⟩
 have tx:cH aK s.heap aK h'':=⟨fun Y Y e=>e,fun b vs ht=>by
  have hb:b≠L:=by rintro rfl;exact Hx vs ht
  (revert ht;refine au ?_;intro o ho q)
  exact (aB o (kL b o hb ho) q)⟩
 have OU:cH aK h'' (aK++[(D,D)]) h'':=⟨fun i p e=>by
  refine U (List.getElem?_append_left (List.getElem?_eq_some_iff.mp e).1 ..) ?_;exact e,fun b vs ht=>ht⟩
 (revert dj;refine aM ?_;intro k hk)
 have zP:=kL D _ ne hk
 have OV:∀ vs,¬ h''.IsTuple D vs:=fun vs=>bO fun o' br gG Y=>by
  rw [zP] at br;(revert br;refine si ?_;rintro rfl);exact absurd (show Value.type "list"=Value.type "tuple" from gG) (by decide)
 have tg:=jM.adopt (ao:=.list acc) (h':=h'') dO db OV (fun b o Y e=>e) (oZ rfl hl ys (aQ k zP) (aI.mono OU _ (aI.mono tx _ hv)))
 refine (MM acc V aK (cf.adopt d0 (fun b o Y e=>e) (aQ _ zP)) (fun t=>⟨tg,S.gens,S.os⟩) hK ?_ ?_)
 ·simp only [VR]
  exact (aB (D,D) (by refine aT (jM.len ..) (U (List.getElem?_append_right (Nat.le_refl _) ..) (U (Nat.sub_self ..) ?_));rfl) rfl)
 ·(refine au ?_;intro p hp e)
  rcases List.mem_append.mp hp with hp | hp
  ·exact lo (aB p hp e)
  ·obtain rfl:=List.mem_singleton.mp hp
   exact ne (e.elim (fun q=>q.symm) fun q=>q.symm)
theorem Hy {sc sub:Scope} {elt:Ex} {cond:Option Ex} {x:Nm} {frees:List Nm} {bJ:Bool} {it:Ex} {e:Expr} (h:mE sc (.comp elt x frees bJ it cond) e=true) :
  ∃ el tp iter ifs sub pos,e=.ListComp el [⟨.Name x.str tp,iter,ifs,0⟩] sub pos/\s0 sc sub x frees=true/\s1 sc bJ it iter=true/\mE (jJ sc sub) elt el=true/\mO (jJ sc sub) cond ifs=true:=by
 (refine Oe h ?_;clear h;intro el gs sub pos h)
 (refine jh h ?_;clear h;intro g h)
 replace h:=On h
 (revert h;refine E2 ?_;rintro id tp iter ifs rfl h)
 (revert h;refine aw (aw (aw (aw ?_)));intro cw h2 h3 h4 h5;obtain rfl:=eq_of_beq cw)
 exact (MT el tp iter ifs sub pos rfl h2 h3 h4 h5)
theorem Hz {sc:Scope} {bJ:Bool} {it:Ex} {iter:Expr} {env:Env} (h:s1 sc bJ it iter=true):∀ x,foldedSetIterable iter env x=pure x:=by
 intro x
 induction bJ with
 | true =>
  (refine iw h ?_;clear h;intro f z1 p h)
  rfl
 | false =>
  have:bZ iter=true:=(g9 h).1
  exact Op this
theorem HA {elt:Ex} {cond:Option Ex} {x:Nm} {frees:List Nm} {bJ:Bool} {it:Ex} {el iter:Expr} {tp pos p0:Pos} {ifs:List Expr} {sub:Scope} {use:Option (Value->Sem Unit)} {Q:AV->AH->Prop} {Q':Value->Shared->Prop}
  (hi:aN C n it) (he:aN C n elt) (hc:nL C n cond) (hf:s0 env.scope sub x frees=true) (hm:s1 env.scope bJ it iter=true) (s4:mE (jJ env.scope sub) elt el=true) (s5:mO (jJ env.scope sub) cond ifs=true)
  (hR:Rb A n) (S:St C ι σ s) (F:FR C env ρ ι s.heap) (hw:aD C n (.comp elt x frees bJ it cond) Q ρ σ)
  (hq:∀ D L s',yf C ι s.heap (fun acc ai=>Q (.ref ai.length) (ai++[.list acc])) D L s'->compPost (model C.prog C.w) A (fun Y Y=>False) use Q' (.ref D) L (.ok .next) s') :
  wpAny (model C.prog C.w) A (comprehension (.ListComp el [⟨.Name x.str tp,iter,ifs,0⟩] sub pos) sub env p0 (newList []) false (eval iter env) use) Q' (fun Y Y=>False) s:=by
 have P:=Oz hf
 (refine au ?_ (Oy F.apart P.nodup (fun y hy e=>Option.ne_none_iff_exists'.mp (F.kH _ (P.free y hy e).2)));intro cl fY KO)
 refine wpAny_comprehension_free (cl:=cl) rfl (Hz hm) fY P.kind P.locs ?_
 have im:aD C n it (fun v V=>ip bJ v V fun xs g =>
   kF (fun a K ai=>jg C n cond (fun t aH=>match t with
     | true=>aD C n elt (fun r bn=>K (some r) bn) (ei ρ x frees a) aH
     | false=>K Option.none aH) (ei ρ x frees a) ai) g (fun acc ai=>Q (.ref ai.length) (ai++[.list acc])) xs [] V) ρ σ:=by
  exact hw
 refine wpAny_mono (Hq hi hm hR S F im) (fun xv aG bD=>wpAny_mono bD (fun s2 bh bI=>?_) fun Y Y f=>f.elim) fun Y Y f=>f.elim
 (revert bI;refine Fc ?_;rintro iR xs g aH bH rfl eC bd av I gT kN bC hg hW)
 exact OP (RR:=fun acc L=>compPost (model C.prog C.w) A (fun Y Y=>False) use Q' acc L) he hc hR P KO s4 s5 F S eC bd av I gT kN bC hg hW hq
theorem OW {elt:Ex} {cond:Option Ex} {x:Nm} {frees:List Nm} {bJ:Bool} {it:Ex} {e:Expr} {Q:AV->AH->Prop} (hi:aN C n it) (he:aN C n elt) (hc:nL C n cond) (hm:mE env.scope (.comp elt x frees bJ it cond) e=true)
  (hR:Rb A n) (S:St C ι σ s) (F:FR C env ρ ι s.heap) (hw:aD C n (.comp elt x frees bJ it cond) Q ρ σ):wpAny (model C.prog C.w) A (eval e env) (bY C ι s.heap Q) (fun Y Y=>False) s:=by
 (refine Fd ?_ (Hy (sub:=env.scope) hm);rintro el tp iter ifs sub pos rfl h1 h2 h3 h4)
 refine U (eval_ListComp ..) ?_
 refine HA (use:=none) hi he hc h1 h2 h3 h4 hR S F hw fun D L s' ce=>?_
 (refine Fb ?_ (ce.ex);intro aK V acc ys m _ _ iA _)
 refine (aB m iA (fun h'' hs=>?_))
 (refine lu ?_ (ce.take hs);intro acc V aK X S' q v _)
 exact (cF _ _ _ X (S' s'.toks) v q)
end
abbrev FF:Value->Shared->Prop:=fun Y Y=>False
section
variable {C:Cx} {ι aK ι₀:bf} {σ V:AH} {s:Shared} {A:Around} {n:Nat} {env:Env} {ρ:Loc} {h h' h₀:Heap}
theorem up {x:Sem Value} {Q:AV->AH->Prop} {E:Value->Shared->Prop} (X:Ext ι₀ h₀ ι h) (q:wpAny (model C.prog C.w) A x (bY C ι h Q) E s):wpAny (model C.prog C.w) A x (bY C ι₀ h₀ Q) E s :=
 wpAny_mono q (fun a s' p=>p.trans X) fun Y Y e=>e
theorem HB {x:Sem Bool} {K:Bool->AH->Prop} {E:Value->Shared->Prop} (X:Ext ι₀ h₀ ι h) (q:wpAny (model C.prog C.w) A x (lF C ι h K) E s):wpAny (model C.prog C.w) A x (lF C ι₀ h₀ K) E s :=
 wpAny_mono q (fun a s' p=>p.trans X) fun Y Y e=>e
theorem aN.go {m:Ex} {e:Expr} {Q₁:AV->AH->Prop} {Q':Value->Shared->Prop} (he:aN C n m) (hm:mE env.scope m e=true) (hR:Rb A n) (S:St C ι σ s) (F:FR C env ρ ι s.heap) (hw:aD C n m Q₁ ρ σ)
  (k:∀ v ai aU cv aG,Ext ι s.heap aU aG.heap->St C aU ai aG->FR C env ρ aU aG.heap->VR aU aG.heap v cv->Q₁ v ai->Q' cv aG):wpAny (model C.prog C.w) A (eval e env) Q' FF s :=
 wpAny_mono (he e env A ι σ s ρ Q₁ hm hR S F hw) (fun cv aG=>oX fun v ai aU X ah hv q=>k v ai aU cv aG X ah (F.mono S.hr X) hv q) fun Y Y f=>f.elim
theorem aN.go2 {l r:Ex} {e e':Expr} {HC:AV->AV->AH->Prop} {Q':Value->Value->Shared->Prop} (hl:aN C n l) (hr:aN C n r) (ti:mE env.scope l e=true) (OX:mE env.scope r e'=true) (hR:Rb A n) (S:St C ι σ s) (F:FR C env ρ ι s.heap)
  (hw:aD C n l (fun a V=>aD C n r (fun b ar=>HC a b ar) ρ V) ρ σ)
  (k:∀ a b aH bH u v bh,Ext ι s.heap bH bh.heap->St C bH aH bh->FR C env ρ bH bh.heap->VR bH bh.heap a u->VR bH bh.heap b v->HC a b aH->Q' u v bh) :
  wpAny (model C.prog C.w) A (eval e env) (fun u aG=>wpAny (model C.prog C.w) A (eval e' env) (fun v bh=>Q' u v bh) FF aG) FF s :=
 hl.go ti hR S F hw fun a ai aU u aG cf ah bq hu bD=>hr.go OX hR ah bq bD fun b aH bH v bh bd av bN hv bI =>
  k a b aH bH u v bh (cf.trans bd) av bN (VR.mono (bd.cI ah.hr) _ hu) hv bI
theorem OY {i:Int}:aN C n (.neg i):=by
 intro e env A ι σ s ρ Q hm hR S F hw
 (refine zo hm ?_;clear hm;intro z1 z2 z3 hm)
 (revert hm;refine aw ?_;intro ho hm)
 obtain rfl:=eq_of_beq ho
 (refine jI hm ?_;clear hm;intro z4 z5 z6 hm)
 obtain rfl:=pJ hm
 refine wpAny_UnaryOp (wpAny_Constant_int (neg_int ?_))
 exact S.kx hw
theorem OZ:aN C n .none:=by
 intro e env A ι σ s ρ Q hm hR S F hw
 (refine jI hm ?_;clear hm;intro z1 z2 z3 hm)
 obtain rfl:=zx hm
 exact wpAny_Constant_none (S.Ng hw)
theorem O0 {b:Bool}:aN C n (.bool b):=by
 intro e env A ι σ s ρ Q hm hR S F hw
 (refine jI hm ?_;clear hm;intro z1 z2 z3 hm)
 obtain rfl:=Ol hm
 exact wpAny_Constant_bool (S.jD hw)
theorem O4 {i:Int}:aN C n (.int i):=by
 intro e env A ι σ s ρ Q hm hR S F hw
 (refine jI hm ?_;clear hm;intro z1 z2 z3 hm)
 obtain rfl:=pJ hm
 exact wpAny_Constant_int (S.kx hw)
theorem HD {x:Nm}:aN C n (.nm x):=by
 intro e env A ι σ s ρ Q hm hR S F hw
 (refine qY hm ?_;clear hm;intro z1 z2 hm)
 (revert hm;refine aw (aw ?_);intro cw h2 h3;obtain rfl:=eq_of_beq cw)
 change (match ρ x with | some v=>Q v σ | Option.none=>False) at hw
 induction hv:ρ x with
 | none=>rw [hv] at hw;exact hw.elim
 | some v=>rw [hv] at hw;exact N6 F S hv h2 h3 hw
theorem O5 {x:Nm} {i:Int}:aN C n (.gi x i):=by
 intro e env A ι σ s ρ Q hm hR S F hw
 change (_&&_)=true at hm
 simp only [Bool.and_eq_true,beq_iff_eq] at hm
 (refine bO ?_ (te hm.1);rintro p rfl h2 h3)
 (refine aM ?_ (C.gi x i hm.2);intro t ht)
 exact zk F S h2 ht h3 (S.here (by simp only [VR];exact (aQ t rfl)) hw)
set_option tactic.hygienic true in
theorem O6 {a:Ex} {f:Nm} (ha:aN C n a):aN C n (.ba a f):=by
 intro e env A ι σ s ρ Q hm hR S F hw
 (refine nF hm ?_;clear hm;intro z1 z2 z3 hm)
 (revert hm;refine aw (aw ?_);intro cw h2 h3;obtain rfl:=eq_of_beq cw)
 refine Attribute_any_ (ha.go h3 hR S F hw fun v ai aU cv aG X ah bq hv q=>?_) (by exact U (arm_eval_Attribute ..) (U (q7 h2 ..) rfl))
 induction v using AV.casesOn with
 | ref r =>
  (delta gD at q;dsimp only at q)
  refine qS q ?_
  clear q
  ·intro u hu q
   refine Gf hu ?_
   ·intro c l bm hu
    have hf:f∈fC c:=by
     (refine lY ?_ (ah.inst hv bm);intro x d mA _ _ _ _ _ hw nu)
     (refine au ?_ (nu f u hu);intro cu e1 _)
     (refine au ?_ (List.mem_map.mp (hw f.str (by refine U e1 ?_;simp)));intro g hg e)
     exact Nm.str_inj e ▸ hg
    exact up X (Gj (a:=.none) ah hv bm hu hf q)
 | _=>(delta gD at q;dsimp only at q)
theorem O7 {a i:Ex} (ha:aN C n a) (hi:aN C n i):aN C n (.sub a i):=by
 intro e env A ι σ s ρ Q hm hR S F hw
 (refine nH hm ?_;clear hm;intro z1 z2 z3 hm)
 (revert hm;refine aw (aw ?_);intro h1 h2 h3)
 refine Subscript_ (ha.go2 hi h2 h3 hR S F hw fun a b aH bH u v bh X av bN hu hv q=>?_)
 refine qS q ?_
 clear q
 ·intro x hx q
  exact up X (No av hu hv hx (G3 h1) q)
theorem wb {x:Str} {e:Expr} (h:sZ x e=true):∃ k p,e=.Constant (.str x) k p:=by
 (refine jI h ?_;clear h;intro z1 z2 z3 h)
 obtain rfl:=Om h
 exact (Fh _ _ rfl)
set_option tactic.hygienic true in
theorem O8 {a:Ex} {f:Nm} (ha:aN C n a):aN C n (.ss a f):=by
 intro e env A ι σ s ρ Q hm hR S F hw
 (refine nH hm ?_;clear hm;intro z1 z2 z3 hm)
 simp only [Bool.and_eq_true] at hm
 (refine gA ?_ (wb hm.1);rintro k p rfl)
 refine Subscript_ (ha.go hm.2 hR S F hw fun v ai aU cv aG X ah bq hv q=>?_)
 refine wpAny_Constant_str ?_
 refine qS q ?_
 clear q
 ·intro u hu q
  exact up (s:={ aG with toks:=aG.toks+1 }) X (Np (ah.tok (aG.toks+1)) hv hu (G3 rfl) q)
theorem O9 {a i:Ex} (ha:aN C n a) (hi:aN C n i):aN C n (.slt a i):=by
 intro e env A ι σ s ρ Q hm hR S F hw
 (refine nH hm ?_;clear hm;intro z1 z2 p hm)
 (refine zt hm ?_;clear hm;intro z3 z4 z5 pos hm)
 (revert hm;refine aw ?_;intro h0 hm)
 (revert hm;refine aw ?_;intro h1 hm)
 obtain rfl:=Option.isNone_iff_eq_none.mp h0
 obtain rfl:=Option.isNone_iff_eq_none.mp h1
 (refine pI hm ?_;clear hm;intro iQ hm)
 simp only [Bool.and_eq_true] at hm
 refine Subscript_ ?_
 refine ha.go hm.1 hR S F hw fun a ai aU u aG cf ah bq hu bD=>?_
 refine U (arm_eval_Slice ..) ?_
 show wpAny _ A ((pure .none:Sem Value) >>= _) _ _ _
 refine wpAny_bind (wpAny_pure (wpAny_bind (wpAny_holding (hi.go hm.2 hR ah bq bD fun b aH bH v bh bd av bN hv bI=>wpAny_bind (wpAny_holding ?_)))))
 refine wpAny_pure ?_
 refine wpAny_mono (NX (a:=iQ) (b:=iQ) av (VR.mono (bd.cI ah.hr) _ hu) hv bI) (fun iv cO q=>up (cf.trans bd) q) fun Y Y f=>f.elim
theorem Pa {a i:Ex} (ha:aN C n a) (hi:aN C n i):aN C n (.nz a i):=by
 intro e env A ι σ s ρ Q hm hR S F hw
 (refine nH hm ?_;clear hm;intro z1 z2 p hm)
 (refine zt hm ?_;clear hm;intro z3 z4 z5 pos hm)
 (revert hm;refine aw ?_;intro h0 hm)
 (revert hm;refine aw ?_;intro h1 hm)
 obtain rfl:=Option.isNone_iff_eq_none.mp h0
 obtain rfl:=Option.isNone_iff_eq_none.mp h1
 (refine pI hm ?_;clear hm;intro iQ hm)
 simp only [Bool.and_eq_true] at hm
 refine Subscript_ ?_
 refine ha.go hm.1 hR S F hw fun a ai aU u aG cf ah bq hu bD=>?_
 refine U (arm_eval_Slice ..) ?_
 refine wpAny_bind (hi.go hm.2 hR ah bq bD fun b aH bH v bh bd av bN hv bI=>wpAny_bind (wpAny_holding (wpAny_pure (wpAny_bind (wpAny_holding ?_)))))
 refine wpAny_pure ?_
 refine wpAny_mono (NY (a:=iQ) (b:=iQ) av (VR.mono (bd.cI ah.hr) _ hu) hv bI) (fun iv cO q=>up (cf.trans bd) q) fun Y Y f=>f.elim
theorem Pb {op:fE} {l r:Ex} (hl:aN C n l) (hr:aN C n r):aN C n (.bin op l r):=by
 intro e env A ι σ s ρ Q hm hR S F hw
 (refine Ob hm ?_;clear hm;intro z1 z2 z3 z4 hm)
 (revert hm;refine aw (aw ?_);intro cw h2 h3;obtain rfl:=eq_of_beq cw)
 exact wpAny_BinOp (hl.go2 hr h2 h3 hR S F hw fun a b aH bH u v bh X av bN hu hv q=>up X (NN av hu hv q))
theorem Pc {op:eJ} {l r:Ex} (hl:aN C n l) (hr:aN C n r):aN C n (.cmp op l r):=by
 intro e env A ι σ s ρ Q hm hR S F hw
 (refine lE hm ?_;clear hm;intro z1 z2 z3 z4 hm)
 (revert hm;refine aw (aw (aw ?_));intro cw h1 h2 h3;obtain rfl:=eq_of_beq cw)
 refine wpAny_Compare1 (hl.go2 hr h2 h3 hR S F hw fun a b aH bH u v bh X av bN hu hv q=>?_) (kM h1)
 revert hu hv
 refine sQ a b q ?_
 intro x y q hu hv
 exact up X (vQ av hu hv q)
theorem Pd {ng:Bool} {l r:Ex} (hl:aN C n l) (hr:aN C n r):aN C n (.eq ng l r):=by
 intro e env A ι σ s ρ Q hm hR S F hw
 (refine lE hm ?_;clear hm;intro z1 z2 z3 z4 hm)
 (revert hm;refine aw (aw (aw ?_));intro cw h1 h2 h3;obtain rfl:=eq_of_beq cw)
 exact wpAny_Compare1 (hl.go2 hr h2 h3 hR S F hw fun a b aH bH u v bh X av bN hu hv q=>up X (Gy av hu hv hR.line C.sys q)) (kM h1)
noncomputable def Pe:AV->Bool
 | .none=>true
 | _=>false
theorem Pf {v:AV} {cv:Value} (hv:VR ι h v cv):(cv==Value.none)=Pe v:=by
 induction v using AV.casesOn with
 | none=>refine U hv.none_inv ?_;rfl
 | bool b=>refine U hv.bool_inv ?_;rfl
 | int i=>(refine aM ?_ (hv.int_inv);rintro t rfl);rfl
 | tup l=>(refine oU ?_ (hv.jE);rintro a vs rfl _);rfl
 | ref i=>(refine au ?_ (hv.pl);rintro p _ rfl);rfl
theorem HE {ng:Bool} {v:AV} {cv:Value} {Q:Bool->AH->Prop} {R:Value->Shared->Prop} (S:St C ι σ s) (hv:VR ι s.heap v cv) (q:match v with | .none=>Q (!ng) σ | _=>Q ng σ) (k:∀ b,Q b σ->R (.bool b) s) :
  wpAny (model C.prog C.w) A (compareOp (if ng then .IsNot else .Is) cv .none) R FF s:=by
 have hb:=Pf hv
 induction ng with
 | true =>
  refine isNot_none ?_
  refine U hb ?_
  induction v using AV.casesOn <;> exact k _ q
 | false =>
  refine is_none ?_
  refine U hb ?_
  induction v using AV.casesOn <;> exact k _ q
theorem Pg {ng:Bool} {a:Ex} (ha:aN C n a):aN C n (.cc ng a):=by
 intro e env A ι σ s ρ Q hm hR S F hw
 (refine lE hm ?_;clear hm;intro z1 z2 z3 z4 hm)
 (revert hm;refine aw ?_;intro hc hm)
 (refine jI hc ?_;clear hc;intro z5 z6 z7 hc)
 obtain rfl:=zx hc
 (revert hm;refine aw ?_;intro cw h1;obtain rfl:=eq_of_beq cw)
 refine wpAny_Compare1 (ha.go h1 hR S F hw fun v ai aU cv aG X ah bq hv q=>wpAny_Constant_none ?_) (kM rfl)
 refine HE (Q:=fun b σ=>Q (.bool b) σ) ah hv (by induction v using AV.casesOn <;> exact q) fun b hb=>?_
 exact (cF (.bool b) ai aU X ah (by simp only [VR]) hb)
theorem Ph {ng:Bool} {k d:Ex} (hk:aN C n k) (hd:aN C n d):aN C n (.fV ng k d):=by
 intro e env A ι σ s ρ Q hm hR S F hw
 (refine lE hm ?_;clear hm;intro z1 z2 z3 z4 hm)
 (revert hm;refine aw (aw (aw ?_));intro cw h1 h2 h3;obtain rfl:=eq_of_beq cw)
 refine wpAny_Compare1 (hk.go2 hd h2 h3 hR S F hw fun a b aH bH u v bh X av bN hu hv q=>?_) (kM h1)
 induction a using AV.casesOn with
 | int i0 =>
  induction b using AV.casesOn with
  | ref r0 =>
   refine vO q ?_
   clear q
   intro l0 bm q
   induction ng with
   | true=>exact up X (Gp av hv hu bm C.sys q)
   | false=>exact up X (Go (a:=.none) av hv hu bm C.sys q)
  | _=>exact False.elim q
 | _=>exact False.elim q
theorem HF {ng:Bool} {i:Int} {u:Value} {p0 p1 tp:Pos} {k0 k1:Nat} {Q:Bool->AH->Prop} {R:Value->Shared->Prop} {sA:Nat} (S:St C ι σ s) (hv:VR ι s.heap (.int i) u) (q:Q (if ng then !(i==0||i==1) else (i==0||i==1)) σ)
  (k:∀ b s',Ext ι s.heap ι s'.heap->St C ι σ s'->Q b σ->R (.bool b) s') :
  wpAny (model C.prog C.w) A (eval (.Tuple [.Constant (.int 0) k0 p0,.Constant (.int 1) k1 p1] sA tp) env) (fun v aG=>wpAny (model C.prog C.w) A (compareOp (if ng then .NotIn else .In) u v) R FF aG) FF s:=by
 (refine aM ?_ (hv.int_inv);rintro t rfl)
 refine U (arm_eval_Tuple ..) ?_
 refine wpAny_bind (wpAny_standAt (wpAny_bind (wpAny_items_cons (wpAny_Constant_int (wpAny_items_cons (wpAny_Constant_int (wpAny_items_nil ?_)))))))
 refine wpAny_newObj_type ?_ (by show (2:Nat)<=sizeLine;refine U sizeLine_eq ?_;decide)
 dsimp only
 have S':St C ι σ { s with toks:=s.toks+1+1 }:=S.tok _
 (refine ay ?_ (S'.pK { cls:=.type "tuple",data:=.seq [Value.int 0 s.toks,Value.int 1 (s.toks+1)].toArray });intro ah cf)
 have iS:(s.heap.push { cls:=Value.type "tuple",data:=Data.seq [Value.int 0 s.toks,Value.int 1 (s.toks+1)].toArray }).get? s.heap.objs.size=some { cls:=Value.type "tuple",data:=Data.seq [Value.int 0 s.toks,Value.int 1 (s.toks+1)].toArray }:=Heap.get?_push_size _ rfl
 have he:∀ y,y∈[Value.int 0 s.toks,Value.int 1 (s.toks+1)].toArray->MeetsSeq.EqGives y (.int i t) (match y with | .int j _=>j==i | _=>false):=by
  intro y hy
  simp only [List.mem_toArray,List.mem_cons,List.not_mem_nil,or_false] at hy
  rcases hy with rfl | rfl <;> exact MeetsSeq.EqGives.int _ _ _ _
 have gS:([Value.int 0 s.toks,Value.int 1 (s.toks+1)].toArray.any fun y=>match y with | .int j _=>j==i | _=>false)=(i==0||i==1):=by
  refine List.any_toArray.trans ?_
  show ((0:Int)==i||((1:Int)==i||false))=_
  rw [Bool.or_false,BEq.comm (a:=(0:Int)),BEq.comm (a:=(1:Int))]
 induction ng with
 | true =>
  refine SeqRoads2.notIn_tuple _ he iS ?_
  refine U gS ?_
  exact k _ _ cf ah q
 | false =>
  refine SeqRoads2.in_tuple _ he iS ?_
  refine U gS ?_
  exact k _ _ cf ah q
theorem Pj {ng:Bool} {a:Ex} (ha:aN C n a):aN C n (.lD ng a):=by
 intro e env A ι σ s ρ Q hm hR S F hw
 (refine lE hm ?_;clear hm;intro z1 z2 z3 z4 hm)
 (refine sY hm ?_;clear hm;intro z5 z6 z7 hm)
 (refine nE hm ?_;clear hm;intro z8 z9 hm)
 (revert hm;refine aw ?_;intro hc hm)
 (revert hm;refine aw ?_;intro hd hm)
 (refine jI hc ?_;clear hc;intro y1 y2 y3 hc)
 obtain rfl:=pJ hc
 (refine jI hd ?_;clear hd;intro y4 y5 y6 hd)
 obtain rfl:=pJ hd
 (revert hm;refine aw ?_;intro cw h1;obtain rfl:=eq_of_beq cw)
 refine wpAny_Compare1 (ha.go h1 hR S F hw fun v ai aU cv aG X ah bq hv q=>?_) (kM rfl)
 induction v using AV.casesOn with
 | int x =>
  refine HF (Q:=fun b σ=>Q (.bool b) σ) ah hv q fun b s' X' S' hb=>?_
  exact (cF (.bool b) ai aU (X.trans X') S' (by simp only [VR]) hb)
 | _=>exact False.elim q
set_option tactic.hygienic true in
theorem Pk {a:Ex} (ha:aN C n a):aN C n (.not a):=by
 intro e env A ι σ s ρ Q hm hR S F hw
 (refine zo hm ?_;clear hm;intro z1 z2 z3 hm)
 (revert hm;refine aw ?_;intro ho hm)
 obtain rfl:=eq_of_beq ho
 refine wpAny_UnaryOp (ha.go hm hR S F hw fun v ai aU cv aG X ah bq hv q=>not_value ?_)
 refine NK q ?_
 clear q
 intro b hb q
 exact v6 ah hv hb (cF (.bool _) ai aU X ah (by simp only [VR]) q)
theorem Pl {c a b:Ex} (hc:fp C n c) (ha:aN C n a) (hb:aN C n b):aN C n (.ite c a b):=by
 intro e env A ι σ s ρ Q hm hR S F hw
 (refine Oc hm ?_;clear hm;intro z1 z2 z3 z4 hm)
 (revert hm;refine aw (aw ?_);intro h1 h2 h3)
 refine wpAny_IfExp (wpAny_mono (hc _ env A ι σ s ρ _ h1 hR S F hw) (fun t aG bD=>?_) fun Y Y f=>f.elim)
 (revert bD;refine cW ?_;intro ai aU X ah q)
 have bq:=F.mono S.hr X
 induction t with
 | true=>simp only [if_true];exact up X (ha _ env A aU ai aG ρ Q h2 hR ah bq q)
 | false=>simp only [Bool.false_eq_true,if_false];exact up X (hb _ env A aU ai aG ρ Q h3 hR ah bq q)
theorem jK.go {ms:List Ex} {es:List Expr} {pos:Pos} {Q₁:List AV->AH->Prop} {Q':List Value->Shared->Prop} (he:jK C n ms) (hm:gH env.scope ms es=true) (hR:Rb A n) (S:St C ι σ s) (F:FR C env ρ ι s.heap) (hw:fF C n ms Q₁ ρ σ)
  (k:∀ vs ai aU cD aG,Ext ι s.heap aU aG.heap->St C aU ai aG->FR C env ρ aU aG.heap->aI aU aG.heap vs cD->Q₁ vs ai->Q' cD aG):wpAny (model C.prog C.w) A (spliced (backTo pos (starEach es env))) Q' FF s :=
 wpAny_mono (he es env pos A ι σ s ρ Q₁ hm hR S F hw) (fun cv aG=>oX fun v ai aU X ah hv q=>k v ai aU cv aG X ah (F.mono S.hr X) hv q) fun Y Y f=>f.elim
theorem Pm {es:List Ex} (jk:jK C n es):aN C n (.tup es):=by
 intro e env A ι σ s ρ Q hm hR S F hw
 (refine sY hm ?_;clear hm;intro z1 z2 z3 hm)
 refine U (arm_eval_Tuple ..) ?_
 refine wpAny_bind (wpAny_standAt (wpAny_bind (jk.go hm hR S F hw fun vs ai aU cD aG X ah bq hv q=>?_)))
 exact up X (NI ah hv q.1 q.2)
theorem Pn {es:List Ex} (jk:jK C n es):aN C n (.list es):=by
 intro e env A ι σ s ρ Q hm hR S F hw
 (refine Od hm ?_;clear hm;intro z1 z2 hm)
 refine U (arm_eval_List ..) ?_
 refine wpAny_bind (wpAny_standAt (wpAny_bind (jk.go hm hR S F hw fun vs ai aU cD aG X ah bq hv q=>?_)))
 exact up X (NH ah hv q.1 q.2)
theorem Po:aN C n .gh:=by
 intro e env A ι σ s ρ Q hm hR S F hw
 (refine zr hm ?_;clear hm;intro z1 z2 z3 hm)
 (revert hm;refine aw ?_;intro h0 hm)
 obtain rfl:=ir h0
 obtain rfl:=ir hm
 refine wpAny_Dict_empty ?_
 (refine ay ?_ (S.alloc (o:={ cls:=.type "dict",data:=.dict #[] }) (ao:=.an []) rfl (lw rfl (by decide) ([]) (Heap.DictOf.new _) rfl (by simp [aI])));intro x y)
 refine (cF _ _ _ x (y s.toks) ?_ hw)
 refine aT S.hr.len ?_
 exact sP
theorem HG {aU:bf} {ai:AH} {aG:Shared} {h':Heap} {ao:AO} {t:Nat} {Q:AV->AH->Prop} (hD:s.heap.get? s.heap.objs.size=none) (X:Ext ι (s.heap.push { cls:=.type "dict",data:=.dict #[] }) aU aG.heap) (ah:St C aU ai aG) (S:St C ι σ s)
  (hs:Heap.SameBut s.heap.objs.size aG.heap h') (ho:cH aU aG.heap (aU++[(s.heap.objs.size,s.heap.objs.size)]) h'->OR C (aU++[(s.heap.objs.size,s.heap.objs.size)]) h' (s.heap.objs.size,s.heap.objs.size) ao) (q:Q (.ref ai.length) (ai++[ao])) :
  bY C ι s.heap Q (.ref s.heap.objs.size) { aG with heap:=h',toks:=t }:=by
 (refine bS ?_ (lG S);intro f1 f2 f3)
 have e0:(s.heap.push { cls:=.type "dict",data:=.dict #[] }).get? s.heap.objs.size=some { cls:=.type "dict",data:=.dict #[] }:=Heap.get?_push_size _ rfl
 have e1:=X.keep _ _ f2 e0
 have no:=X.pE e0 f2
 have fW:∀ vs,¬ aG.heap.IsTuple s.heap.objs.size vs:=fun vs=>bO fun o' br gG Y=>by
  rw [e1] at br;(revert br;refine si ?_;rintro rfl);exact absurd (show Value.type "dict"=Value.type "tuple" from gG) (by decide)
 have hk:∀ b o,b≠s.heap.objs.size->aG.heap.get? b=some o->h'.get? b=some o:=fun b o hb e=>(hs.2 b hb).trans e
 have tx:cH aU aG.heap (aU++[(s.heap.objs.size,s.heap.objs.size)]) h':=⟨fun i p e=>by
  refine U (List.getElem?_append_left (List.getElem?_eq_some_iff.mp e).1 ..) ?_;exact e,fun b vs ht=>by
  have hb:b≠s.heap.objs.size:=by rintro rfl;exact fW vs ht
  (revert ht;refine au ?_;intro o ho q)
  exact (aB o (hk _ _ hb ho) q)⟩
 have H:=ah.hr.adopt (ao:=ao) no f3 fW hk (ho tx)
 have X0:Ext ι s.heap aU aG.heap:=(Ext.keeps fun b o e=>Heap.get?_push_of_some _ e).trans X
 have al:=(ho tx).alive.1
 refine (cF _ _ _ (X0.adopt hD hk al) ⟨H,ah.gens,ah.os⟩ ?_ q)
 simp only [VR]
 exact (aB _ (by refine aT (ah.hr.len ..) (U (List.getElem?_append_right (Nat.le_refl _) ..) (U (Nat.sub_self ..) ?_));rfl) rfl)
theorem Pp {k:Int} {a:Ex} (ha:aN C n a):aN C n (.pB k a):=by
 intro e env A ι σ s ρ Q hm hR S F hw
 (refine zr hm ?_;clear hm;intro z1 z2 pos hm)
 (refine jh hm ?_;clear hm;intro z3 hm)
 (refine jh hm ?_;clear hm;intro v hm)
 (refine pI hm ?_;clear hm;intro z5 hm)
 (refine aw ?_ hm;intro hc h2)
 (refine jI hc ?_;clear hc;intro z6 kk kp hc)
 obtain rfl:=pJ hc
 (refine bS ?_ (lG S);intro f1 f2 f3)
 refine wpAny_Dict_walk (knd:=intKind C.prog C.w) rfl rfl (by simp) (by show (1:Nat)<=15;decide) (pairTrees_cons_walk (wpAny_Constant_int ?_))
 (refine ay ?_ (S.pK { cls:=.type "dict",data:=.dict #[] });intro nN zQ)
 refine ha.go h2 hR (nN.tok (s.toks+1)) (F.mono S.hr zQ) hw fun v ai aU cv aG X ah bq hv q=>?_
 refine pairTrees_nil_walk (display_done_int rfl (by simp [intKeyPairs]) ?_ fun h' hd hs=>?_)
 ·have zR:(s.heap.push { cls:=.type "dict",data:=.dict #[] }).DictOf (intKind C.prog C.w) s.heap.objs.size []:=Heap.DictOf.new _
  (revert zR;refine lr ?_;intro o' es ep br r)
  exact (l5 o' es ep (X.keep _ _ f2 br) r)
 ·refine HG (ao:=.an [(k,v)]) f1 X ah S hs (fun tx=>(lw rfl (by simp) _ hd rfl ?_)) q
  exact aI.one (VR.mono tx _ hv)
noncomputable def tj (C:Cx) (n:Nat) (ms:List (Nm × Ex)):Prop:=∀ (ks:List (Option Expr)) (es:List Expr) (env:Env) (pos:Pos) (A:Around) (ι:bf) (σ:AH) (s:Shared) (ρ:Loc) (Q:List (Nm × AV)->AH->Prop),v5 env.scope ms ks es=true->Rb A n->St C ι σ s->FR C env ρ ι s.heap->pD C n ms Q ρ σ ->
 wpAny (model C.prog C.w) A (evalPairs (pairTrees ks es env pos)) (fun cD s'=>∃ fs V aK,Ext ι s.heap aK s'.heap/\St C aK V s'/\allStrKeys cD=true/\(strPairs cD).map (·.1)=fs.map (fun x=>x.1.str)/\aI aK s'.heap (fs.map (·.2)) ((strPairs cD).map (·.2))/\fs.length=ms.length/\Q fs V) FF s
theorem Pq:tj C n []:=by
 intro ks es env pos A ι σ s ρ Q hm hR S F hw
 (revert hm;refine aw ?_;intro h0 hm)
 obtain rfl:=ir h0
 obtain rfl:=ir hm
 refine pairTrees_nil_walk (sm ([]) σ ι (Ext.refl _ _) S rfl rfl (by simp [strPairs,aI]) rfl ?_)
 exact hw
theorem Pr {f:Nm} {a:Ex} {r:List (Nm × Ex)} (ha:aN C n a) (hr:tj C n r):tj C n ((f,a)::r):=by
 intro ks es env pos A ι σ s ρ Q hm hR S F hw
 (refine kK hm ?_;clear hm;intro k ks hm)
 (refine kK hm ?_;clear hm;intro v vs hm)
 (refine pI hm ?_;clear hm;intro k hm)
 (revert hm;refine aw (aw ?_);intro h1 h2 h3)
 (refine gA ?_ (wb h1);rintro kk kp rfl)
 refine pairTrees_cons_walk (wpAny_Constant_str ?_)
 refine ha.go h2 hR (S.tok _) F hw fun v ai aU cv aG X ah bq hv q=>?_
 refine wpAny_mono (hr _ _ env _ A aU ai aG ρ _ h3 hR ah bq q) (fun cD bh bI=>?_) fun Y Y f=>f.elim
 (revert bI;refine lY ?_;intro fs aH bH bd av e1 e2 e3 e4 iT)
 refine (sm ((f,v)::fs) aH bH (X.trans bd) av e1 ?_ ?_ (by simp [e4]) iT)
 ·simp only [strPairs,List.map_cons,e2]
 ·simp only [strPairs,List.map_cons,aI]
  exact (cA cv _ rfl (VR.mono (bd.cI ah.hr) _ hv) e3)
theorem HH {sc:Scope}:∀ {ms:List (Nm × Ex)} {ks:List (Option Expr)} {es:List Expr},v5 sc ms ks es=true->ks.all (·.isSome)=true/\ks.length=es.length/\ks.length=ms.length
 | [],ks,es,h=>by
  (refine aw ?_ h;intro h0 h)
  obtain rfl:=ir h0
  obtain rfl:=ir h
  exact ⟨rfl,rfl,rfl⟩
 | (f,a)::ms,ks,es,h=>by
  (refine kK h ?_;clear h;intro k ks h)
  (refine kK h ?_;clear h;intro v vs h)
  (refine pI h ?_;clear h;intro k h)
  (refine bS ?_ (HH (g9 h).2);intro i1 i2 i3)
  exact ⟨by simpa using i1,by simp [i2],by simp [i3]⟩
theorem Ps {es:List (Nm × Ex)} (jk:tj C n es):aN C n (.bl es):=by
 intro e env A ι σ s ρ Q hm hR S F hw
 (refine zr hm ?_;clear hm;intro ks vs pos hm)
 simp only [Bool.and_eq_true,decide_eq_true_eq,Bool.not_eq_true'] at hm
 (revert hm;refine yg ?_;intro h1 h2 h3)
 (refine bS ?_ (HH h3);intro i1 i2 i3)
 (refine bS ?_ (lG S);intro f1 f2 f3)
 have bu:ks≠[]:=by
  rintro rfl
  have:es=[]:=List.length_eq_zero_iff.mp i3.symm
  rw [this] at h1;exact Fe h1
 refine wpAny_Dict_walk (knd:=strKind C.prog C.w) i1 i2 bu (by lia) ?_
 (refine ay ?_ (S.pK { cls:=.type "dict",data:=.dict #[] });intro nN zQ)
 refine wpAny_mono (jk _ _ env _ A ι σ _ ρ _ h3 hR nN (F.mono S.hr zQ) hw) (fun cD aG bD=>?_) fun Y Y f=>f.elim
 (revert bD;refine lY ?_;intro fs ai aU X ah e1 e2 e3 e4 q)
 have bP:((strPairs cD).map (·.1)).Nodup:=by
  refine U e2 (U (show fs.map (fun x=>x.1.str)=(fs.map (·.1)).map Nm.str by rw [List.map_map];rfl) ?_)
  exact List.Pairwise.map _ (fun a b zS=>fun e=>zS (Nm.str_inj e)) q.1
 refine display_done_str e1 bP ?_ fun h' hd hs=>?_
 ·have zR:(s.heap.push { cls:=.type "dict",data:=.dict #[] }).DictOf (strKind C.prog C.w) s.heap.objs.size []:=Heap.DictOf.new _
  (revert zR;refine lr ?_;intro o' es ep br r)
  exact (l5 o' es ep (X.keep _ _ f2 br) r)
 ·refine HG (ao:=.bl fs) f1 X ah S hs (fun tx=>(lw rfl ?_ _ hd e2 (aI.mono tx _ e3))) q.2
  refine U e4 ?_;lia
end
section
variable {C:Cx} {ι aK ι₀:bf} {σ V:AH} {s:Shared} {A:Around} {n:Nat} {env:Env} {ρ:Loc} {h h' h₀:Heap}
theorem tm {sc:Scope}:∀ {ms:List Ex} {es:List Expr},gH sc ms es=true->(∀ e∈es,bZ e=true)/\es.length=ms.length
 | [],es,h=>by
  obtain rfl:=ir h
  exact ⟨fun e he=>(nomatch he),rfl⟩
 | a::ms,es,h=>by
  (refine kK h ?_;clear h;intro v vs h)
  simp only [Bool.and_eq_true] at h
  (refine ay ?_ (tm h.2);intro i1 i2)
  refine ⟨fun e he=>?_,by simp [i2]⟩
  rcases List.mem_cons.mp he with rfl | he
  ·exact h.1.1
  ·exact i1 e he
theorem tn {es:List Expr} {pos:Pos} (h:∀ e∈es,bZ e=true) (hl:es.length<20):((backTo pos (starEach es env)).all (fun x=>!x.1)&&(backToKw pos (keywordEach [] env)).all (fun x=>x.1.isSome)
   && decide (es.length+([]:List Keyword).length+(if ([]:List Keyword).isEmpty then 0 else 1)<30))=true:=by
 have h1:(backTo pos (starEach es env)).all (fun x=>!x.1)=true:=by
  clear hl
  induction es with
  | nil=>rfl
  | cons e r ih =>
   refine U (q6 (h e (.head _)) ..) ?_
   show (true&&(backTo pos (starEach r env)).all (fun x=>!x.1))=true
   refine U (ih fun x hx=>h x (.tail _ hx) ..) ?_;rfl
 refine U h1 ?_
 have h2:(backToKw pos (keywordEach [] env)).all (fun x=>x.1.isSome)=true:=rfl
 refine U h2 ?_
 have:es.length+([]:List Keyword).length+(if ([]:List Keyword).isEmpty then 0 else 1)<30:=by
  show es.length+0+0<30
  lia
 simp [this]
 exact Nat.lt_trans hl (by decide)
theorem HI {f:Fn} {vs:List AV} {cD:List Value} {Q:AV->AH->Prop} (S:St C ι σ s) (hR:Rb A n) (hv:aI ι s.heap vs cD) (hw:FW C n f vs Q σ) :
  wpAny (model C.prog C.w) A (call (.ref (C.fa f)) cD []) (bY C ι s.heap Q) FF s :=
 wpAny_call (codeAny_mono (hw.go A ι s cD hR.rm S hv) fun r s'=>au fun cv e p=>by subst e;exact p)
theorem HJ {f:Fn} {es:List Ex} (jk:jK C n es):aN C n (.call f es):=by
 intro e env A ι σ s ρ Q hm hR S F hw
 (refine iw hm ?_;clear hm;intro z1 z2 z3 hm)
 simp only [Bool.and_eq_true,decide_eq_true_eq] at hm
 (revert hm;refine Mw ?_;intro h1 h2 h3 h4)
 (refine bO ?_ (te h2);rintro p rfl g2 g3)
 (refine ay ?_ (C.sE f h1);intro k1 k2)
 refine Call_ (zk F S g2 k1 g3 ?_)
 refine nM (fun h=>C.K.In h) (tm h3).1 (fun h hk=>keeps_K k2 h hk) ?_
 refine jk.go h3 hR S F hw fun vs ai aU cD aG X ah bq hv q=>⟨C.lC.keeps ah.hr.keep,?_⟩
 exact up X (HI ah hR hv q)
theorem Pt {c:Cl} {vs:List AV} {cD:List Value} {Q:AV->AH->Prop} (S:St C ι σ s) (hR:Rb A n) (hv:aI ι s.heap vs cD) (hw:FW C n (nn c) (.ref σ.length::vs) (fun r ar=>r=.none/\Q (.ref σ.length) ar) (σ++[.inst c []])) :
  wpAny (model C.prog C.w) A (call (.ref (C.ca c)) cD []) (bY C ι s.heap Q) FF s:=by
 refine wpAny_call ?_
 obtain ⟨hp,g,d,t,os⟩:=s
 have K:=C.cls c
 have X:=C.lC.keeps S.hr.keep
 refine make_core (makes_of X K.makes) (looks_findIn X K.init) (fun self=>bind_fn X self K.M4) (.inl rfl) ?_
 have k:∀ b o,hp.get? b=some o->((hp.push emptyDict).push (instObj (C.ca c) hp.objs.size)).get? b=some o:=fun b o e=>Heap.get?_push_of_some _ (Heap.get?_push_of_some _ e)
 have n1:hp.get? hp.objs.size=none:=by
  induction e:hp.get? hp.objs.size with
  | none=>rfl
  | some o=>exact absurd (Heap.lt_size e) (Nat.lt_irrefl _)
 have n2:hp.get? (hp.objs.size+1)=none:=by
  induction e:hp.get? (hp.objs.size+1) with
  | none=>rfl
  | some o=>exact absurd (Heap.lt_size e) (Nat.not_lt.mpr (Nat.le_succ _))
 have gd:((hp.push emptyDict).push (instObj (C.ca c) hp.objs.size)).get? hp.objs.size=some emptyDict:=Heap.get?_push_of_some _ (Heap.get?_push_size _ rfl)
 have gi:((hp.push emptyDict).push (instObj (C.ca c) hp.objs.size)).get? (hp.objs.size+1)=some (instObj (C.ca c) hp.objs.size):=by
  have:(hp.push emptyDict).objs.size=hp.objs.size+1:=Heap.size_push ..
  refine aT this ?_
  exact Heap.get?_push_size _ rfl
 have ns:((hp.push emptyDict).push (instObj (C.ca c) hp.objs.size)).Ns1 hp.objs.size fun Y=>none :=
  Heap.Ns1.of_empty (cF _ (#[]) _ gd rfl (fun e he=>absurd he (by simp)) (fun Y=>rfl))
 (refine ay ?_ (S.hr.alloc (a:=hp.objs.size+1) (d:=hp.objs.size) (ao:=.inst c []) k n2 n1 (lw (Nat.ne_of_lt (Nat.lt_succ_self _)) gi (fun Y=>none) ns (fun Y h=>absurd rfl h) (fun f v e=>by exact aZ e)));intro H Y)
 have R':Rm (A.under (.builtin "type.__call__" ⟨.ref (C.ca c)::cD,[]⟩)) n:=⟨hR.bP,by have:=hR.depth;show A.depth+1+3*n<=900;lia,by have:=hR.units;show A.units+1+20*n<=9000;lia⟩
 have S':St C (ι++[(hp.objs.size+1,hp.objs.size)]) (σ++[.inst c []]) ⟨(hp.push emptyDict).push (instObj (C.ca c) hp.objs.size),g,d,t,os⟩:=⟨H,S.gens,S.os⟩
 have v0:VR (ι++[(hp.objs.size+1,hp.objs.size)]) ((hp.push emptyDict).push (instObj (C.ca c) hp.objs.size)) (.ref σ.length) (.ref (hp.objs.size+1)):=by
  refine aT S.hr.len ?_
  simp only [VR]
  exact (aB (hp.objs.size+1,hp.objs.size) (by simp) rfl)
 refine codeAny_mono (hw.go _ _ _ _ R' S' ?_) fun r s' hr=>?_
 ·simp only [aI];exact (cA _ _ rfl v0 (aI.mono (Y.cI S.hr) _ hv))
 ·(revert hr;refine MA ?_;rintro cv rfl v aH bH bd av kO rfl q)
  refine (MH kO.none_inv _ aH bH (Y.trans bd) av (VR.mono (bd.cI S'.hr) _ v0) q)
theorem Pu {c:Cl} {es:List Ex} (jk:jK C n es):aN C n (.new c es):=by
 intro e env A ι σ s ρ Q hm hR S F hw
 (refine iw hm ?_;clear hm;intro z1 z2 z3 hm)
 simp only [Bool.and_eq_true,decide_eq_true_eq] at hm
 (revert hm;refine yg ?_;intro h2 h3 h4)
 (refine bO ?_ (te h2);rintro p rfl g2 g3)
 (refine ay ?_ (C.vH c);intro k1 k2)
 refine Call_ (zk F S g2 k1 g3 ?_)
 refine nM (fun h=>C.K.In h) (tm h3).1 (fun h hk=>keeps_K k2 h hk) ?_
 refine jk.go h3 hR S F hw fun vs ai aU cD aG X ah bq hv q=>⟨C.lC.keeps ah.hr.keep,?_⟩
 exact up X (Pt ah hR hv q)
set_option tactic.hygienic true in
theorem Pw {a:Ex} {c:Cl} {f:Fn} {es:List Ex} (ha:aN C n a) (jk:jK C n es):aN C n (.jA a c f es):=by
 intro e env A ι σ s ρ Q hm hR S F hw
 (refine iw hm ?_;clear hm;intro z1 args p hm)
 (refine nF hm ?_;clear hm;intro o g ap hm)
 simp only [Bool.and_eq_true,decide_eq_true_eq,beq_iff_eq] at hm
 (revert hm;refine EY ?_;rintro rfl hb mq to fH h3 h4)
 (refine bS ?_ (C.jA c f to);intro m1 m2 m3)
 have hp:=(tm h3).1
 have mr:methodCallForm (args.length+([]:List Keyword).length) (backTo p (starEach args env)) (backToKw p (keywordEach [] env))=true :=
  tn hp (by refine U ((tm h3).2 ..) ?_;exact h4)
 have y0:methodCallPos true o env ap p=pure p:=by unfold methodCallPos;simp [mq]
 refine U (arm_eval_Call ..) (U (q7 hb ..) ?_)
 refine wpAny_bind (ha.go fH hR S F hw fun v ai aU cv aG X ah bq hv q=>wpAny_bind (wpAny_standAt ?_))
 unfold methodCall
 refine U mr ?_
 induction v using AV.casesOn with
 | ref r =>
  refine y8 q ?_
  clear q
  ·intro c' l bm q
   (revert q;refine ay ?_;rintro rfl q)
   (refine lY ?_ (ah.inst hv bm);rintro x d mA rfl rp bu hx hn Px nu)
   (refine lu ?_ (id hn);intro od gE ep sM vN hk hu Py)
   have eh:mA f.str=none:=by
    induction hz:mA f.str with
    | none=>rfl
    | some z =>
     exfalso
     have iz:=Px f.str (by refine U hz ?_;simp)
     have Pz:c'=.jd/\f=.pi:=by
      unfold vG at to
      rw [Bool.and_eq_true] at to
      exact ⟨by simpa using to.1,by simpa using to.2⟩
     (revert Pz;refine ay ?_;rintro rfl rfl)
     exact absurd iz (by decide +kernel)
   have hl:shadowIn (some od) f.str=some false:=by
    show (lookIn f.str od).map (·.isSome)=_
    have py:(gE.toList.find? (·.key.isStr f.str)).map (·.val)=none:=by
     rw [<- eh,<- Py f.str]
     obtain ⟨gE⟩:=gE
     simp [nsFind,findBy]
    have nO:gE.toList.find? (·.key.isStr f.str)=none:=by
     induction e:gE.toList.find? (·.key.isStr f.str) with
     | none=>rfl
     | some en=>rw [e] at py;exact dQ py
    have gS:gE.toList.any (·.refKey)=false:=by
     rw [List.any_eq_false]
     intro y hy
     (refine gA ?_ (hk y (Array.mem_toList_iff.mp hy));intro nm tk PA)
     simp [DictEntry.refKey,PA]
    unfold lookIn
    refine U vN ?_
    dsimp only
    refine U nO ?_
    dsimp only
    refine U (if_neg (by rw [gS];decide) ..) ?_
    rfl
   have I:W.InstAt aG.heap x (instObj (C.ca c') d) (C.ca c') (some od):=⟨hx,rfl,rfl,sM⟩
   have Kc:=C.cls c'
   have mt:typeIn C.K (.ref (C.fa f))=some (.type "function"):=by
    have:=m2;unfold isFn at this;simpa using this
   refine wpAny_bind (wpAny_holding (method_fn (C.lC.keeps ah.hr.keep) I Kc.ga Kc.M5 m1 mt hl ?_))
   refine wpAny_bind (wpAny_of_eq y0 ?_)
   refine nM (fun h=>C.K.In h) hp (fun h hk=>keeps_K m3 h hk) ?_
   refine jk.go h3 hR ah bq q fun vs aH bH cD bh bd av bN mx q=>⟨C.lC.keeps av.hr.keep,?_⟩
   refine up (X.trans bd) (HI av hR ?_ q)
   simp only [aI]
   exact (cA _ _ rfl (VR.mono (bd.cI ah.hr) _ hv) mx)
 | _=>exact False.elim q
end
section
variable {C:Cx} {ι aK ι₀:bf} {σ V:AH} {s:Shared} {A:Around} {n:Nat} {env:Env} {ρ:Loc} {h h' h₀:Heap}
theorem HK (S:St C ι σ s) {v:AV} {cv:Value} (hv:VR ι s.heap v cv) (hl:GG σ v):s.TypeIs cv "list"/\∀ a,cv=.ref a->∃ ob,s.heap.get? a=some ob/\ob.dict=none:=by
 induction v using AV.casesOn with
 | ref r =>
  (revert hl;refine aM ?_;intro l bm)
  (refine MC ?_ (S.list hv bm);rintro a vs rfl hp k dj _)
  exact ⟨(aB _ dj rfl),fun b e=>by (revert e;refine ij Value.ref.inj ?_;rintro rfl);exact (aB _ dj rfl)⟩
 | _=>exact hl.elim
theorem HL (S:St C ι σ s) {v:AV} {cv:Value} (hv:VR ι s.heap v cv) (hl:zi σ v):s.TypeIs cv "dict"/\∀ a,cv=.ref a->∃ ob,s.heap.get? a=some ob/\ob.dict=none:=by
 induction v using AV.casesOn with
 | ref r =>
  (revert hl;refine aM ?_;intro l bm)
  (refine eV ?_ (S.an hv bm);rintro a kvs rfl hp hd _)
  refine ⟨hd.typeIs,fun b e=>?_⟩
  (revert e;refine ij Value.ref.inj ?_;rintro rfl)
  (revert hd;refine lr ?_;intro o' es ep br hr)
  exact (aB _ br hr.1.2.1)
 | _=>exact hl.elim
theorem PB {a x:Ex} (ha:aN C n a) (hx:aN C n x):aN C n (.app a x):=by
 intro e env A ι σ s ρ Q hm hR S F hw
 (refine iw hm ?_;clear hm;intro z1 z2 z3 hm)
 (refine nF hm ?_;clear hm;intro z4 z5 z6 hm)
 (refine jh hm ?_;clear hm;intro z7 hm)
 (revert hm;refine aw (aw (aw (aw (aw ?_))));intro cw hb mq hp fH tq;obtain rfl:=eq_of_beq cw)
 refine wpAny_Call_method (q7 hb) (tn (by simpa using hp) (by show 1<20;decide)) (by simpa using mq) PySem.F.plainAttrs_list PySem.F.slot_list_append PySem.F.type_list_append ?_
 refine ha.go fH hR S F hw fun v ai aU cv aG X ah bq hv q=>?_
 (refine ay ?_ (HK ah hv q.1);intro t1 t2)
 refine ⟨t1,t2,nM (fun Y=>True) (by simpa using hp) (fun h Y=>nI h) (rj hp ?_)⟩
 refine hx.go tq hR ah bq q.2 fun u aH bH cu bh bd av bN hu q=>⟨trivial,?_⟩
 have gj:=VR.mono (bd.cI ah.hr) _ hv
 induction v using AV.casesOn with
 | ref r0 =>
  refine qT q ?_
  clear q
  ·intro l bm q
   exact up (X.trans bd) (Nh av gj bm hu q.1 q.2)
 | _=>exact False.elim q
set_option tactic.hygienic true in
theorem PC {a:Ex} (ha:aN C n a):aN C n (.pop a):=by
 intro e env A ι σ s ρ Q hm hR S F hw
 (refine iw hm ?_;clear hm;intro z1 z2 z3 hm)
 (refine nF hm ?_;clear hm;intro z4 z5 z6 hm)
 (revert hm;refine aw ?_;intro h0 hm)
 obtain rfl:=ir h0
 (revert hm;refine aw (aw (aw ?_));intro cw hb mq fH;obtain rfl:=eq_of_beq cw)
 refine wpAny_Call_method (q7 hb) (tn (fun e he=>(nomatch he)) (by show 0<20;decide)) (by simpa using mq) PySem.F.plainAttrs_list PySem.F.slot_list_pop PySem.F.type_list_pop ?_
 refine ha.go fH hR S F hw fun v ai aU cv aG X ah bq hv q=>?_
 induction v using AV.casesOn with
 | ref r0 =>
  refine qT q ?_
  clear q
  ·intro l bm q
   (revert q;refine oU ?_;rintro m a rfl q)
   (refine ay ?_ (HK ah hv (aQ _ bm));intro t1 t2)
   refine ⟨t1,t2,nM (fun Y=>True) (fun e he=>(nomatch he)) (fun h Y=>nI h) (wpAny_items_nil ⟨trivial,?_⟩)⟩
   exact up X (Ni ah hv bm q)
 | _=>exact False.elim q
theorem PD {a k:Ex} (ha:aN C n a) (hk:aN C n k):aN C n (.nA a k):=by
 intro e env A ι σ s ρ Q hm hR S F hw
 (refine iw hm ?_;clear hm;intro z1 z2 z3 hm)
 (refine nF hm ?_;clear hm;intro z4 z5 z6 hm)
 (refine jh hm ?_;clear hm;intro z7 hm)
 (revert hm;refine aw (aw (aw (aw (aw ?_))));intro cw hb mq hp fH tq;obtain rfl:=eq_of_beq cw)
 refine wpAny_Call_method (q7 hb) (tn (by simpa using hp) (by show 1<20;decide)) (by simpa using mq) PySem.F.plainAttrs_dict PySem.F.slot_dict_get PySem.F.type_dict_get ?_
 refine ha.go fH hR S F hw fun v ai aU cv aG X ah bq hv q=>?_
 (refine ay ?_ (HL ah hv q.1);intro t1 t2)
 refine ⟨t1,t2,nM (fun Y=>True) (by simpa using hp) (fun h Y=>nI h) (rj hp ?_)⟩
 refine hk.go tq hR ah bq q.2 fun u aH bH cu bh bd av bN hu q=>⟨trivial,?_⟩
 have gj:=VR.mono (bd.cI ah.hr) _ hv
 induction v using AV.casesOn with
 | ref r0 =>
  induction u using AV.casesOn with
  | int i0 =>
   refine vO q ?_
   clear q
   intro l0 bm q
   exact up (X.trans bd) (NG av gj hu bm C.sys q)
  | _=>exact False.elim q
 | _=>exact False.elim q
theorem PE {a k d:Ex} (ha:aN C n a) (hk:aN C n k) (hd:aN C n d):aN C n (.nB a k d):=by
 intro e env A ι σ s ρ Q hm hR S F hw
 (refine iw hm ?_;clear hm;intro z1 z2 z3 hm)
 (refine nF hm ?_;clear hm;intro z4 z5 z6 hm)
 (refine nE hm ?_;clear hm;intro z7 z8 hm)
 (revert hm;refine aw (aw (aw (aw (aw (aw (aw ?_))))));intro cw hb mq hp io fH tq PF;obtain rfl:=eq_of_beq cw)
 refine wpAny_Call_method (q7 hb) (tn (by simpa using ⟨hp,io⟩) (by show 2<20;decide)) (by simpa using mq) PySem.F.plainAttrs_dict PySem.F.slot_dict_get PySem.F.type_dict_get ?_
 refine ha.go fH hR S F hw fun v ai aU cv aG X ah bq hv q=>?_
 (refine ay ?_ (HL ah hv q.1);intro t1 t2)
 refine ⟨t1,t2,nM (fun Y=>True) (by simpa using ⟨hp,io⟩) (fun h Y=>nI h) (wa hp io ?_)⟩
 refine hk.go2 hd tq PF hR ah bq q.2 fun u z aH bH cu cz bh bd av bN hu hz q=>⟨trivial,?_⟩
 have gj:=VR.mono (bd.cI ah.hr) _ hv
 induction v using AV.casesOn with
 | ref r0 =>
  induction u using AV.casesOn with
  | int i0 =>
   refine vO q ?_
   clear q
   intro l0 bm q
   exact up (X.trans bd) (NF av gj hu bm C.sys hz q)
  | _=>exact False.elim q
 | _=>exact False.elim q
set_option tactic.hygienic true in
theorem PG {a:Ex} (ha:aN C n a):aN C n (.len a):=by
 intro e env A ι σ s ρ Q hm hR S F hw
 (refine iw hm ?_;clear hm;intro z1 z2 z3 hm)
 (refine jh hm ?_;clear hm;intro z4 hm)
 (revert hm;refine aw (aw ?_);intro hg hp fH)
 refine rh F S hg (by decide) boot_len (by decide) (fun h=>nI h) (by simpa using hp) (rj hp ?_)
 refine ha.go fH hR S F hw fun v ai aU cv aG X ah bq hv q=>?_
 refine NL q ?_
 clear q
 intro k hk q
 exact up X (Nr ah hv hk q)
theorem PH {a b:Ex} (ha:aN C n a) (hb:aN C n b):aN C n (.min a b):=by
 intro e env A ι σ s ρ Q hm hR S F hw
 (refine iw hm ?_;clear hm;intro z1 z2 z3 hm)
 (refine nE hm ?_;clear hm;intro z4 z5 hm)
 (revert hm;refine aw (aw (aw (aw ?_)));intro hg hp io fH zT)
 refine rh F S hg (by decide) boot_min (by decide) (fun h=>nI h) (by simpa using ⟨hp,io⟩) (wa hp io ?_)
 refine ha.go2 hb fH zT hR S F hw fun x y aH bH u v bh X av bN hu hv q=>?_
 revert hu hv
 refine sQ x y q ?_
 intro x y q hu hv
 exact up X (N0 av hR.bP hu hv q)
theorem PI {a b:Ex} (ha:aN C n a) (hb:aN C n b):aN C n (.max a b):=by
 intro e env A ι σ s ρ Q hm hR S F hw
 (refine iw hm ?_;clear hm;intro z1 z2 z3 hm)
 (refine nE hm ?_;clear hm;intro z4 z5 hm)
 (revert hm;refine aw (aw (aw (aw ?_)));intro hg hp io fH zT)
 refine rh F S hg (by decide) boot_max (by decide) (fun h=>nI h) (by simpa using ⟨hp,io⟩) (wa hp io ?_)
 refine ha.go2 hb fH zT hR S F hw fun x y aH bH u v bh X av bN hu hv q=>?_
 revert hu hv
 refine sQ x y q ?_
 intro x y q hu hv
 exact up X (N1 av hR.bP hu hv q)
theorem PJ {a:Ex} (ha:aN C n a):aN C n (.tuple a):=by
 intro e env A ι σ s ρ Q hm hR S F hw
 (refine iw hm ?_;clear hm;intro z1 z2 z3 hm)
 (refine jh hm ?_;clear hm;intro z4 hm)
 (revert hm;refine aw (aw ?_);intro hg hp fH)
 refine rh F S hg (by decide) boot_tuple (by decide) (fun h=>G4 h) (by simpa using hp) (rj hp ?_)
 refine ha.go fH hR S F hw fun v ai aU cv aG X ah bq hv q=>?_
 induction v using AV.casesOn with
 | ref r0 =>
  refine qT q ?_
  clear q
  ·intro l bm q
   exact up X (NZ ah hv bm q)
 | _=>exact False.elim q
theorem PK {a:Ex} (ha:aN C n a):aN C n (.nC a):=by
 intro e env A ι σ s ρ Q hm hR S F hw
 (refine iw hm ?_;clear hm;intro g z2 pos hm)
 (refine nE hm ?_;clear hm;intro y t hm)
 (revert hm;refine aw (aw (aw ?_));intro hg hp ht fH)
 (refine bO ?_ (te ht);rintro p rfl g2 g3)
 refine rh F S hg (by decide) OO (by decide) (fun h=>nI h) (by simpa using ⟨hp,rfl⟩) (wa hp rfl ?_)
 refine ha.go fH hR S F hw fun v ai aU cv aG X ah bq hv q=>?_
 refine GI bq ah g2 (C.sF _ (by decide)) boot_bool g3 (by decide) ?_
 induction v using AV.casesOn with
 | bool b=>exact up X (N2 ah hv q)
 | _=>exact False.elim q
theorem PL:jK C n []:=by
 intro es env pos A ι σ s ρ Q hm hR S F hw
 obtain rfl:=ir hm
 exact wpAny_items_nil (cF ([]) σ ι (Ext.refl _ _) S (by simp [aI]) hw)
theorem PM {a:Ex} {r:List Ex} (ha:aN C n a) (hr:jK C n r):jK C n (a::r):=by
 intro es env pos A ι σ s ρ Q hm hR S F hw
 (refine kK hm ?_;clear hm;intro z1 z2 hm)
 (revert hm;refine aw (aw ?_);intro h1 h2 h3)
 refine wpAny_items_cons ?_ (q6 h1)
 refine ha.go h2 hR S F hw fun v ai aU cv aG X ah bq hv q=>?_
 refine hr.go h3 hR ah bq q fun vs aH bH cD bh bd av bN mx q=>?_
 exact (cF (v::vs) aH bH (X.trans bd) av (by simp only [aI];exact (cA _ _ rfl (VR.mono (bd.cI ah.hr) _ hv) mx)) q)
noncomputable def ru (C:Cx) (n:Nat) (ms:List Ex):Prop:=∀ (es:List Expr) (env:Env) (pos:Pos) (A:Around) (ι:bf) (σ:AH) (s:Shared) (ρ:Loc) (Q:AV->AH->Prop),gH env.scope ms es=true->Rb A n->St C ι σ s->FR C env ρ ι s.heap->mf C n ms Q ρ σ ->
 wpAny (model C.prog C.w) A (boolOp pos .And (evalEach es env)) (bY C ι s.heap Q) FF s
noncomputable def rx (C:Cx) (n:Nat) (ms:List Ex):Prop:=∀ (es:List Expr) (env:Env) (pos:Pos) (A:Around) (ι:bf) (σ:AH) (s:Shared) (ρ:Loc) (Q:AV->AH->Prop),gH env.scope ms es=true->Rb A n->St C ι σ s->FR C env ρ ι s.heap->vT C n ms Q ρ σ ->
 wpAny (model C.prog C.w) A (boolOp pos .Or (evalEach es env)) (bY C ι s.heap Q) FF s
noncomputable def tr (C:Cx) (n:Nat) (ms:List Ex):Prop:=∀ (es:List Expr) (env:Env) (A:Around) (ι:bf) (σ:AH) (s:Shared) (ρ:Loc) (K:Bool->AH->Prop),gH env.scope ms es=true->Rb A n->St C ι σ s->FR C env ρ ι s.heap->vU C n ms K ρ σ ->
 wpAny (model C.prog C.w) A (allTrue .And es env) (lF C ι s.heap K) FF s
noncomputable def tu (C:Cx) (n:Nat) (ms:List Ex):Prop:=∀ (es:List Expr) (env:Env) (A:Around) (ι:bf) (σ:AH) (s:Shared) (ρ:Loc) (K:Bool->AH->Prop),gH env.scope ms es=true->Rb A n->St C ι σ s->FR C env ρ ι s.heap->vV C n ms K ρ σ ->
 wpAny (model C.prog C.w) A (allTrue .Or es env) (lF C ι s.heap K) FF s
theorem PN {ms:List Ex} (h:ru C n ms):aN C n (.and ms):=by
 intro e env A ι σ s ρ Q hm hR S F hw
 (refine vZ hm ?_;clear hm;intro z1 z2 z3 hm)
 (revert hm;refine aw ?_;intro ho hm)
 obtain rfl:=eq_of_beq ho
 refine U (arm_eval_BoolOp ..) ?_;exact h _ env _ A ι σ s ρ Q hm hR S F hw
theorem PO {ms:List Ex} (h:rx C n ms):aN C n (.or ms):=by
 intro e env A ι σ s ρ Q hm hR S F hw
 (refine vZ hm ?_;clear hm;intro z1 z2 z3 hm)
 (revert hm;refine aw ?_;intro ho hm)
 obtain rfl:=eq_of_beq ho
 refine U (arm_eval_BoolOp ..) ?_;exact h _ env _ A ι σ s ρ Q hm hR S F hw
theorem nP {sc:Scope} {a:Ex} {r:List Ex} {es:List Expr} (h:gH sc (a::r) es=true):∃ e gE,es=e::gE/\bZ e=true/\mE sc a e=true/\gH sc r gE=true:=by
 (refine kK h ?_;clear h;intro z1 z2 h)
 simp only [Bool.and_eq_true] at h;exact (iL _ _ rfl h.1.1 h.1.2 h.2)
theorem wc {sc:Scope} {es:List Expr} (h:gH sc [] es=true):es=[]:=by
 obtain rfl:=ir h
 rfl
theorem PP:ru C n []:=fun es env pos A ι σ s ρ Q hm hR S F hw=>hw.elim
theorem PQ:rx C n []:=fun es env pos A ι σ s ρ Q hm hR S F hw=>hw.elim
theorem PR {a:Ex} (ha:aN C n a):ru C n [a]:=by
 intro es env pos A ι σ s ρ Q hm hR S F hw
 (refine eV ?_ (nP hm);rintro e gE rfl _ h2 h3)
 obtain rfl:=wc h3
 exact ha e env A ι σ s ρ Q h2 hR S F hw
theorem PS {a:Ex} (ha:aN C n a):rx C n [a]:=by
 intro es env pos A ι σ s ρ Q hm hR S F hw
 (refine eV ?_ (nP hm);rintro e gE rfl _ h2 h3)
 obtain rfl:=wc h3
 exact ha e env A ι σ s ρ Q h2 hR S F hw
set_option backward.match.sparseCases true in
theorem HM {op:BoolOp} {x y:Sem Value} {r:List (Sem Value)} {pos:Pos} {Q:Value->Shared->Prop}
  (h:wpAny (model C.prog C.w) A x (fun v aG=>wpAny (model C.prog C.w) A (truthy v) (fun t bh=>match op,t with | .And,false | .Or,true=>Q v bh | _,_=>wpAny (model C.prog C.w) A (boolOp pos op (y::r)) Q FF bh) FF aG) FF s) :
  wpAny (model C.prog C.w) A (boolOp pos op (x::y::r)) Q FF s:=by
 show wpAny _ A (do
  let v <- x
  standAt pos
  let t <- holding [v] (truthy v)
  match op,t with
  | .And,false | .Or,true=>pure v
  | _,_=>boolOp pos op (y::r)) Q FF s
 refine wpAny_bind (wpAny_mono h (fun v aG bD=>wpAny_bind (wpAny_standAt (wpAny_bind (wpAny_holding (wpAny_mono bD (fun t bh bI=>?_) fun Y Y x=>x))))) fun Y Y x=>x)
 induction op <;> induction t <;> first | exact wpAny_pure bI | exact bI
theorem PT {a b:Ex} {r:List Ex} (ha:aN C n a) (hr:ru C n (b::r)):ru C n (a::b::r):=by
 intro es env pos A ι σ s ρ Q hm hR S F hw
 (refine eV ?_ (nP hm);rintro e gE rfl _ h2 h3)
 (refine eV ?_ (nP h3);rintro e' PU rfl _ h4 h5)
 have im:aD C n a (fun v V=>match dD v with | some true=>mf C n (b::r) Q ρ V | some false=>Q v V | Option.none=>False) ρ σ:=hw
 refine HM (ha.go h2 hR S F im fun v ai aU cv aG X ah bq hv q=>?_)
 induction ht:dD v with
 | none=>rw [ht] at q;exact q.elim
 | some t =>
  refine v6 ah hv ht ?_
  rw [ht] at q
  induction t with
  | true=>exact up X (hr _ env pos A aU ai aG ρ Q h3 hR ah bq q)
  | false=>exact (cF v ai aU X ah hv q)
theorem PV {a b:Ex} {r:List Ex} (ha:aN C n a) (hr:rx C n (b::r)):rx C n (a::b::r):=by
 intro es env pos A ι σ s ρ Q hm hR S F hw
 (refine eV ?_ (nP hm);rintro e gE rfl _ h2 h3)
 (refine eV ?_ (nP h3);rintro e' PU rfl _ h4 h5)
 have im:aD C n a (fun v V=>match dD v with | some false=>vT C n (b::r) Q ρ V | some true=>Q v V | Option.none=>False) ρ σ:=hw
 refine HM (ha.go h2 hR S F im fun v ai aU cv aG X ah bq hv q=>?_)
 induction ht:dD v with
 | none=>rw [ht] at q;exact q.elim
 | some t =>
  refine v6 ah hv ht ?_
  rw [ht] at q
  induction t with
  | false=>exact up X (hr _ env pos A aU ai aG ρ Q h3 hR ah bq q)
  | true=>exact (cF v ai aU X ah hv q)
theorem fp.go {m:Ex} {e:Expr} {K:Bool->AH->Prop} {Q':Bool->Shared->Prop} (hc:fp C n m) (hm:mE env.scope m e=true) (hR:Rb A n) (S:St C ι σ s) (F:FR C env ρ ι s.heap) (hw:cN C n m K ρ σ)
  (k:∀ b ai aU aG,Ext ι s.heap aU aG.heap->St C aU ai aG->FR C env ρ aU aG.heap->K b ai->Q' b aG):wpAny (model C.prog C.w) A (isTrue e env (eval e env)) Q' FF s :=
 wpAny_mono (hc e env A ι σ s ρ K hm hR S F hw) (fun b aG=>cW fun ai aU X ah q=>k b ai aU aG X ah (F.mono S.hr X) q) fun Y Y f=>f.elim
theorem PW:tr C n []:=by
 intro es env A ι σ s ρ K hm hR S F hw
 obtain rfl:=wc hm
 exact wpAny_allTrue_And_nil (cA σ ι (Ext.refl _ _) S hw)
theorem PX:tu C n []:=by
 intro es env A ι σ s ρ K hm hR S F hw
 obtain rfl:=wc hm
 exact wpAny_allTrue_Or_nil (cA σ ι (Ext.refl _ _) S hw)
theorem PY {a:Ex} {r:List Ex} (ha:fp C n a) (hr:tr C n r):tr C n (a::r):=by
 intro es env A ι σ s ρ K hm hR S F hw
 (refine eV ?_ (nP hm);rintro e gE rfl _ h2 h3)
 refine wpAny_allTrue_And_cons (ha.go h2 hR S F hw fun b ai aU aG X ah bq q=>?_)
 induction b with
 | true=>exact HB X (hr _ env A aU ai aG ρ K h3 hR ah bq q)
 | false=>exact (cA ai aU X ah q)
theorem PZ {a:Ex} {r:List Ex} (ha:fp C n a) (hr:tu C n r):tu C n (a::r):=by
 intro es env A ι σ s ρ K hm hR S F hw
 (refine eV ?_ (nP hm);rintro e gE rfl _ h2 h3)
 refine wpAny_allTrue_Or_cons (ha.go h2 hR S F hw fun b ai aU aG X ah bq q=>?_)
 induction b with
 | false=>exact HB X (hr _ env A aU ai aG ρ K h3 hR ah bq q)
 | true=>exact (cA ai aU X ah q)
noncomputable def my (K:Bool->AH->Prop) (v:AV) (σ:AH):Prop:=match dD v with | some b=>K b σ | Option.none=>False
theorem rz {x:Sem Value} {K:Bool->AH->Prop} (q:wpAny (model C.prog C.w) A x (bY C ι h (my K)) FF s):wpAny (model C.prog C.w) A x (fun cv s'=>wpAny (model C.prog C.w) A (truthy cv) (lF C ι h K) FF s') FF s:=by
 refine wpAny_mono q (fun cv s'=>oX fun v V aK X S' hv k=>?_) fun Y Y e=>e
 unfold my at k
 induction ht:dD v with
 | none=>rw [ht] at k;exact k.elim
 | some t=>rw [ht] at k;exact v6 S' hv ht (cA V aK X S' k)
theorem dK {m:Ex} (h:∀ K ρ σ,¬ cN C n m K ρ σ):fp C n m:=fun e env A ι σ s ρ K hm hR S F hw=>(h K ρ σ hw).elim
theorem Qa {a:Ex} (ha:fp C n a):fp C n (.not a):=by
 intro e env A ι σ s ρ K hm hR S F hw
 (refine zo hm ?_;clear hm;intro z1 z2 z3 hm)
 (revert hm;refine aw ?_;intro ho hm)
 obtain rfl:=eq_of_beq ho
 exact wpAny_isTrue_Not (ha.go hm hR S F hw fun b ai aU aG X ah bq q=>(cA ai aU X ah q))
theorem Qb {ms:List Ex} (h:tr C n ms):fp C n (.and ms):=by
 intro e env A ι σ s ρ K hm hR S F hw
 (refine vZ hm ?_;clear hm;intro z1 z2 z3 hm)
 (revert hm;refine aw ?_;intro ho hm)
 obtain rfl:=eq_of_beq ho
 exact wpAny_isTrue_BoolOp (h _ env A ι σ s ρ K hm hR S F hw)
theorem Qc {ms:List Ex} (h:tu C n ms):fp C n (.or ms):=by
 intro e env A ι σ s ρ K hm hR S F hw
 (refine vZ hm ?_;clear hm;intro z1 z2 z3 hm)
 (revert hm;refine aw ?_;intro ho hm)
 obtain rfl:=eq_of_beq ho
 exact wpAny_isTrue_BoolOp (h _ env A ι σ s ρ K hm hR S F hw)
theorem Qd {op:eJ} {l r:Ex} (hl:aN C n l) (hr:aN C n r):fp C n (.cmp op l r):=by
 intro e env A ι σ s ρ K hm hR S F hw
 (refine lE hm ?_;clear hm;intro z1 z2 z3 z4 hm)
 (revert hm;refine aw (aw (aw ?_));intro cw h1 h2 h3;obtain rfl:=eq_of_beq cw)
 refine wpAny_isTrue_Compare1 (hl.go2 hr h2 h3 hR S F hw fun a b aH bH u v bh X av bN hu hv q=>rz ?_) (kM h1)
 revert hu hv
 refine sQ a b q ?_
 intro x y q hu hv
 exact up X (vQ av hu hv q)
theorem Qe {ng:Bool} {l r:Ex} (hl:aN C n l) (hr:aN C n r):fp C n (.eq ng l r):=by
 intro e env A ι σ s ρ K hm hR S F hw
 (refine lE hm ?_;clear hm;intro z1 z2 z3 z4 hm)
 (revert hm;refine aw (aw (aw ?_));intro cw h1 h2 h3;obtain rfl:=eq_of_beq cw)
 exact wpAny_isTrue_Compare1 (hl.go2 hr h2 h3 hR S F hw fun a b aH bH u v bh X av bN hu hv q=>rz (up X (Gy (Q:=my K) av hu hv hR.line C.sys q))) (kM h1)
theorem Qf {ng:Bool} {a:Ex} (ha:aN C n a):fp C n (.cc ng a):=by
 intro e env A ι σ s ρ K hm hR S F hw
 (refine lE hm ?_;clear hm;intro z1 z2 z3 z4 hm)
 (revert hm;refine aw ?_;intro hc hm)
 (refine jI hc ?_;clear hc;intro z5 z6 z7 hc)
 obtain rfl:=zx hc
 (revert hm;refine aw ?_;intro cw h1;obtain rfl:=eq_of_beq cw)
 refine wpAny_isTrue_Compare1 (ha.go h1 hR S F hw fun v ai aU cv aG X ah bq hv q=>wpAny_Constant_none ?_) (kM rfl)
 refine HE (Q:=K) ah hv (by induction v using AV.casesOn <;> exact q) fun b hb=>?_
 exact wpAny_truthy_bool (cA ai aU X ah hb)
theorem Qg {ng:Bool} {k d:Ex} (hk:aN C n k) (hd:aN C n d):fp C n (.fV ng k d):=by
 intro e env A ι σ s ρ K hm hR S F hw
 (refine lE hm ?_;clear hm;intro z1 z2 z3 z4 hm)
 (revert hm;refine aw (aw (aw ?_));intro cw h1 h2 h3;obtain rfl:=eq_of_beq cw)
 refine wpAny_isTrue_Compare1 (hk.go2 hd h2 h3 hR S F hw fun a b aH bH u v bh X av bN hu hv q=>rz ?_) (kM h1)
 induction a using AV.casesOn with
 | int i0 =>
  induction b using AV.casesOn with
  | ref r0 =>
   refine vO q ?_
   clear q
   intro l0 bm q
   induction ng with
   | true=>exact up X (Gp (Q:=my K) av hv hu bm C.sys q)
   | false=>exact up X (Go (a:=.none) (Q:=my K) av hv hu bm C.sys q)
  | _=>exact False.elim q
 | _=>exact False.elim q
theorem Qh {ng:Bool} {a:Ex} (ha:aN C n a):fp C n (.lD ng a):=by
 intro e env A ι σ s ρ K hm hR S F hw
 (refine lE hm ?_;clear hm;intro z1 z2 z3 z4 hm)
 (refine sY hm ?_;clear hm;intro z5 z6 z7 hm)
 (refine nE hm ?_;clear hm;intro z8 z9 hm)
 (revert hm;refine aw ?_;intro hc hm)
 (revert hm;refine aw ?_;intro hd hm)
 (refine jI hc ?_;clear hc;intro y1 y2 y3 hc)
 obtain rfl:=pJ hc
 (refine jI hd ?_;clear hd;intro y4 y5 y6 hd)
 obtain rfl:=pJ hd
 (revert hm;refine aw ?_;intro cw h1;obtain rfl:=eq_of_beq cw)
 refine wpAny_isTrue_Compare1 (ha.go h1 hR S F hw fun v ai aU cv aG X ah bq hv q=>?_) (kM rfl)
 induction v using AV.casesOn with
 | int x =>
  refine HF (Q:=K) ah hv q fun b s' X' S' hb=>?_
  exact wpAny_truthy_bool (cA ai aU (X.trans X') S' hb)
 | _=>exact False.elim q
theorem Qi {x:Nm}:fp C n (.nm x):=by
 intro e env A ι σ s ρ K hm hR S F hw
 have fq:=hm
 (revert hm;refine qY fq ?_;clear fq;intro z1 z2 fq hm)
 refine wpAny_isTrue_value (rz (HD _ env A ι σ s ρ (my K) hm hR S F ?_)) rfl
 change (match ρ x with | some v=>(match dD v with | some b=>K b σ | Option.none=>False) | Option.none=>False) at hw
 change (match ρ x with | some v=>my K v σ | Option.none=>False)
 induction hv:ρ x with
 | none=>rw [hv] at hw;exact hw.elim
 | some v=>rw [hv] at hw;exact hw
theorem Qj {f:Fn} {es:List Ex} (jk:jK C n es):fp C n (.call f es):=by
 intro e env A ι σ s ρ K hm hR S F hw
 have fq:=hm
 (revert hm;refine iw fq ?_;clear fq;intro z1 z2 z3 fq hm)
 exact wpAny_isTrue_value (rz (HJ jk _ env A ι σ s ρ (my K) hm hR S F hw)) rfl
set_option tactic.hygienic true in
theorem Qk {o1 o2:eJ} {a b c:Ex} (ha:aN C n a) (hb:aN C n b) (hc:aN C n c):fp C n (.kB o1 o2 a b c):=by
 intro e env A ι σ s ρ K hm hR S F hw
 (refine GN hm ?_;clear hm;intro z1 z2 z3 z4 hm)
 (refine nE hm ?_;clear hm;intro z5 z6 hm)
 (refine nE hm ?_;clear hm;intro z7 z8 hm)
 (revert hm;refine aw (aw (aw (aw (aw (aw ?_)))));intro cw pQ h1 h2 h3 h4 h5;obtain rfl:=eq_of_beq cw;obtain rfl:=eq_of_beq pQ)
 refine isTrue_chain (ha.go h3 hR S F hw fun x ai aU u aG cf ah bq hu bD=>test_link ?_) (kM h2)
 refine hb.go h4 hR ah bq bD fun y aH bH v bh bd av bN hv bI=>?_
 have zU:=VR.mono (bd.cI ah.hr) _ hu
 revert hu zU hv
 refine sQ x y bI ?_
 clear bI
 ·intro x y bI hu hv zU
  refine wpAny_mono (vQ (op:=o1) (E:=FF) (Q:=fun v V=>v=.bool (o1.rel x y)/\V=aH) av zU hv ⟨rfl,rfl⟩) (fun cv cO eg=>?_) fun Y Y f=>f
  (revert eg;refine lu ?_;rintro zK bn dF ct aV pR rfl rfl)
  refine U (pR.bool_inv ..) ?_
  refine wpAny_truthy_bool ?_
  have fX:=bN.mono av.hr ct
  induction hb:o1.rel x y with
  | false =>
   rw [hb] at bI
   exact (cA _ dF (cf.trans (bd.trans ct)) aV bI)
  | true =>
   rw [hb] at bI
   show wpAny _ A (testChain _ _ _ _) _ _ _
   refine test_last (hc.go h5 hR aV fX bI fun z cg s9 cz jL fG bK pP hz q=>rz ?_)
   induction z using AV.casesOn with
   | int z=>exact up (cf.trans (bd.trans (ct.trans fG))) (vQ (Q:=my K) bK (VR.mono (fG.cI aV.hr) _ (VR.mono (ct.cI av.hr) _ hv)) hz q)
   | _=>exact False.elim q
theorem Ql:nL C n Option.none:=by
 intro ifs env A ι σ s ρ K hm hR S F hw
 obtain rfl:=ir hm
 exact wpAny_pure (cA σ ι (Ext.refl _ _) S hw)
theorem Qm {m:Ex} (h:fp C n m):nL C n (some m):=by
 intro ifs env A ι σ s ρ K hm hR S F hw
 (refine jh hm ?_;clear hm;intro z1 hm)
 refine U (List.forIn_cons ..) ?_
 simp only [if_true]
 refine wpAny_bind (wpAny_bind (h.go hm hR S F hw fun b ai aU aG X ah bq q=>wpAny_pure ?_))
 exact wpAny_pure (cA ai aU X ah q)
end
mutual
theorem bt (C:Cx) (n:Nat):∀ m:Ex,aN C n m
 | .none=>OZ
 | .bool _=>O0
 | .int _=>O4
 | .neg _=>OY
 | .nm _=>HD
 | .gi _ _=>O5
 | .ba a _=>O6 (bt C n a)
 | .sub a i=>O7 (bt C n a) (bt C n i)
 | .ss a _=>O8 (bt C n a)
 | .slt a i=>O9 (bt C n a) (bt C n i)
 | .nz a i=>Pa (bt C n a) (bt C n i)
 | .bin _ l r=>Pb (bt C n l) (bt C n r)
 | .cmp _ l r=>Pc (bt C n l) (bt C n r)
 | .kB ..=>fun e env A ι σ s ρ Q hm hR S F hw=>hw.elim
 | .eq _ l r=>Pd (bt C n l) (bt C n r)
 | .cc _ a=>Pg (bt C n a)
 | .fV _ k d=>Ph (bt C n k) (bt C n d)
 | .lD _ a=>Pj (bt C n a)
 | .and es=>PN (HO C n es)
 | .or es=>PO (HP C n es)
 | .not a=>Pk (bt C n a)
 | .ite c a b=>Pl (pS C n c) (bt C n a) (bt C n b)
 | .tup es=>Pm (pT C n es)
 | .list es=>Pn (pT C n es)
 | .gh=>Po
 | .pB _ a=>Pp (bt C n a)
 | .bl es=>Ps (HQ C n es)
 | .comp elt x frees bJ it cond=>fun e env A ι σ s ρ Q hm hR S F hw=>OW (bt C n it) (bt C n elt) (HT C n cond) hm hR S F hw
 | .call _ es=>HJ (pT C n es)
 | .new _ es=>Pu (pT C n es)
 | .jA a _ _ es=>Pw (bt C n a) (pT C n es)
 | .app a x=>PB (bt C n a) (bt C n x)
 | .pop a=>PC (bt C n a)
 | .nA a k=>PD (bt C n a) (bt C n k)
 | .nB a k d=>PE (bt C n a) (bt C n k) (bt C n d)
 | .len a=>PG (bt C n a)
 | .min a b=>PH (bt C n a) (bt C n b)
 | .max a b=>PI (bt C n a) (bt C n b)
 | .tuple a=>PJ (bt C n a)
 | .nC a=>PK (bt C n a)
theorem pS (C:Cx) (n:Nat):∀ m:Ex,fp C n m
 | .nm _=>Qi
 | .cmp _ l r=>Qd (bt C n l) (bt C n r)
 | .kB _ _ a b c=>Qk (bt C n a) (bt C n b) (bt C n c)
 | .eq _ l r=>Qe (bt C n l) (bt C n r)
 | .cc _ a=>Qf (bt C n a)
 | .fV _ k d=>Qg (bt C n k) (bt C n d)
 | .lD _ a=>Qh (bt C n a)
 | .and es=>Qb (HU C n es)
 | .or es=>Qc (HV C n es)
 | .not a=>Qa (pS C n a)
 | .call _ es=>Qj (pT C n es)
 | .none=>dK fun K ρ σ h=>h
 | .bool _=>dK fun K ρ σ h=>h
 | .int _=>dK fun K ρ σ h=>h
 | .neg _=>dK fun K ρ σ h=>h
 | .gi _ _=>dK fun K ρ σ h=>h
 | .ba _ _=>dK fun K ρ σ h=>h
 | .sub _ _=>dK fun K ρ σ h=>h
 | .ss _ _=>dK fun K ρ σ h=>h
 | .slt _ _=>dK fun K ρ σ h=>h
 | .nz _ _=>dK fun K ρ σ h=>h
 | .bin _ _ _=>dK fun K ρ σ h=>h
 | .ite _ _ _=>dK fun K ρ σ h=>h
 | .tup _=>dK fun K ρ σ h=>h
 | .list _=>dK fun K ρ σ h=>h
 | .gh=>dK fun K ρ σ h=>h
 | .pB _ _=>dK fun K ρ σ h=>h
 | .bl _=>dK fun K ρ σ h=>h
 | .comp _ _ _ _ _ _=>dK fun K ρ σ h=>h
 | .new _ _=>dK fun K ρ σ h=>h
 | .jA _ _ _ _=>dK fun K ρ σ h=>h
 | .app _ _=>dK fun K ρ σ h=>h
 | .pop _=>dK fun K ρ σ h=>h
 | .nA _ _=>dK fun K ρ σ h=>h
 | .nB _ _ _=>dK fun K ρ σ h=>h
 | .len _=>dK fun K ρ σ h=>h
 | .min _ _=>dK fun K ρ σ h=>h
 | .max _ _=>dK fun K ρ σ h=>h
 | .tuple _=>dK fun K ρ σ h=>h
 | .nC _=>dK fun K ρ σ h=>h
theorem pT (C:Cx) (n:Nat):∀ ms:List Ex,jK C n ms
 | []=>PL
 | a::r=>PM (bt C n a) (pT C n r)
theorem HQ (C:Cx) (n:Nat):∀ ms:List (Nm × Ex),tj C n ms
 | []=>Pq
 | (f,a)::r=>Pr (bt C n a) (HQ C n r)
theorem HT (C:Cx) (n:Nat):∀ o:Option Ex,nL C n o
 | Option.none=>Ql
 | some m=>Qm (pS C n m)
theorem HO (C:Cx) (n:Nat):∀ ms:List Ex,ru C n ms
 | []=>PP
 | [a]=>PR (bt C n a)
 | a::b::r=>PT (bt C n a) (HO C n (b::r))
theorem HP (C:Cx) (n:Nat):∀ ms:List Ex,rx C n ms
 | []=>PQ
 | [a]=>PS (bt C n a)
 | a::b::r=>PV (bt C n a) (HP C n (b::r))
theorem HU (C:Cx) (n:Nat):∀ ms:List Ex,tr C n ms
 | []=>PW
 | a::r=>PY (pS C n a) (HU C n r)
theorem HV (C:Cx) (n:Nat):∀ ms:List Ex,tu C n ms
 | []=>PX
 | a::r=>PZ (pS C n a) (HV C n r)
end
noncomputable def dL (C:Cx) (env:Env) (ι:bf) (h:Heap) (N:Loc->AH->Prop) (R:AV->AH->Prop) (f:Flow) (s':Shared):Prop :=
 ∃ aK V,XT (gF env) ι h aK s'.heap/\St C aK V s'/\(match f with
  | .next=>∃ ae,FR C env ae aK s'.heap/\N ae V
  | .ret cv=>∃ v,VR aK s'.heap v cv/\R v V
  | _=>False)
section
variable {C:Cx} {ι aK ι₀:bf} {σ V:AH} {s:Shared} {A:Around} {n:Nat} {env:Env} {ρ ae:Loc} {h h' h₀:Heap} {N:Loc->AH->Prop} {R:AV->AH->Prop}
theorem dL.trans {f:Flow} {s':Shared} (x:XT (gF env) ι₀ h₀ ι h) (p:dL C env ι h N R f s'):dL C env ι₀ h₀ N R f s' :=
 let ⟨aK,V,e,r⟩:=p;(jb aK V (x.trans e) r)
theorem wd {x:Sem Flow} {E:Value->Shared->Prop} (X:XT (gF env) ι₀ h₀ ι h) (q:wpAny (model C.prog C.w) A x (dL C env ι h N R) E s):wpAny (model C.prog C.w) A x (dL C env ι₀ h₀ N R) E s :=
 wpAny_mono q (fun a s' p=>p.trans X) fun Y Y e=>e
theorem dL.next {s':Shared} (X:XT (gF env) ι h aK s'.heap) (S:St C aK V s') (F:FR C env ae aK s'.heap) (q:N ae V):dL C env ι h N R .next s':=(yo aK V X S ae F q)
theorem FR.alive (F:FR C env ρ ι h) {b:Addr} (hb:gF env b):∃ o,h.get? b=some o/\∀ vs,¬ h.IsTuple b vs:=by
 rcases hb with rfl | ⟨m,hm⟩
 ·(refine au ?_ (F.ns);intro m hn _)
  (refine lr ?_ (id hn);intro o es ep ho _)
  exact (aB o ho (fun vs=>Ns.same hn))
 ·(refine My ?_ (F.cells m b hm);intro v hv _)
  (refine au ?_ (id hv);intro o ho hd)
  exact (aB o ho (fun vs=>IsCell.noTuple hv))
theorem XT.cI (X:XT (gF env) ι h aK h') (r:HR C ι σ h) (F:FR C env ρ ι h):cH ι h aK h' :=
 ⟨X.pre,fun a vs ht=>by
  have hn:=r.noOwn ht
  have hp:¬ gF env a:=fun q=>let ⟨o,_,eh⟩:=F.alive q;eh vs ht
  (revert ht;refine au ?_;intro o ho q)
  exact (aB o (X.keep a o hn hp ho) q)⟩
theorem Qn {it:Addr} (he:Heap.ExtBut it h h') (hd:h.get? it=none):∀ b o,h.get? b=some o->h'.get? b=some o :=
 fun b o e=>he b o (by rintro rfl;rw [hd] at e;exact aZ e) e
theorem rA {sc:Scope} {x:Nm} {t:Expr} (h:mi sc x t=true):∃ p,t=.Name x.str p/\vX sc x=true:=by
 (refine qY h ?_;clear h;intro z1 z2 h)
 simp only [Bool.and_eq_true,beq_iff_eq] at h;(revert h;refine ay ?_;rintro rfl h2);exact (aB _ rfl h2)
noncomputable def tv (C:Cx) (env:Env) (ι:bf) (h:Heap) (σ:AH) (K:Loc->Prop) (_:Unit) (s':Shared):Prop :=
 ∃ ae,XT (gF env) ι h ι s'.heap/\St C ι σ s'/\FR C env ae ι s'.heap/\K ae
theorem HW {x:Nm} {t:Expr} {v:AV} {cv:Value} {K:Loc->Prop} (hm:mi env.scope x t=true) (S:St C ι σ s) (F:FR C env ρ ι s.heap) (hv:VR ι s.heap v cv) (q:K (co ρ x v)) :
  wpAny (model C.prog C.w) A (assign t env cv) (tv C env ι s.heap σ K) FF s:=by
 (refine au ?_ (rA hm);rintro p rfl hs)
 exact wpAny_assign_Name (pG F S hs hv fun h' t X S' F'=>(l4 _ X S' F' q))
theorem HX {t:Expr} {r:List Expr} {x:Nm} (h:mi env.scope x t=true):assignEach (t::r) env=(false,assign t env)::assignEach r env:=by
 (refine au ?_ (rA h);rintro p rfl _);rfl
theorem HY {sc:Scope}:∀ {xs:List Nm} {ts:List Expr},q5 sc xs ts=true->ts.length=xs.length
 | [],ts,h=>by induction ts using List.casesOn with | nil=>rfl | cons _ _=>exact du h
 | x::xs,ts,h=>by
  induction ts using List.casesOn with
  | nil=>exact du h
  | cons t ts =>
   replace h:=g9 h
   simp [HY h.2]
theorem HZ:∀ {xs:List Nm} {ts:List Expr},q5 env.scope xs ts=true->(assignEach ts env).length=ts.length/\(assignEach ts env).findIdx? (·.1)=none
 | [],ts,h=>by induction ts using List.casesOn with | nil=>exact ⟨rfl,rfl⟩ | cons _ _=>exact du h
 | x::xs,ts,h=>by
  induction ts using List.casesOn with
  | nil=>exact du h
  | cons t ts =>
   replace h:=g9 h
   (refine ay ?_ (HZ h.2);intro i1 i2)
   refine U (HX h.1 ..) ?_
   refine ⟨by simp [i1],?_⟩
   refine U List.findIdx?_cons ?_
   simp [i2]
theorem H0:∀ {xs:List Nm} {ts:List Expr} {vs:List AV} {cD:List Value} {ρ ae:Loc} {s:Shared} {K:Loc->Prop},q5 env.scope xs ts=true->St C ι σ s->FR C env ρ ι s.heap->aI ι s.heap vs cD->iq ρ xs vs=some ae->K ae ->
  wpAny (model C.prog C.w) A (assignInOrder ((assignEach ts env).map (·.2)) cD) (tv C env ι s.heap σ K) FF s
 | [],ts,vs,cD,ρ,ae,s,K,hm,S,F,hv,hs,q=>by
  induction ts using List.casesOn with
  | cons _ _=>exact du hm
  | nil =>
   induction vs using List.casesOn with
   | cons _ _=>exact aZ hs
   | nil =>
    simp only [aI] at hv
    subst hv
    (revert hs;refine si ?_;rintro rfl)
    exact wpAny_assignInOrder_none (l4 ρ XT.refl S F q)
 | x::xs,ts,vs,cD,ρ,ae,s,K,hm,S,F,hv,hs,q=>by
  induction ts using List.casesOn with
  | nil=>exact du hm
  | cons t ts =>
   induction vs using List.casesOn with
   | nil=>exact aZ hs
   | cons v vs =>
    simp only [aI] at hv
    (revert hv;refine cW ?_;rintro cv zV rfl tw zW)
    replace hm:=g9 hm
    refine U (HX hm.1 ..) ?_
    refine wpAny_assignInOrder_more (wpAny_mono (HW (K:=fun r=>r=co ρ x v) hm.1 S F tw rfl) (fun Y aG bD=>?_) fun Y Y f=>f.elim)
    (revert bD;refine kj ?_;rintro jl cf ah bq rfl)
    refine wpAny_mono (H0 hm.2 ah bq (aI.mono (cf.cI S.hr F) _ zW) hs q) (fun Y bh bI=>?_) fun Y Y f=>f.elim
    (revert bI;refine kj ?_;intro dE bd av bN iT)
    exact (l4 dE (cf.trans bd) av bN iT)
theorem Qo (elts k pos v):assign (.Tuple elts k pos) env v=(do standAt pos;unpack v (assignEach elts env)):=by first | rfl | (unfold assign;rfl) | simp only [assign]
noncomputable def zX (xs:List Nm) (v:AV) (ρ:Loc) (σ:AH) (K:Loc->Prop):Prop:=match v with
  | .tup l=>(match iq ρ xs l with | some ae=>K ae | Option.none=>False)
  | .ref r=>(match σ[r]? with
   | some (.list l)=>(match iq ρ xs l with | some ae=>K ae | Option.none=>False)
   | _=>False)
  | _=>False
theorem H1 {x y:Nm} {xs:List Nm} {v:AV} {K:Loc->Prop} (h:eN (x::y::xs) v ρ σ K):zX (x::y::xs) v ρ σ K:=h
theorem zY:∀ {xs:List Nm} {vs:List AV} {ρ ae:Loc},iq ρ xs vs=some ae->vs.length=xs.length
 | [],[],_,_,_=>rfl
 | x::xs,v::vs,_,_,h=>by simp [zY (xs:=xs) (vs:=vs) h]
 | [],_::_,_,_,h=>by exact aZ h
 | _::_,[],_,_,h=>by exact aZ h
theorem H3 {xs:List Nm} {t:Expr} {v:AV} {cv:Value} {K:Loc->Prop} (hh:A.handled=none) (hm:mT env.scope xs t=true) (S:St C ι σ s) (F:FR C env ρ ι s.heap) (hv:VR ι s.heap v cv) (q:eN xs v ρ σ K) :
  wpAny (model C.prog C.w) A (assign t env cv) (tv C env ι s.heap σ K) FF s:=by
 have many:∀ {x y:Nm} {r:List Nm},xs=x::y::r->wpAny (model C.prog C.w) A (assign t env cv) (tv C env ι s.heap σ K) FF s:=by
  rintro x y r rfl
  (refine sY (show sX t (fun ts=>q5 env.scope (x::y::r) ts)=true from hm) ?_;clear hm;intro ts k p zZ)
  have q:=H1 q
  unfold zX at q
  (refine ay ?_ (HZ zZ);intro e1 e2)
  have e3:=HY zZ
  (refine bS ?_ (lG S);intro f1 f2 f3)
  have fin:∀ {l:List AV} {cD:List Value} {ae},aI ι s.heap l cD->iq ρ (x::y::r) l=some ae->K ae->∀ h',Heap.ExtBut s.heap.objs.size s.heap h' ->
    wpAny (model C.prog C.w) A (assignInOrder ((assignEach ts env).map (·.2)) cD) (tv C env ι s.heap σ K) FF { s with heap:=h' }:=by
   intro l cD ae hr hs hK h' he
   have hk:=Qn he f1
   refine wpAny_mono (H0 zZ (s:={ s with heap:=h' }) ⟨S.hr.keeps hk,S.gens,S.os⟩ (F.keeps hk) (aI.mono (cH.keeps hk) _ hr) hs hK) (fun Y bh bI=>?_) fun Y Y f=>f.elim
   (revert bI;refine kj ?_;intro dE bd av bN iT)
   exact (l4 dE ((Ext.keeps hk).xt.trans bd) av bN iT)
  induction v using AV.casesOn with
  | tup l =>
   (refine eV ?_ (hv.jE);rintro a vs rfl ht hl hr)
   dsimp only at q
   induction hs:iq ρ (x::y::r) l with
   | none=>rw [hs] at q;exact q.elim
   | some ae =>
    rw [hs] at q
    have bC:=hr.length
    rw [Array.length_toList] at bC
    exact wpAny_assign_Tuple hh ht (by exact U e1 (U e3 (U bC (U (zY hs ..) rfl)))) e2 fun h' he=>fin hr hs q h' he
  | ref i =>
   dsimp only at q
   refine qT q ?_
   clear q
   ·intro l bm q
    (refine lq ?_ (S.list hv bm);rintro a vs rfl hp dj hl hr)
    induction hs:iq ρ (x::y::r) l with
    | none=>rw [hs] at q;exact q.elim
    | some ae =>
     rw [hs] at q
     have bC:=hr.length
     rw [Array.length_toList] at bC
     refine U (Qo ..) ?_
     refine wpAny_bind (wpAny_standAt ?_)
     unfold unpack
     refine U (show (assignEach ts env).length=vs.size by rw [e1,e3,bC,zY hs]) (U e2 ?_)
     exact wpAny_bind (wpAny_holding (kun_itemsOf hh dj.isList fun h' he=>fin hr hs q h' he))
  | _=>exact q.elim
 induction xs using List.casesOn with
 | nil =>
  exact absurd hm Bool.false_ne_true
 | cons x r =>
  induction r using List.casesOn with
  | nil =>
   have ty:mi env.scope x t=true:=hm
   exact HW ty S F hv q
  | cons y r=>exact many rfl
noncomputable def hB (C:Cx) (n:Nat) (m:Sm):Prop:=∀ (st:Stmt) (env:Env) (A:Around) (ι:bf) (σ:AH) (s:Shared) (ρ:Loc) (N:Loc->AH->Prop) (R:AV->AH->Prop),mS env.scope m st=true->Rb A n->St C ι σ s->FR C env ρ ι s.heap->wpS C n m N R ρ σ ->
 wpAny (model C.prog C.w) A (exec st env) (dL C env ι s.heap N R) FF s
noncomputable def nQ (C:Cx) (n:Nat) (ms:List Sm):Prop:=∀ (fI:List Stmt) (env:Env) (A:Around) (ι:bf) (σ:AH) (s:Shared) (ρ:Loc) (N:Loc->AH->Prop) (R:AV->AH->Prop),mB env.scope ms fI=true->Rb A n->St C ι σ s->FR C env ρ ι s.heap->ax C n ms N R ρ σ ->
 wpAny (model C.prog C.w) A (execs fI env) (dL C env ι s.heap N R) FF s
theorem Qp:nQ C n []:=by
 intro fI env A ι σ s ρ N R hm hR S F hw
 obtain rfl:=ir hm
 exact wpAny_execs_nil (dL.next XT.refl S F hw)
theorem Qq {m:Sm} {r:List Sm} (hs:hB C n m) (hr:nQ C n r):nQ C n (m::r):=by
 intro fI env A ι σ s ρ N R hm hR S F hw
 (refine kK hm ?_;clear hm;intro z1 z2 hm)
 rw [Bool.and_eq_true] at hm
 refine wpAny_execs_cons (wpAny_mono (hs _ env A ι σ s ρ _ R hm.1 hR S F hw) (fun f aG bD=>?_) fun Y Y f=>f.elim)
 (revert bD;refine cW ?_;intro aU ai X ah q)
 induction f with
 | next =>
  (revert q;refine au ?_;intro jl bq q)
  exact wd X (hr _ env A aU ai aG jl N R hm.2 hR ah bq q)
 | ret cv=>exact (cA aU ai X ah q)
 | _=>exact q.elim
theorem wf {v t:Expr} {l:Nat} (ht:∀ x p,t≠.Name x p):swapsWith v (some t) l env=pure false:=by
 induction v using Expr.casesOn <;> first | rfl | (induction t using Expr.casesOn <;> first | rfl | exact absurd rfl (ht _ _))
theorem Qr {e:Ex} {v:Expr} (h:mE env.scope e v=true):(∃ el gens sub pos,v=.ListComp el gens sub pos)∨∀ t l,swapsWith v t l env=pure false:=by
 induction v using Expr.casesOn with
 | ListComp el gens sub pos=>exact .inl (MO el gens sub pos rfl)
 | SetComp=>induction e using Ex.casesOn <;> exact absurd h Bool.false_ne_true
 | DictComp=>induction e using Ex.casesOn <;> exact absurd h Bool.false_ne_true
 | _=>exact .inr fun t l=>rfl
theorem XT.H4 {P:Addr->Prop} {bD:Heap} {it:Addr} (x:XT P ι h aK bD) (k:h.get? it=none) (e:Heap.ExtBut it bD h'):XT P ι h aK h' where
 pre:=x.pre
 keep:=fun b o hb hp e'=>e b o (by rintro rfl;rw [k] at e';exact aZ e') (x.keep b o hb hp e')
 alive:=fun b o e'=>let ⟨o',br⟩:=x.alive b o e';(aQ o' (e b o' (by rintro rfl;rw [k] at e';exact aZ e') br))
 new:=x.new
theorem XT.drop {P:Addr->Prop} {it:Addr} (x:XT (fun b=>b=it∨P b) ι h aK h') (k:h.get? it=none):XT P ι h aK h' where
 pre:=x.pre
 keep:=fun b o hb hp e'=>x.keep b o hb (fun q=>q.elim (by rintro rfl;rw [k] at e';exact aZ e') hp) e'
 alive:=x.alive
 new:=x.new
theorem Qs {x:Nm} {e:Ex} (he:aN C n e) (hc:∀ el y frees bJ it cond,e=.comp el y frees bJ it cond->aN C n it/\aN C n el/\nL C n cond):hB C n (.as x e):=by
 intro st env A ι σ s ρ N R hm hR S F hw
 (refine q4 hm ?_;clear hm;intro t v pos hm)
 (revert hm;refine aw (aw ?_);intro h1 h2 h3)
 (refine au ?_ (rA h1);rintro p rfl hs)
 replace hw:aD C n e (fun v V=>N (co ρ x v) V) ρ σ:=hw
 have plain:swapsWith v (some (.Name x.str p)) pos.line env=pure false->wpAny (model C.prog C.w) A (exec (.Assign [.Name x.str p] v pos) env) (dL C env ι s.heap N R) FF s:=fun pU=>by
  refine wpAny_Assign_Name (he.go h3 hR S F hw fun v ai aU cv aG X ah bq hv q=>?_) pU
  exact pG bq ah hs hv fun h' t bd av bN=>dL.next (X.xt.trans bd) av bN q
 rcases Qr h3 with ⟨el,gens,sub,H5,rfl⟩ | pU
 ·obtain ⟨b,hb⟩:∃ b,swapsWith (.ListComp el gens sub H5) (some (.Name x.str p)) pos.line env=pure b:=(aQ _ rfl)
  induction b with
  | false=>exact plain hb
  | true =>
   induction e using Ex.casesOn with
   | comp elt y frees bJ it cond =>
    (refine bS ?_ (hc _ _ _ _ _ _ rfl);intro c1 c2 c3)
    (refine Fd ?_ (Hy (sub:=env.scope) h3);intro Yr tp iter ifs Ys Yt heq k1 k2 k3 k4)
    (revert heq;refine ij Expr.ListComp.inj (jw ?_);rintro rfl rfl rfl rfl)
    refine U (exec_Assign_Name_used _ _ _ _ hb ..) ?_
    refine wpAny_bind (wpAny_standAt (wpAny_bind ?_))
    show wpAny _ A (do let _ <- comprehension (.ListComp el [⟨.Name y.str tp,iter,ifs,0⟩] sub H5) sub env _ (newList []) false (eval iter env) (some (assign (.Name x.str p) env))) _ _ s
    refine wpAny_bind (wpAny_mono (HA (use:=some (assign (.Name x.str p) env)) (Q':=fun Y s'=>dL C env ι s.heap N R .next s') c1 c2 c3 k1 k2 k3 k4 hR S F hw fun D L s' ce=>?_) (fun Y s' hq=>wpAny_pure (wpAny_pure hq)) fun Y Y e=>e)
    (refine lu ?_ (ce.take (h'':=s'.heap) (Heap.SameBut.refl ..));intro acc V aK X S' q v H6)
    have Qt:=ce.ex
    (revert Qt;refine Fb ?_;intro aU ai Yu ys m _ _ iA _)
    have F':=F.mono S.hr X
    have H7:¬ gF env L:=fun hp=>by
     (refine au ?_ (F.alive hp);intro o ho _)
     rw [ce.l0] at ho;exact aZ ho
    refine wpAny_assign_Name (pG F' (S' s'.toks) hs v fun bI t bd av bN=>?_)
    have z0:bI.Ns L m:=by
     (revert iA;refine lr ?_;intro o es ep ho r)
     exact (l5 o es ep (bd.keep L o H6 H7 ho) r)
    refine (aB m z0 (fun eg nS=>?_))
    have hk:∀ b o,b≠L->bI.get? b=some o->eg.get? b=some o:=fun b o hb e=>(nS.2 b hb).trans e
    have Lb:C.base.get? L=none:=by
     (refine ym ?_ (ce.ex);intro _ _ _ _ _ _ _ _ _ lb _)
     exact lb
    have aV:St C (aK++[(D,D)]) (V++[.list acc]) { s' with heap:=eg,toks:=t }:=⟨av.hr.jC (fun b=>b=L) (fun b e=>by subst e;exact ⟨H6,Lb,fun vs=>Ns.same z0⟩) hk,av.gens,av.os⟩
    have fX:=bN.jC H7 (fun vs=>Ns.same z0) hk
    exact dL.next ((X.xt.trans bd).H4 ce.l0 fun b o hb e=>hk b o hb e) aV fX q
   | _=>exact absurd h3 Bool.false_ne_true
 ·exact plain (pU _ _)
end
section
variable {C:Cx} {ι aK ι₀:bf} {σ V:AH} {s:Shared} {A:Around} {n:Nat} {env:Env} {ρ ae:Loc} {h h' h₀:Heap} {N:Loc->AH->Prop} {R:AV->AH->Prop}
theorem rB {x:Sem Unit} {Q:AH->Prop} (X:Ext ι₀ h₀ ι s.heap) (S:St C ι σ s) (F:FR C env ρ ι s.heap) (q:wpAny (model C.prog C.w) A x (fun Y s'=>nr C ι s.heap Q s') FF s) (k:∀ V,Q V->N ρ V) :
  wpAny (model C.prog C.w) A x (fun Y s'=>dL C env ι₀ h₀ N R .next s') FF s :=
 wpAny_mono q (fun Y s'=>cW fun V aK X' S' q=>dL.next (X.trans X').xt S' (F.mono S.hr X') (k V q)) fun Y Y e=>e
theorem Qu {o:Ex} {f:Nm} {e:Ex} (ho:aN C n o) (he:aN C n e):hB C n (.aa o f e):=by
 intro st env A ι σ s ρ N R hm hR S F hw
 (refine q4 hm ?_;clear hm;intro z1 z2 z3 hm)
 (refine nF hm ?_;clear hm;intro z4 z5 z6 hm)
 (revert hm;refine aw (aw (aw (aw ?_)));intro cw h1 h2 h3 h4;obtain rfl:=eq_of_beq cw)
 refine plainObj_wpAny_Assign_Attribute (he.go2 ho h4 h2 hR S F hw fun v u aH bH cv cu bh X av bN hv hu q=>?_) (wf (by intro x p h;exact (noConfusion_of_Nat Expr.ctorIdx h).elim))
 induction u using AV.casesOn with
 | ref r0 =>
  refine y8 q ?_
  clear q
  ·intro c l bm q
   exact rB X av bN (Gl (Q:=N ρ) av hu bm hv q.1 q.2) fun V q=>q
 | _=>exact False.elim q
theorem Qv {o i e:Ex} (ho:aN C n o) (hi:aN C n i) (he:aN C n e):hB C n (.dU o i e):=by
 intro st env A ι σ s ρ N R hm hR S F hw
 (refine q4 hm ?_;clear hm;intro z1 z2 z3 hm)
 (refine nH hm ?_;clear hm;intro z4 z5 z6 hm)
 (revert hm;refine aw (aw (aw (aw (aw ?_))));intro h0 h1 h2 h3 h4 h5)
 refine wpAny_Assign_Subscript (he.go2 ho h5 h2 hR S F hw fun v u aH bH cv cu bh X av bN hv hu q=>?_) (wf (by intro x p h;exact (noConfusion_of_Nat Expr.ctorIdx h).elim))
 refine hi.go h3 hR av bN q fun k bn dF ck cO ct aV fX hk q=>?_
 have gj:=VR.mono (ct.cI av.hr) _ hv
 have qU:=VR.mono (ct.cI av.hr) _ hu
 induction u using AV.casesOn with
 | ref r0 =>
  induction k using AV.casesOn with
  | int i0 =>
   refine NJ q ?_ ?_
   ·intro l bm q
    exact rB (X.trans ct) aV fX (NE (Q:=N ρ) aV qU hk gj bm q.1 q.2.1 q.2.2) fun V q=>q
   ·intro l bm q
    exact rB (X.trans ct) aV fX (ND (Q:=N ρ) aV qU hk gj bm q.1 q.2) fun V q=>q
  | _=>exact False.elim q
 | _=>exact False.elim q
theorem Qw {o:Ex} {f:Nm} {e:Ex} (ho:aN C n o) (he:aN C n e):hB C n (.jG o f e):=by
 intro st env A ι σ s ρ N R hm hR S F hw
 (refine q4 hm ?_;clear hm;intro z1 z2 z3 hm)
 (refine nH hm ?_;clear hm;intro z4 z5 z6 hm)
 (revert hm;refine aw (aw (aw (aw ?_)));intro h1 h2 h3 h4 h5)
 (refine gA ?_ (wb h1);rintro kk kp rfl)
 refine wpAny_Assign_Subscript (he.go2 ho h5 h3 hR S F hw fun v u aH bH cv cu bh X av bN hv hu q=>wpAny_Constant_str ?_) (wf (by intro x p h;exact (noConfusion_of_Nat Expr.ctorIdx h).elim))
 induction u using AV.casesOn with
 | ref r0 =>
  refine Gs q ?_
  clear q
  intro l0 bm q
  exact rB (s:={ bh with toks:=bh.toks+1 }) X (av.tok _) bN (Gn (Q:=N ρ) (av.tok (bh.toks+1)) hu hv bm q.1 q.2) fun V q=>q
 | _=>exact False.elim q
theorem Qx {xs:List Nm} {e:Ex} (he:aN C n e):hB C n (.at2 xs e):=by
 intro st env A ι σ s ρ N R hm hR S F hw
 (refine q4 hm ?_;clear hm;intro t v pos hm)
 simp only [Bool.and_eq_true,Bool.not_eq_true'] at hm
 (revert hm;refine Mx ?_;intro h1 h2 h3 h4 h5)
 induction t using Expr.casesOn with
 | Tuple elts k p =>
  have pU:swapsWithSole [.Tuple elts k p] v pos.line env=pure false:=by
   show swapsWith v (some (.Tuple elts k p)) pos.line env=pure false
   exact wf (by intro x p h;exact (noConfusion_of_Nat Expr.ctorIdx h).elim)
  have nT:swappedStores [.Tuple elts k p] v env=pure Option.none:=by
   induction v using Expr.casesOn <;> first | rfl | (exact Fe h3)
  refine Assign_Tuple (he.go h5 hR S F hw fun v ai aU cv aG X ah bq hv q=>?_) pU nT
  refine wpAny_mono (H3 hR.bP h1 ah bq hv q) (fun Y bh bI=>?_) fun Y Y f=>f
  (revert bI;refine kj ?_;intro dE bd av bN iT)
  exact dL.next (X.xt.trans bd) av bN iT
 | _=>exact du h2
set_option tactic.hygienic true in
theorem Qy {x:Nm} {op:fE} {e:Ex} (he:aN C n e):hB C n (.ag x op e):=by
 intro st env A ι σ s ρ N R hm hR S F hw
 (refine zu hm ?_;clear hm;intro z1 z2 z3 z4 hm)
 (revert hm;refine aw (aw (aw ?_));intro h1 pQ h2 h3;obtain rfl:=eq_of_beq pQ)
 (refine au ?_ (rA h1);rintro p rfl hs)
 conv at hw=>whnf
 refine qS hw ?_
 clear hw
 ·intro v hv hw
  refine wpAny_AugAssign_Name (wpAny_mono (N7 (E:=FF) (Q:=fun v' V=>v'=v/\V=σ) F S hv h2 ⟨rfl,rfl⟩) (fun cv aG bD=>?_) fun Y Y f=>f)
  (revert bD;refine lu ?_;rintro v' ai aU cf ah pN rfl rfl)
  have bq:=F.mono S.hr cf
  refine he.go h3 hR ah bq hw fun u aH bH cu bh bd av bN hu q=>?_
  have kO:=VR.mono (bd.cI ah.hr) _ pN
  have X:=(cf.trans bd)
  induction op with
  | add =>
   induction v' using AV.casesOn with
   | int i =>
    induction u using AV.casesOn with
    | int j =>
     (refine aM ?_ (kO.int_inv);rintro t rfl)
     (refine aM ?_ (hu.int_inv);rintro t' rfl)
     refine iadd_int ?_
     exact pG (s:={ bh with toks:=bh.toks+1 }) bN (av.tok _) hs (v:=.int _) (by simp only [VR];exact (aQ _ rfl)) fun h' t ct aV fX=>dL.next (X.xt.trans ct) aV fX q
    | _=>exact False.elim q
   | ref i =>
    induction u using AV.casesOn with
    | ref j =>
     refine Gq q ?_
     clear q
     ·intro l m hi hj q
      refine wpAny_mono (N3 (E:=FF) (Q:=fun v' V=>v'=.ref i/\V=aH.set i (.list (l++m))) av kO hu hi hj q.1 ⟨rfl,rfl⟩) (fun cr cO eg=>?_) fun Y Y f=>f
      (revert eg;refine lu ?_;rintro v' bn dF ct aV pR rfl rfl)
      exact pG (bN.mono av.hr ct) aV hs pR fun h' t fG bK pP=>dL.next ((X.trans ct).xt.trans fG) bK pP q.2
    | _=>exact False.elim q
   | _=>exact False.elim q
  | sub =>
   induction v' using AV.casesOn with
   | int i =>
    induction u using AV.casesOn with
    | int j =>
     (refine aM ?_ (kO.int_inv);rintro t rfl)
     (refine aM ?_ (hu.int_inv);rintro t' rfl)
     refine isub_int ?_
     exact pG (s:={ bh with toks:=bh.toks+1 }) bN (av.tok _) hs (v:=.int _) (by simp only [VR];exact (aQ _ rfl)) fun h' t ct aV fX=>dL.next (X.xt.trans ct) aV fX q
    | _=>exact False.elim q
   | _=>exact False.elim q
  | _=>exact False.elim q
set_option tactic.hygienic true in
theorem Qz {o:Ex} {f:Nm} {op:fE} {e:Ex} (ho:aN C n o) (he:aN C n e):hB C n (.kC o f op e):=by
 intro st env A ι σ s ρ N R hm hR S F hw
 (refine zu hm ?_;clear hm;intro z1 z2 z3 z4 hm)
 (refine nF hm ?_;clear hm;intro z5 z6 z7 hm)
 (revert hm;refine aw (aw (aw ?_));intro cw pQ h2 h3;obtain rfl:=eq_of_beq cw;obtain rfl:=eq_of_beq pQ)
 refine wpAny_AugAssign_AttributeAny (ho.go h2 hR S F hw fun u ai aU cu aG cf ah bq hu q=>?_)
 refine qS q ?_
 clear q
 ·intro v hv q
  induction u using AV.casesOn with
  | ref r =>
   refine Gf hv ?_
   ·intro c l bm hv
    have hf:f∈fC c:=by
     (refine lY ?_ (ah.inst hu bm);intro x d mA _ _ _ _ _ hw nu)
     (refine au ?_ (nu f v hv);intro cu e1 _)
     (refine au ?_ (List.mem_map.mp (hw f.str (by refine U e1 ?_;simp)));intro g hg e)
     exact Nm.str_inj e ▸ hg
    refine wpAny_mono (Gj (a:=.none) (E:=FF) (Q:=fun v' V=>v'=v/\V=ai) ah hu bm hv hf ⟨rfl,rfl⟩) (fun cv bh bI=>?_) fun Y Y f=>f
    (revert bI;refine lu ?_;rintro v' aH bH bd av kO rfl rfl)
    refine he.go h3 hR av (bq.mono ah.hr bd) q fun y bn dF cy cO ct aV fX hy q=>?_
    have pR:=VR.mono (ct.cI av.hr) _ kO
    have Aa:=VR.mono (ct.cI av.hr) _ (VR.mono (bd.cI ah.hr) _ hu)
    have X:=cf.trans (bd.trans ct)
    induction op with
    | add =>
     induction v' using AV.casesOn with
     | int i =>
      induction y using AV.casesOn with
      | int j =>
       (refine aM ?_ (pR.int_inv);rintro t rfl)
       (refine aM ?_ (hy.int_inv);rintro t' rfl)
       refine iadd_int ?_
       refine y8 q ?_
       clear q
       intro c' l' Ab q
       exact rB (s:={ cO with toks:=cO.toks+1 }) X (aV.tok _) fX (Gl (Q:=N ρ) (v:=.int _) (aV.tok (cO.toks+1)) Aa Ab (by simp only [VR];exact (aQ _ rfl)) q.1 q.2) fun V q=>q
      | _=>exact False.elim q
     | _=>exact False.elim q
    | _=>exact False.elim q
  | _=>exact aZ hv
set_option tactic.hygienic true in
theorem QA {o:Ex} {f:Nm} {op:fE} {e:Ex} (ho:aN C n o) (he:aN C n e):hB C n (.pC o f op e):=by
 intro st env A ι σ s ρ N R hm hR S F hw
 (refine zu hm ?_;clear hm;intro z1 z2 z3 z4 hm)
 (refine nH hm ?_;clear hm;intro z5 z6 z7 hm)
 (revert hm;refine aw (aw (aw ?_));intro h1 pQ h2 h3;obtain rfl:=eq_of_beq pQ)
 (refine gA ?_ (wb h1);rintro kk kp rfl)
 refine wpAny_AugAssign_SubscriptAny (ho.go h2 hR S F hw fun u ai aU cu aG cf ah bq hu q=>wpAny_Constant_str ?_)
 refine qS q ?_
 clear q
 ·intro v hv q
  refine wpAny_mono (Nq (E:=FF) (Q:=fun v' V=>v'=v/\V=ai) (ah.tok (aG.toks+1)) hu hv ⟨rfl,rfl⟩) (fun cv bh bI=>?_) fun Y Y f=>f
  (revert bI;refine lu ?_;rintro v' aH bH bd av kO rfl rfl)
  refine he.go h3 hR av (bq.mono ah.hr bd) q fun y bn dF cy cO ct aV fX hy q=>?_
  have pR:=VR.mono (ct.cI av.hr) _ kO
  have Aa:=VR.mono (ct.cI av.hr) _ (VR.mono (bd.cI ah.hr) _ hu)
  have X:=cf.trans (bd.trans ct)
  induction op with
  | add =>
   induction v' using AV.casesOn with
   | int i =>
    induction y using AV.casesOn with
    | int j =>
     induction u using AV.casesOn with
     | ref r =>
      (refine aM ?_ (pR.int_inv);rintro t rfl)
      (refine aM ?_ (hy.int_inv);rintro t' rfl)
      refine iadd_int ?_
      refine Gs q ?_
      clear q
      intro l' Ab q
      exact rB (s:={ cO with toks:=cO.toks+1 }) X (aV.tok _) fX (Gn (Q:=N ρ) (v:=.int _) (aV.tok (cO.toks+1)) Aa (by simp only [VR];exact (aQ _ rfl)) Ab q.1 q.2) fun V q=>q
     | _=>exact False.elim q
    | _=>exact False.elim q
   | _=>exact False.elim q
  | _=>exact False.elim q
theorem QB {e:Ex} (he:aN C n e):hB C n (.ex e):=by
 intro st env A ι σ s ρ N R hm hR S F hw
 (refine Oh hm ?_;clear hm;intro v pos hm)
 (revert hm;refine aw (aw ?_);intro h1 h2 h3)
 have hi:interactive env=false:=by unfold interactive;refine U F.kind ?_;rfl
 have pU:swapsWith v Option.none pos.line env=pure false:=by
  induction v using Expr.casesOn <;> first | rfl | exact du h3
 exact wpAny_Expr_any (he.go h2 hR S F hw fun v ai aU cv aG X ah bq hv q=>dL.next X.xt ah bq q) hi pU
theorem QC {c:Ex} {a b:List Sm} (hc:fp C n c) (ha:nQ C n a) (hb:nQ C n b):hB C n (.iff c a b):=by
 intro st env A ι σ s ρ N R hm hR S F hw
 (refine Oi hm ?_;clear hm;intro z1 z2 z3 z4 hm)
 (revert hm;refine aw (aw ?_);intro h1 h2 h3)
 refine wpAny_If (hc.go h1 hR S F hw fun t ai aU aG X ah bq q=>?_)
 induction t with
 | true=>exact wd X.xt (ha _ env A aU ai aG ρ N R h2 hR ah bq q)
 | false=>exact wd X.xt (hb _ env A aU ai aG ρ N R h3 hR ah bq q)
theorem QD {e:Ex} (he:aN C n e):hB C n (.ret e):=by
 intro st env A ι σ s ρ N R hm hR S F hw
 (refine GY hm ?_;clear hm;intro z1 z2 hm)
 (refine pI hm ?_;clear hm;intro z3 hm)
 exact wpAny_Return_some (he.go hm hR S F hw fun v ai aU cv aG X ah bq hv q=>(yo aU ai X.xt ah v hv q))
theorem QE:hB C n .nD:=by
 intro st env A ι σ s ρ N R hm hR S F hw
 (refine GY hm ?_;clear hm;intro z1 z2 hm)
 obtain rfl:=Option.isNone_iff_eq_none.mp hm
 exact wpAny_Return_none (yo ι σ XT.refl S (.none) (by simp only [VR]) hw)
theorem QF {c:Ex} {b:List Sm} (hc:fp C n c) (hb:nQ C n b):hB C n (.wh c b):=by
 intro st env A ι σ s ρ N R hm hR S F hw
 (refine Oj hm ?_;clear hm;intro z1 z2 z3 z4 hm)
 (revert hm;refine aw ?_;intro h0 hm)
 obtain rfl:=ir h0
 (revert hm;refine aw ?_;intro h1 h2)
 (revert hw;refine aM ?_;intro k hw)
 refine wpAny_While (codeAny_whileLoop (fun k s'=>∃ aK V ae,XT (gF env) ι s.heap aK s'.heap/\St C aK V s'/\FR C env ae aK s'.heap/\me (cN C n c) (fun K ae V=>ax C n b K R ae V) N k ae V) (fun k aG bD=>?_) k (cF ι σ ρ XT.refl S F hw))
 (revert bD;refine oX ?_;intro aU ai jl cf ah bq q)
 cases k with
 | zero=>exact q.elim
 | succ k =>
  simp only [me] at q
  refine wpAny_mono (hc.go h1 hR ah bq q (Q':=fun t bh=>∃ bH aH,XT (gF env) ι s.heap bH bh.heap/\St C bH aH bh/\FR C env jl bH bh.heap/\(match t with
    | true=>ax C n b (me (cN C n c) (fun K ae V=>ax C n b K R ae V) N k) R jl aH
    | false=>N jl aH)) fun t aH bH bh bd av bN q=>(iL bH aH (cf.trans bd.xt) av bN q)) (fun t bh bI=>?_) fun Y Y f=>f.elim
  (revert bI;refine eV ?_;intro bH aH bd av bN q)
  induction t with
  | false=>exact wpAny_execs_nil (dL.next bd av bN q)
  | true =>
   refine wpAny_mono (hb _ env A bH aH bh jl _ R h2 hR av bN q) (fun f cO eg=>?_) fun Y Y f=>f.elim
   (revert eg;refine cW ?_;intro dF bn ct aV mz)
   induction f with
   | next =>
    (revert mz;refine au ?_;intro nU fX mz)
    exact (sk k (Nat.lt_succ_self _) dF bn nU (bd.trans ct) aV fX mz)
   | ret cv=>exact (cA dF bn (bd.trans ct) aV mz)
   | _=>exact mz.elim
theorem H8 {xs:List AV} {g:Option (Nat × List AV)} {it:Addr} {i:Nat} {t:Expr} {T:Addr} {Q:Unit->Shared->Prop} (hl:∀ a b,t≠.List a b) (I:gz ι xs g it i s.heap) (q:Q () s) :
  wpAny (model C.prog C.w) A (letOwnedTupleGo t (.ref it) (.ref T)) Q FF s:=by
 induction t using Expr.casesOn with
 | Tuple elts k p =>
  cases I with
  | list hr hit=>exact wpAny_letOwnedTupleGo_listiter hit q
  | tup hit ht hr =>
   (revert hit;refine bO ?_;intro o ho hc hd)
   unfold letOwnedTupleGo
   refine wpAny_bind (wpAny_load ho ?_)
   refine U hc (U hd ?_)
   refine (?_:wpAny _ A (if (["enumerate","zip","dict_itemiterator","dict_reverseitemiterator","odict_iterator","itertools.zip_longest","itertools.pairwise"].contains "tuple_iterator"&&_)=true then _ else _) Q FF s)
   rw [if_neg (by
    intro h
    rw [show (["enumerate","zip","dict_itemiterator","dict_reverseitemiterator","odict_iterator","itertools.zip_longest","itertools.pairwise"].contains "tuple_iterator")=false from by decide,Bool.false_and] at h
    exact du h)]
   exact wpAny_pure q
  | bJ hit hx =>
   unfold letOwnedTupleGo
   refine wpAny_bind (wpAny_load hit ?_)
   refine (?_:wpAny _ A (if (["enumerate","zip","dict_itemiterator","dict_reverseitemiterator","odict_iterator","itertools.zip_longest","itertools.pairwise"].contains "range_iterator"&&_)=true then _ else _) Q FF s)
   rw [if_neg (by
    intro h
    rw [show (["enumerate","zip","dict_itemiterator","dict_reverseitemiterator","odict_iterator","itertools.zip_longest","itertools.pairwise"].contains "range_iterator")=false from by decide,Bool.false_and] at h
    exact du h)]
   exact wpAny_pure q
 | List a b=>exact absurd rfl (hl a b)
 | _=>exact wpAny_pure q
theorem QG {sc:Scope} {xs:List Nm} {t:Expr} (h:mT sc xs t=true):(∃ x p,t=.Name x p)∨(∃ x y r ts k p,xs=x::y::r/\t=.Tuple ts k p):=by
 induction xs using List.casesOn with
 | nil =>
  exfalso
  exact absurd h Bool.false_ne_true
 | cons x r =>
  induction r using List.casesOn with
  | nil =>
   have ty:mi sc x t=true:=h
   (refine au ?_ (rA ty);rintro p rfl _)
   exact .inl (Fh _ _ rfl)
  | cons y r =>
   (refine sY h ?_;clear h;intro ts k p h)
   exact .inr (MS _ _ _ _ _ _ rfl rfl)
structure H9 (C:Cx) (n:Nat) (env:Env) (ι₀:bf) (h₀:Heap) (step:AV->(Loc->AH->Prop)->Loc->AH->Prop) (N:Loc->AH->Prop) (g:Option (Nat × List AV)) (xs:List AV) (it:Addr) (i:Nat) (ι:bf) (σ:AH) (ρ:Loc) (s:Shared):Prop where
 st:St C ι σ s
 xt:XT (fun b=>b=it∨gF env b) ι₀ h₀ ι s.heap
 fr:FR C env ρ ι s.heap
 mo:gz ι xs g it i s.heap
 gT:¬ b7 ι it
 kg:kD g σ
 w:kE step g N (xs.drop i) ρ σ
 le:i<=xs.length
theorem QH {xs:List Nm} {bJ:Bool} {it:Ex} {b:List Sm} (hi:aN C n it) (hb:nQ C n b):hB C n (.fo xs bJ it b):=by
 intro st env A ι₀ σ s ρ N R hm hR S F hw
 (refine Ok hm ?_;clear hm;intro t iter body z4 pos hm)
 (revert hm;refine aw ?_;intro h0 hm)
 obtain rfl:=ir h0
 (revert hm;refine aw (aw ?_);intro h1 h2 h3)
 refine wpAny_For (wpAny_mono (Hq hi h2 hR S F hw) (fun xv aG bD=>wpAny_mono bD (fun s2 bh bI=>?_) fun Y Y f=>f.elim) fun Y Y f=>f.elim) (Hz h2)
 (revert bI;refine Fc ?_;rintro iR vs g aH bH rfl eC bd av I gT kN bC hg hW)
 have bN:=F.mono S.hr bd
 have q9:¬ gF env iR:=fun hp=>by
  (refine au ?_ (F.alive hp);intro o ho _)
  rw [eC] at ho;exact aZ ho
 refine codeAny_forLoop_any (fun k s'=>∃ i aK V ae,k=vs.length+1 - i/\H9 C n env ι₀ s.heap (fun a K ae ar=>eN xs a ae ar fun dE=>ax C n b K R dE ar) N g vs iR i aK V ae s') (fun k cO eg=>?_) _ ⟨0,bH,aH,ρ,rfl,av,bd.xt,bN,I,gT,hg,hW,Nat.zero_le _⟩
 (revert eg;refine E2 ?_;rintro i dF bn nU rfl J)
 rcases Nat.lt_or_ge i vs.length with aS | jB
 ·have iS:vs[i]?=some vs[i]:=List.getElem?_eq_getElem aS
  have jj:=J.w
  rw [List.drop_eq_getElem_cons aS] at jj
  simp only [kE] at jj
  refine wpAny_mono (G6 (E:=FF) (Q:=fun r jL=>∃ h' t cv,r=some cv/\jL={ cO with heap:=h',toks:=t }/\Heap.SameBut iR cO.heap h'/\St C dF bn { cO with heap:=h',toks:=t }/\gz dF vs g iR (i+1) h'/\VR dF h' vs[i] cv) J.st J.mo J.kg J.gT kN iS fun h' t cv a1 a2 a3 a4=>(MN h' t cv rfl rfl a1 a2 a3 a4)) (fun r jL ix=>?_) fun Y Y f=>f.elim
  (revert ix;refine yl ?_;rintro ix Ac cv rfl rfl QI bK nV pO)
  (refine au ?_ (J.mo.alive);intro _ _ fW)
  have rg:∀ b o,b≠iR->cO.heap.get? b=some o->ix.get? b=some o:=fun b o hb e=>(QI.2 b hb).trans e
  have pP:FR C env nU dF ix:=J.fr.jC q9 fW rg
  (refine au ?_ (nV.alive);intro QJ QK Yv)
  have fG:XT (fun b=>b=iR∨gF env b) ι₀ s.heap dF ix:=J.xt.trans ⟨fun Y Y e=>e,fun b o hb hp e=>rg b o (fun q=>hp (.inl q)) e,fun b o e=>by
   by_cases hb:b=iR
   ·refine U hb ?_;exact (aQ QJ QK)
   ·exact (aQ o (rg b o hb e)),fun i p hi e=>by rw [List.getElem?_eq_none hi] at e;exact aZ e⟩
  dsimp only
  have body:wpAny (model C.prog C.w) A (assign t env cv) (fun Y pV=>wpAny (model C.prog C.w) A (execs body env) (fun f tz=>match f with
     | .next | .cont=>∃ m,m<vs.length+1 - i/\∃ i aK V ae,m=vs.length+1 - i/\H9 C n env ι₀ s.heap (fun a K ae ar=>eN xs a ae ar fun dE=>ax C n b K R dE ar) N g vs iR i aK V ae tz
     | .brk=>dL C env ι₀ s.heap N R .next tz
     | .ret v=>dL C env ι₀ s.heap N R (.ret v) tz) FF pV) FF { cO with heap:=ix,toks:=Ac }:=by
   refine wpAny_mono (H3 hR.bP h1 bK pP pO jj) (fun Y pV iy=>?_) fun Y Y f=>f
   (revert iy;refine kj ?_;intro Ia tb dk v9 Ad)
   have tc:=tb.cI bK.hr pP
   have wi:=nV.mono tc fun o e=>tb.keep iR o J.gT q9 e
   refine wpAny_mono (hb _ env A dF bn pV Ia _ R h3 hR dk v9 Ad) (fun f tz wj=>?_) fun Y Y f=>f
   (revert wj;refine cW ?_;intro Ae cU wm dm nW)
   have X':=fG.trans ((tb.trans wm).weak fun b e=>.inr e)
   induction f with
   | next =>
    (revert nW;refine bO ?_;intro Ib QL QM nW)
    (refine au ?_ (wi.alive);intro Yw QN Yx)
    have QO:¬ b7 Ae iR:=fun q=>J.gT (wm.own QN q)
    exact ⟨vs.length+1 - (i+1),by lia,i+1,Ae,cU,Ib,rfl,dm,X',QL,wi.mono (wm.cI dk.hr v9) (fun o e=>wm.keep iR o J.gT q9 e),QO,QM,nW,aS⟩
   | ret cv=>exact (cA Ae cU (X'.drop eC) dm nW)
   | _=>exact nW.elim
  have weak:∀ {α:Type} {x:Sem α} {Q:α->Shared->Prop} {E:Value->Shared->Prop} {s:Shared},wpAny (model C.prog C.w) A x Q FF s->wpAny (model C.prog C.w) A x Q E s:=fun h=>wpAny_mono h (fun Y Y q=>q) fun Y Y f=>f.elim
  have go:wpAny (model C.prog C.w) A (letOwnedTupleGo t (.ref iR) cv) (fun Y pV=>pV={ cO with heap:=ix,toks:=Ac }) FF { cO with heap:=ix,toks:=Ac }:=by
   rcases QG h1 with ⟨x,p,rfl⟩ | ⟨x,y,r,ts,k,p,rfl,rfl⟩
   ·exact wpAny_pure rfl
   ·have hq:=H1 jj
    unfold zX at hq
    induction hz:vs[i] using AV.casesOn with
    | ref j=>rw [hz] at pO;(refine au ?_ (pO.pl);rintro pp _ rfl);exact H8 (by intro a b h;exact (noConfusion_of_Nat Expr.ctorIdx h).elim) nV rfl
    | tup l=>rw [hz] at pO;(refine oU ?_ (pO.jE);rintro aa ws rfl _);exact H8 (by intro a b h;exact (noConfusion_of_Nat Expr.ctorIdx h).elim) nV rfl
    | _=>rw [hz] at hq;exact hq.elim
  refine wpAny_mono go (fun Y pV QP=>?_) fun Y Y f=>f.elim
  subst QP
  exact weak (wpAny_mono body (fun Y pV iy=>weak iy) fun Y Y f=>f)
 ·have iz:i=vs.length:=by have:=J.le;lia
  subst iz
  have jj:=J.w
  rw [List.drop_length] at jj
  simp only [kE] at jj
  refine wpAny_mono (G7 (E:=FF) (Q:=fun r jL=>∃ h',r=Option.none/\jL={ cO with heap:=h' }/\Heap.ExtBut iR cO.heap h'/\St C dF bn { cO with heap:=h' }) J.st J.mo hR.bP J.kg J.gT kN (Nat.le_refl _) fun h' a1 a2=>(l4 h' rfl rfl a1 a2)) (fun r jL ix=>?_) fun Y Y f=>f.elim
  (revert ix;refine kj ?_;rintro ix rfl rfl Ic bK)
  (refine au ?_ (J.mo.alive);intro _ _ fW)
  dsimp only
  refine wpAny_execs_nil (dL.next ((J.xt.drop eC).H4 eC Ic) bK (J.fr.jC q9 fW fun b o hb e=>Ic b o hb e) jj)
end
mutual
theorem QQ (C:Cx) (n:Nat):∀ m:Sm,hB C n m
 | .as x e=>Qs (bt C n e) fun el y frees bJ it cond Y=>⟨bt C n it,bt C n el,HT C n cond⟩
 | .aa o f e=>Qu (bt C n o) (bt C n e)
 | .dU o i e=>Qv (bt C n o) (bt C n i) (bt C n e)
 | .jG o f e=>Qw (bt C n o) (bt C n e)
 | .at2 xs e=>Qx (bt C n e)
 | .ag x op e=>Qy (bt C n e)
 | .kC o f op e=>Qz (bt C n o) (bt C n e)
 | .pC o f op e=>QA (bt C n o) (bt C n e)
 | .ex e=>QB (bt C n e)
 | .iff c a b=>QC (pS C n c) (pW C n a) (pW C n b)
 | .wh c b=>QF (pS C n c) (pW C n b)
 | .fo xs bJ it b=>QH (bt C n it) (pW C n b)
 | .ret e=>QD (bt C n e)
 | .nD=>QE
theorem pW (C:Cx) (n:Nat):∀ ms:List Sm,nQ C n ms
 | []=>Qp
 | m::r=>Qq (QQ C n m) (pW C n r)
end
theorem QR:∀ {names:List Str} {vals:List Value},names.Nodup->names.length=vals.length ->
  names.filterMap (fun n=>((names.zip vals).lookup n).map (n,·))=names.zip vals/\∀ n∈names,((names.zip vals).lookup n).isSome=true:=by
 intro names vals hn hl
 have key:∀ (sub:List Str) (pX:List Value) (pre:List (Str × Value)),sub.Nodup->sub.length=pX.length->(∀ n∈sub,∀ p∈pre,p.1≠n) ->
   sub.filterMap (fun n=>((pre++sub.zip pX).lookup n).map (n,·))=sub.zip pX/\∀ n∈sub,((pre++sub.zip pX).lookup n).isSome=true:=by
  intro sub
  induction sub with
  | nil=>intro pX pre _ _ _;exact ⟨rfl,fun n h=>nomatch h⟩
  | cons x r ih =>
   intro pX pre hn hl hp
   induction pX using List.casesOn with
   | nil=>exact (noConfusion_of_Nat Nat.ctorIdx hl).elim
   | cons v vs =>
    have Af:∀ {l:List (Str × Value)} {n:Str},(∀ p∈l,p.1≠n)->∀ m,(l++m).lookup n=m.lookup n:=by
     intro l n hl m
     induction l with
     | nil=>rfl
     | cons y l QS =>
      have hy:(n==y.1)=false:=beq_eq_false_iff_ne.mpr (fun e=>hl y (.head _) e.symm)
      refine U List.cons_append (U List.lookup_cons (U hy ?_))
      exact QS fun p hp=>hl p (.tail _ hp)
    have hx:(pre++(x,v)::r.zip vs).lookup x=some v:=by
     refine U (Af (fun p rp=>hp x (.head _) p rp) _ ..) (U List.lookup_cons ?_);simp
    have bP:=List.nodup_cons.mp hn
    have:=ih vs (pre++[(x,v)]) bP.2 (by simpa using hl) (fun n iN p rp=>by
     rcases List.mem_append.mp rp with h | h
     ·exact hp n (.tail _ iN) p h
     ·obtain rfl:=List.mem_singleton.mp h
      exact fun e=>bP.1 (by refine U (show x=n from e) ?_;exact iN))
    rw [List.append_assoc,List.singleton_append] at this
    refine ⟨?_,fun n iN=>?_⟩
    ·refine U List.zip_cons_cons (U List.filterMap_cons (U hx ?_))
     simp only [Option.map_some]
     exact U this.1 rfl
    ·rcases List.mem_cons.mp iN with rfl | h
     ·refine U List.zip_cons_cons (U hx ?_);rfl
     ·refine U List.zip_cons_cons ?_;exact this.2 n h
 have:=key names vals [] hn hl fun Y Y Y h=>nomatch h
 simpa using this
theorem pb {α β:Type} (a:α) (f:α->Sem β):(pure a >>= f)=f a:=rfl
theorem fi {α β:Type} (b:β) (f:α->β->Sem (ForInStep β)):(forIn ([]:List α) b f:Sem β)=pure b:=rfl
theorem QT:seqItems? Value.none=pure none:=rfl
theorem fz {α β γ δ:Type} (l:List α) (k:Nat) (b:γ) (f:α × β->γ->Sem (ForInStep γ)) (r:γ->Sem δ):(forIn (l.zip (List.drop k ([]:List β))) b f >>= r)=r b:=by
 rw [List.drop_nil,List.zip_nil_right];rfl
theorem Ie {fd:FuncData} {vals:List Value} {as:List Arg} (hp:fd.params={ posonlyargs:=[],args:=as,vararg:=none,kwonlyargs:=[],kw_defaults:=[],kwarg:=none,defaults:=[] }) (hd:fd.defaults=.none)
  (hn:(as.map (·.arg)).Nodup) (hl:as.length=vals.length):bindArgs fd ⟨vals,[]⟩=pure ((as.map (·.arg)).zip vals):=by
 have pq:(as.map (·.arg)).length=vals.length:=List.length_map .. |>.trans hl
 (refine ay ?_ (QR hn pq);intro z1 z2)
 obtain ⟨a1,a2,a3,a4,a5,a6,a7,a8,a9,Yy,Yz⟩:=fd
 dsimp only at hp hd
 subst hp hd
 delta bindArgs
 dsimp only [pb,fi,QT]
 refine (if_neg (c:=(decide (vals.length>(as.map (·.arg)).length)&&true)=true) (by rw [pq,decide_eq_false (Nat.lt_irrefl _)];exact Bool.false_ne_true)).trans ?_
 refine (if_neg (c:=(!(((as.map (·.arg)).take _).filter fun n=>(((as.map (·.arg)).zip vals).lookup n).isNone).isEmpty)=true) ?_).trans ?_
 ·rw [List.filter_eq_nil_iff.mpr fun n hn e=>?_]
  ·exact Bool.false_ne_true
  ·have:=z2 n (List.mem_of_mem_take hn)
   induction h:((as.map (·.arg)).zip vals).lookup n with
   | none=>rw [h] at this;exact du this
   | some v=>rw [h] at e;exact du e
 refine (fz _ _ _ _ _).trans ?_
 exact (congrArg (fun l=>(pure (List.filterMap (fun n=>Option.map (fun v=>(n,v)) (List.lookup n ((as.map (·.arg)).zip vals))) l):Sem _)) (List.append_nil (as.map (·.arg)))).trans (congrArg pure z1)
noncomputable def lI:List Nm->List AV->Loc
 | p::ps,v::vs=>co (lI ps vs) p v
 | _,_=>fun Y=>Option.none
noncomputable def Ag (x:Option pj) (ps:List Nm) (body:List Sm):Bool:=oS x fun x=>(match x.1 with | ⟨[],as,none,[],[],none,[]⟩=>as.map (·.arg)==ps.map Nm.str | _=>false)&&(decide ((ps.map Nm.str).Nodup)&&(x.2.1.kind==.function&&(!x.2.1.isCoroutine&&(!x.2.1.isGenerator &&
   (decide ((x.2.1.names.map (·.1)).Nodup)&&(x.2.1.names.all (fun y=>y.2 != .free)&&(ps.all (fun z=>x.2.1.names.lookup z.str==some .local||x.2.1.names.lookup z.str==some .cell) &&
   (match x.2.2 with | .stmts fI=>mB x.2.1 body fI | _=>false))))))))
noncomputable def nX (K:Frag) (a:Addr) (ps:List Nm) (body:List Sm):Bool:=nq K a&&Ag (fnX K a) ps body
structure QU (K:Frag) (a:Addr) (ps:List Nm) (body:List Sm):Prop where
 ex:∃ o fd fI as,K.lookup a=some o/\o.data=.func fd/\codeIn K fd.code fd.qualname=true/\fd.globals=mainGlobals/\fd.builtins=builtinsNs/\fd.closure=[]/\fd.defaults=.none /\
  fd.params={ posonlyargs:=[],args:=as,vararg:=none,kwonlyargs:=[],kw_defaults:=[],kwarg:=none,defaults:=[] }/\as.map (·.arg)=ps.map Nm.str/\(ps.map Nm.str).Nodup/\fd.scope.kind=.function/\fd.scope.isCoroutine=false/\fd.scope.isGenerator=false /\
  (fd.scope.names.map (·.1)).Nodup/\(∀ y∈fd.scope.names,y.2≠.free)/\(∀ x∈ps,fd.scope.names.lookup x.str=some .local∨fd.scope.names.lookup x.str=some .cell)/\fd.body=.stmts fI/\mB fd.scope body fI=true
theorem Ig {K:Frag} {a:Addr} {ps:List Nm} {body:List Sm} (h:nX K a ps body=true):QU K a ps body:=by
 induction ho:K.lookup a with
 | none=>unfold nX nq at h;rw [ho] at h;exact du h
 | some o =>
  unfold nX nq fnX at h
  rw [ho] at h
  obtain ⟨oc,od,dt,sl⟩:=o
  induction dt with
  | func fd =>
   revert h
   refine aw (aw fun Y=>aw fun h1=>aw fun h2=>aw fun h3=>aw fun h4 h5=>?_)
   refine fun h=>aw (fun h6=>aw fun h7=>aw fun h8=>aw fun h9=>aw fun o0=>aw fun yq=>aw fun QV=>aw fun QW wn=>?_) h
   have hd:fd.defaults=.none:=by
    cases e:fd.defaults with
    | none=>rfl
    | _=>rw [e] at h5;exact absurd h5 Bool.false_ne_true
   obtain ⟨as,hp,has⟩:∃ as,fd.params={ posonlyargs:=[],args:=as,vararg:=none,kwonlyargs:=[],kw_defaults:=[],kwarg:=none,defaults:=[] }/\as.map (·.arg)=ps.map Nm.str:=by
    cases e:fd.params with
    | mk po as va ko kd ka df =>
     rw [e] at h6
     induction po using List.casesOn with
     | cons _ _=>exact absurd h6 Bool.false_ne_true
     | nil=>induction va with
      | some _=>exact absurd h6 Bool.false_ne_true
      | none=>induction ko using List.casesOn with
       | cons _ _=>exact absurd h6 Bool.false_ne_true
       | nil=>induction kd using List.casesOn with
        | cons _ _=>exact absurd h6 Bool.false_ne_true
        | nil=>induction ka with
         | some _=>exact absurd h6 Bool.false_ne_true
         | none=>induction df using List.casesOn with
          | cons _ _=>exact absurd h6 Bool.false_ne_true
          | nil=>exact (aB as rfl (eq_of_beq h6))
   obtain ⟨fI,hb,hm⟩:∃ fI,fd.body=.stmts fI/\mB fd.scope body fI=true:=by
    cases e:fd.body with
    | stmts fI=>rw [e] at wn;exact (aB fI rfl wn)
    | _=>rw [e] at wn;exact absurd wn Bool.false_ne_true
   refine ⟨_,fd,fI,as,ho,rfl,h1,eq_of_beq h2,eq_of_beq h3,List.isEmpty_iff.mp h4,hd,hp,has,of_decide_eq_true h7,eq_of_beq h8,by simpa using h9,by simpa using o0,of_decide_eq_true yq,?_,?_,hb,hm⟩
   ·intro y hy
    have:=List.all_eq_true.mp QV y hy
    simpa using this
   ·intro x hx
    have:=List.all_eq_true.mp QW x hx
    simpa using this
  | _=>exact du h
theorem Ah {α:Type}:∀ {l:List (Str × α)},(l.map (·.1)).Nodup->∀ {n:Str} {c:α},(n,c)∈l->l.lookup n=some c
 | (m,d)::r,hn,n,c,h=>by
  rw [List.map_cons,List.nodup_cons] at hn
  refine U List.lookup_cons ?_
  rcases List.mem_cons.mp h with e | h
  ·(revert e;refine ij Prod.mk.inj (ay ?_);rintro rfl rfl);simp
  ·have:(n==m)=false:=beq_eq_false_iff_ne.mpr fun e=>hn.1 (by refine aT e ?_;exact List.mem_map_of_mem (f:=(·.1)) h)
   refine U this ?_
   exact Ah hn.2 h
theorem wo:∀ (names:List (Str × NameKind)) (k:Nat) (acc:List (Str × Addr)),(acc.map (·.1)++names.map (·.1)).Nodup->((cellsFrom k names acc).map (·.1)).Nodup
 | [],k,acc,h=>by simpa [cellsFrom] using h
 | (n,kd)::r,k,acc,h=>by
  have h':(acc.map (·.1)).Nodup/\(n::r.map (·.1)).Nodup/\∀ a∈acc.map (·.1),∀ b∈n::r.map (·.1),a≠b:=List.nodup_append.mp h
  (revert h';refine bS ?_;intro a1 a2 a3)
  rw [List.nodup_cons] at a2
  unfold cellsFrom
  split
  ·refine wo r _ _ (List.nodup_append.mpr ⟨?_,a2.2,?_⟩)
   ·rw [List.map_cons,List.nodup_cons];exact ⟨fun hm=>a3 n hm n (.head _) rfl,a1⟩
   ·intro a ha b hb
    rw [List.map_cons] at ha
    rcases List.mem_cons.mp ha with e' | ha
    ·exact fun e=>a2.1 (by rw [show n=b from (show a=n from e').symm.trans e];exact hb)
    ·exact a3 a ha b (.tail _ hb)
  ·exact wo r _ _ (List.nodup_append.mpr ⟨a1,a2.2,fun a ha b hb=>a3 a ha b (.tail _ hb)⟩)
theorem wp:∀ (names:List (Str × NameKind)) (k:Nat) (acc:List (Str × Addr)) (x:Str),((x,NameKind.cell)∈names∨∃ c,(x,c)∈acc)->∃ c,(x,c)∈cellsFrom k names acc
 | [],k,acc,x,h=>by
  rcases h with h | h
  ·nomatch h
  ·exact h
 | (n,kd)::r,k,acc,x,h=>by
  unfold cellsFrom
  split
  ·refine wp r _ _ x ?_
   rcases h with h | ⟨c,h⟩
   ·rcases List.mem_cons.mp h with e | h
    ·(revert e;refine ij Prod.mk.inj (ay ?_);rintro rfl rfl);exact .inr (aQ k (.head _))
    ·exact .inl h
   ·exact .inr (aQ c (.tail _ h))
  ·rename_i hk
   refine wp r _ _ x ?_
   rcases h with h | h
   ·rcases List.mem_cons.mp h with e | h
    ·(revert e;refine ij Prod.mk.inj (ay ?_);rintro rfl rfl);exact absurd rfl hk
    ·exact .inl h
   ·exact .inr h
theorem Ai {α:Type}:∀ {l:List (Str × α)} {n:Str} {c:α},(n,c)∈l->(l.lookup n).isSome=true
 | (m,d)::r,n,c,h=>by
  refine U List.lookup_cons ?_
  induction hb:n==m with
  | true=>rfl
  | false =>
   rcases List.mem_cons.mp h with e | h
   ·(revert e;refine ij Prod.mk.inj (ay ?_);rintro rfl rfl);simp at hb
   ·exact Ai h
theorem wq:∀ (names:List (Str × NameKind)) (k:Nat) (acc:List (Str × Addr)) (lo:Nat),(∀ p∈acc,lo<=p.2)->lo<=k->∀ p∈cellsFrom k names acc,lo<=p.2
 | [],k,acc,lo,h,_=>by simpa [cellsFrom] using h
 | (n,kd)::r,k,acc,lo,h,hk=>by
  unfold cellsFrom
  split
  ·refine wq r _ _ lo (fun p hp=>?_) (Nat.le_succ_of_le hk)
   rcases List.mem_cons.mp hp with rfl | hp
   ·exact hk
   ·exact h p hp
  ·exact wq r _ _ lo h hk
section
variable {C:Cx} {ι aK:bf} {σ V:AH} {h h':Heap}
theorem Ih (kindOf:Str->Option NameKind):∀ (bs:List (Str × Value)) (m:Str->Option Value) (y:Str),(∀ p∈bs,p.1≠y)->bindL kindOf bs m y=m y
 | [],m,y,_=>rfl
 | (n,v)::r,m,y,h=>by
  unfold bindL
  rw [Ih kindOf r _ y fun p hp=>h p (.tail _ hp)]
  split
  ·exact if_neg (fun e=>h (n,v) (.head _) (Eq.symm e))
  ·rfl
theorem Ii (kindOf:Str->Option NameKind):∀ (bs:List (Str × Value)) (m:Str->Option Value) (y:Str),(∀ p∈bs,p.1≠y)->bindC kindOf bs m y=m y
 | [],m,y,_=>rfl
 | (n,v)::r,m,y,h=>by
  unfold bindC
  rw [Ii kindOf r _ y fun p hp=>h p (.tail _ hp)]
  split
  ·rfl
  ·exact if_neg (fun e=>h (n,v) (.head _) (Eq.symm e))
theorem Ij (kindOf:Str->Option NameKind):∀ (ps:List Nm) (vs:List AV) (cD:List Value) (m c:Str->Option Value),aI ι h vs cD->(ps.map Nm.str).Nodup->∀ x v,lI ps vs x=some v ->
  (kindOf x.str=some .local->∃ cv,bindL kindOf ((ps.map Nm.str).zip cD) m x.str=some cv/\VR ι h v cv)/\(kindOf x.str≠some .local->∃ cv,bindC kindOf ((ps.map Nm.str).zip cD) c x.str=some cv/\VR ι h v cv)
 | [],vs,cD,m,c,_,_,x,v,e=>by exact aZ e
 | p::ps,[],cD,m,c,_,_,x,v,e=>by exact aZ e
 | p::ps,w::vs,cD,m,c,hv,hn,x,v,e=>by
  simp only [aI] at hv
  (revert hv;refine cW ?_;rintro cv zV rfl tw zW)
  rw [List.map_cons,List.nodup_cons] at hn
  have Ik:∀ q∈(ps.map Nm.str).zip zV,q.1≠p.str:=fun q hq e=>hn.1 (by refine aT e ?_;exact (List.of_mem_zip hq).1)
  by_cases hx:p=x
  ·subst hx
   have ev:w=v:=Option.some.inj ((kG ..).symm.trans e |> fun e=>(if_pos rfl).symm.trans e)
   subst ev
   refine U List.map_cons (U List.zip_cons_cons ?_)
   unfold bindL bindC
   refine ⟨fun hk=>(aB cv ?_ tw),fun hk=>(aB cv ?_ tw)⟩
   ·rw [Ih _ _ _ _ Ik,if_pos hk,if_pos rfl]
   ·rw [Ii _ _ _ _ Ik,if_neg hk,if_pos rfl]
  ·have e':lI ps vs x=some v:=by
    exact (if_neg (fun h=>hx h.symm)).symm.trans ((kG ..).symm.trans e)
   refine U List.map_cons (U List.zip_cons_cons ?_)
   unfold bindL bindC
   exact Ij kindOf ps vs zV _ _ zW hn.2 x v e'
theorem QX {n:Nat} {f:Fn} {ps:List Nm} {body:List Sm} {args:List AV} {Q:AV->AH->Prop} (hk:nX C.K (C.fa f) ps body=true) (hl:args.length=ps.length)
  (hw:ax C n body (fun Y V=>Q .none V) Q (lI ps args) σ):FW C (n+1) f args Q σ:=by
 refine ⟨fun A ι s vs hR S hv=>?_⟩
 (refine E3 ?_ ((Ig hk).ex);intro o fd fI as ho wu Aj hg hb Ak Al hp has bP tA Am pY jm Il wv An hm)
 have X:=C.lC.keeps S.hr.keep
 have bC:=hv.length
 have Ao:as.length=vs.length:=by
  have:=congrArg List.length has
  simp only [List.length_map] at this
  lia
 have tB:=Ie (vals:=vs) hp Al (by refine U has ?_;exact bP) Ao
 rw [has] at tB
 (refine bS ?_ (lG S);intro f1 f2 f3)
 have rC:∀ x,fd.scope.names.lookup x=some .cell->((cellsFrom (s.heap.objs.size+1) fd.scope.names []).lookup x).isSome=true:=fun x hx =>
  let ⟨c,hc⟩:=wp fd.scope.names (s.heap.objs.size+1) [] x (.inl (pM hx));Ai hc
 have tC:s.heap.NoLimit:=by
  (refine eV ?_ (C.g);intro mg mb _ _ hl _)
  exact hl.keeps S.hr.keep
 refine codeAny_call_cells (by have:=hR.depth;have:recursionLimit=1000:=rfl;lia) (X _ _ ho) wu tC (codeRec_of X Aj) An tB Ak (fun x hx=>?_) (fun aG I=>?_) Am pY tA
 ·have:=(List.of_mem_zip hx).1
  (refine au ?_ (List.mem_map.mp this);intro y hy e)
  rcases wv y hy with h1 | h1
  ·exact .inl (by refine aT e ?_;exact h1)
  ·exact .inr ⟨by refine aT e ?_;exact h1,rC _ (by refine aT e ?_;exact h1)⟩
 ·obtain ⟨⟨⟨hh,tk,lH⟩,iA,nY,QY⟩,ww,nK,QZ⟩:=I
  subst lH
  have nZ:∀ b o,s.heap.get? b=some o->hh.get? b=some o:=nY
  have ah:St C ι σ { s with heap:=hh,toks:=tk }:=⟨S.hr.keeps nZ,S.gens,S.os⟩
  have fresh:∀ b,s.heap.objs.size<=b->s.heap.get? b=none/\¬ b7 ι b/\C.base.get? b=none:=fun b hb=>by
   have eC:s.heap.get? b=none:=by
    induction e:s.heap.get? b with
    | none=>rfl
    | some o=>exact absurd (Heap.lt_size e) (Nat.not_lt.mpr hb)
   refine ⟨eC,?_,?_⟩
   ·(refine au ?_;intro p hp e)
    (refine aM ?_ (List.mem_iff_getElem?.mp hp);intro i hi)
    (refine au ?_ (S.hr.at hi);intro o _ ho)
    (refine yh ?_ (ho.alive);intro o1 h1 o2 h2)
    rcases e with e | e
    ·rw [<- e,eC] at h1;exact aZ h1
    ·rw [<- e,eC] at h2;exact aZ h2
   ·induction e:C.base.get? b with
    | none=>rfl
    | some o=>rw [S.hr.keep _ _ e] at eC;exact dQ eC
  have tD:∀ m c,(m,c)∈(callEnvC fd s.heap.objs.size (C.fa f)).cells->s.heap.objs.size<=c:=fun m c hc =>
   Nat.le_of_succ_le (wq fd.scope.names (s.heap.objs.size+1) [] (s.heap.objs.size+1) (fun p hp=>nomatch hp) (Nat.le_refl _) (m,c) hc)
  have spec:=Ij (ι:=ι) (h:=hh) (callEnvC fd s.heap.objs.size (C.fa f)).kindOf ps args vs (fun Y=>none) (fun Y=>none) (aI.mono (cH.keeps nZ) _ hv) bP
  have bq:FR C (callEnvC fd s.heap.objs.size (C.fa f)) (lI ps args) ι hh:=by
   refine ⟨tA,hg,hb,(aB _ iA (fun x v e k=>(spec x v e).1 k)),fun x v e k=>?_,fun m c hc=>?_,nK,⟨f3,f2⟩,fun x k=>?_⟩
   ·have wx:(callEnvC fd s.heap.objs.size (C.fa f)).kindOf x.str≠some .local:=by
     rcases k with k | k <;> refine U k ?_ <;> decide
    (refine au ?_ ((spec x v e).2 wx);intro cv e1 e2)
    have gc:fd.scope.names.lookup x.str=some .cell:=by
     rcases k with k | k
     ·exact k
     ·exact absurd rfl (Il (x.str,.free) (pM (show fd.scope.names.lookup x.str=some .free from k)))
    (refine aM ?_ (Option.isSome_iff_exists.mp (rC _ gc));intro c hc)
    exact (cA c cv hc (e1 ▸ ww _ _ hc) e2)
   ·have jH:(callEnvC fd s.heap.objs.size (C.fa f)).cells.lookup m=some c:=Ah (wo fd.scope.names _ [] (by simpa using jm)) hc
    (refine bS ?_ (fresh c (tD m c hc));intro _ b2 b3)
    exact ⟨(aQ _ (ww _ _ jH)),b3,b2⟩
   ·have:((callEnvC fd s.heap.objs.size (C.fa f)).cells.lookup x).isSome=true:=rC x k
    intro e
    rw [e] at this;exact du this
  have dq:Rb (A.deeper (callEnvC fd s.heap.objs.size (C.fa f))) n:=⟨hR.bP,by have:=hR.depth;show A.depth+1+3*n+2<=900;lia,by have:=hR.units;show A.units+3+20*n+17<=9000;lia⟩
  refine wpAny_mono (pW C n body fI _ _ ι σ _ (lI ps args) _ Q hm dq ah bq hw) (fun fl s' h'=>?_) fun Y Y f=>f.elim
  (revert h';refine cW ?_;intro aK V X' S' q)
  have E':Ext ι s.heap aK s'.heap:=((Ext.keeps nZ).xt.trans X').ext fun b hb=>by
   rcases hb with rfl | ⟨m,hm⟩
   ·exact f1
   ·exact (fresh b (tD m b hm)).1
  induction fl with
  | next =>
   (revert q;refine au ?_;intro ae _ q)
   exact (sk (.none) rfl (.none) V aK E' S' (by simp only [VR]) q)
  | ret cv =>
   (revert q;refine au ?_;intro v gj q)
   exact (sk cv rfl v V aK E' S' gj q)
  | _=>exact q.elim
end
noncomputable def Ap:List Sm:=[.fo [.b9] false (.nm .cX) [.iff (.or [(.eq true (.sub (.nm .bb) (.int 0)) (.gi .o6 5)),(.cmp .lt (.nm .b9) (.int 0)),(.cmp .ge (.nm .b9) (.len (.sub (.nm .bb) (.int 2))))]) [.ret .none] [],.as .bb (.sub (.sub (.nm .bb) (.int 2)) (.nm .b9))],.ret (.nm .bb)]
noncomputable def Aq:List Sm:=[.as .qM (.list []),.as .sn (.nm .bb),.fo [.b9] false (.nm .cX) [.ex (.app (.nm .qM) (.tup [(.nm .sn),(.nm .b9)])),.as .sn (.sub (.sub (.nm .sn) (.int 2)) (.nm .b9))],.as .cC (.bin .sub (.len (.nm .qM)) (.int 1)),.wh (.cmp .ge (.nm .cC) (.int 0)) [.at2 [.vn,.b9] (.sub (.nm .qM) (.nm .cC)),.as .qK (.tup [(.gi .o6 5),(.sub (.nm .vn) (.int 1)),(.bin .add (.bin .add (.slt (.sub (.nm .vn) (.int 2)) (.nm .b9)) (.tup [(.nm .qK)])) (.nz (.sub (.nm .vn) (.int 2)) (.bin .add (.nm .b9) (.int 1))))]),.ag .cC .sub (.int 1)],.ret (.nm .qK)]
noncomputable def Ar:List Sm:=[.iff (.eq false (.sub (.nm .bb) (.int 0)) (.gi .o5 4)) [.iff (.eq false (.sub (.nm .bb) (.int 1)) (.int 0)) [.ret (.list [])] [],.ret (.list [(.sub (.nm .bb) (.int 1))])] [],.iff (.eq true (.sub (.nm .bb) (.int 0)) (.gi .o6 5)) [.ret (.list [])] [],.as .vk (.list []),.as .eA (.list [(.nm .bb)]),.wh (.cmp .gt (.len (.nm .eA)) (.int 0)) [.as .eY (.pop (.nm .eA)),.iff (.eq false (.sub (.nm .eY) (.int 0)) (.gi .o6 5)) [.as .cC (.bin .sub (.len (.sub (.nm .eY) (.int 2))) (.int 1)),.wh (.cmp .ge (.nm .cC) (.int 0)) [.ex (.app (.nm .eA) (.sub (.sub (.nm .eY) (.int 2)) (.nm .cC))),.ag .cC .sub (.int 1)]] [.iff (.and [(.eq false (.sub (.nm .eY) (.int 0)) (.gi .o5 4)),(.eq true (.sub (.nm .eY) (.int 1)) (.int 0))]) [.ex (.app (.nm .vk) (.sub (.nm .eY) (.int 1)))] []]],.ret (.nm .vk)]
noncomputable def As:List Sm:=[.iff (.eq false (.sub (.nm .bb) (.int 0)) (.gi .o6 5)) [.ret (.call .Ft [(.nm .bb),(.nm .ni),(.nm .cT)])] [],.ret (.call .sy [(.nm .bb),(.nm .ni),(.nm .cT)])]
noncomputable def At:List Sm:=[.iff (.eq false (.sub (.nm .bb) (.int 0)) (.gi .o5 4)) [.ret (.tup [(.gi .o5 4),(.nB (.nm .ni) (.sub (.nm .bb) (.int 1)) (.sub (.nm .bb) (.int 1)))])] [],.iff (.and [(.eq false (.sub (.nm .bb) (.int 0)) (.gi .yr 6)),(.eq false (.sub (.sub (.nm .bb) (.int 1)) (.int 0)) (.gi .qH 3))]) [.as .cC (.sub (.nm .bb) (.int 1)),.ret (.tup [(.gi .yr 6),(.tup [(.gi .qH 3),(.jA (.nm .cT) .jd .pi [(.sub (.nm .cC) (.int 1))]),(.sub (.nm .cC) (.int 2))])])] [],.ret (.nm .bb)]
noncomputable def Au:List Sm:=[.as .eA (.list [(.tup [(.nm .bb),(.list [])])]),.as .sw (.nm .bb),.wh (.cmp .gt (.len (.nm .eA)) (.int 0)) [.at2 [.qL,.pa] (.sub (.nm .eA) (.bin .sub (.len (.nm .eA)) (.int 1))),.iff (.eq false (.len (.nm .pa)) (.len (.sub (.nm .qL) (.int 2)))) [.as .sw (.tup [(.gi .o6 5),(.sub (.nm .qL) (.int 1)),(.tuple (.nm .pa))]),.ex (.pop (.nm .eA)),.iff (.cmp .gt (.len (.nm .eA)) (.int 0)) [.ex (.app (.sub (.sub (.nm .eA) (.bin .sub (.len (.nm .eA)) (.int 1))) (.int 1)) (.nm .sw))] []] [.as .qI (.sub (.sub (.nm .qL) (.int 2)) (.len (.nm .pa))),.iff (.eq false (.sub (.nm .qI) (.int 0)) (.gi .o6 5)) [.ex (.app (.nm .eA) (.tup [(.nm .qI),(.list [])]))] [.ex (.app (.nm .pa) (.call .sy [(.nm .qI),(.nm .ni),(.nm .cT)]))]]],.ret (.nm .sw)]
noncomputable def Av:List Sm:=[.iff (.cmp .lt (.bin .add (.gi .vi 2) (.nm .dJ)) (.gi .Fm 3)) [.ret (.gi .Fm 3)] [],.ret (.bin .add (.gi .vi 2) (.nm .dJ))]
noncomputable def Aw:List Sm:=[.as .aP (.new .gB [(.ba (.nm .aF) .eY),(.nm .ly),(.nm .di)]),.kC (.nm .aF) .dg .add (.int 1),.aa (.nm .aP) .jz (.ba (.nm .aF) .dg),.ex (.app (.ba (.nm .aF) .fk) (.nm .aP)),.dU (.ba (.nm .aF) .bz) (.ba (.nm .aP) .bM) (.nm .aP),.kC (.nm .aF) .eY .add (.ba (.nm .aP) .eI),.kC (.nm .aF) .fj .add (.ba (.nm .aP) .eI),.ret (.nm .aP)]
noncomputable def Ax:List Sm:=[.ret (.bin .sub (.ba (.nm .aF) .eY) (.gi .vh 16))]
noncomputable def Ay:List Sm:=[.aa (.nm .aF) .fj (.int 0),.iff (.and [(.cmp .ge (.nm .aW) (.gi .vj 2)),(.cmp .gt (.bin .mul (.int 2) (.call .yC [(.nm .aF)])) (.ba (.nm .aF) .lz))]) [.aa (.nm .aF) .lz (.bin .mul (.int 2) (.call .yC [(.nm .aF)]))] []]
noncomputable def Az:List Sm:=[.as .yt (.nA (.ba (.nm .aF) .bz) (.nm .bx)),.iff (.cc true (.nm .yt)) [.ret (.nm .yt)] [],.as .pc (.int 0),.as .sp (.len (.ba (.nm .aF) .fk)),.wh (.cmp .lt (.nm .pc) (.nm .sp)) [.as .vm (.bin .fdiv (.bin .add (.nm .pc) (.nm .sp)) (.int 2)),.iff (.cmp .le (.ba (.sub (.ba (.nm .aF) .fk) (.nm .vm)) .bM) (.nm .bx)) [.as .pc (.bin .add (.nm .vm) (.int 1))] [.as .sp (.nm .vm)]],.iff (.eq false (.nm .pc) (.int 0)) [.ret .none] [],.as .aP (.sub (.ba (.nm .aF) .fk) (.bin .sub (.nm .pc) (.int 1))),.iff (.cmp .lt (.nm .bx) (.bin .add (.ba (.nm .aP) .bM) (.ba (.nm .aP) .eI))) [.ret (.nm .aP)] [],.ret .none]
noncomputable def AA:List Sm:=[.ret (.bin .add (.bin .add (.ba (.nm .aP) .bM) (.gi .vi 2)) (.nm .b9))]
noncomputable def AB:List Sm:=[.as .b9 (.bin .sub (.bin .sub (.nm .bx) (.ba (.nm .aP) .bM)) (.gi .vi 2)),.iff (.kB .le .lt (.int 0) (.nm .b9) (.len (.ba (.nm .aP) .di))) [.ret (.nm .b9)] [],.ret (.neg 1)]
noncomputable def AC:List Sm:=[.as .aP (.call .qN [(.nm .aF),(.nm .bx)]),.iff (.cc false (.nm .aP)) [.ret .none] [],.as .b9 (.call .yD [(.nm .aP),(.nm .bx)]),.iff (.cmp .lt (.nm .b9) (.int 0)) [.ret .none] [],.ret (.sub (.ba (.nm .aP) .di) (.nm .b9))]
noncomputable def tE:List Sm:=[.iff (.eq false (.sub (.nm .bb) (.int 0)) (.gi .o5 4)) [.ret (.eq true (.sub (.nm .bb) (.int 1)) (.int 0))] [],.fo [.bM] false (.call .vu [(.nm .bb)]) [.iff (.eq true (.nm .bM) (.int 0)) [.ret (.bool true)] []],.ret (.bool false)]
noncomputable def AD:List Sm:=[.ret (.bin .shr (.nm .bx) (.ba (.nm .aF) .o7))]
noncomputable def AE:List Sm:=[.dU (.ba (.nm .aP) .di) (.nm .b9) (.nm .bb),.iff (.and [(.cmp .gt (.ba (.nm .aP) .aW) (.int 0)),(.call .yF [(.nm .bb)])]) [.dU (.ba (.nm .aF) .de) (.call .vx [(.nm .aF),(.call .vw [(.nm .aP),(.nm .b9)])]) (.int 1)] []]
noncomputable def AF:List Sm:=[.as .aP (.call .qN [(.nm .aF),(.nm .bx)]),.iff (.cc false (.nm .aP)) [.ret (.bool false)] [],.as .b9 (.call .yD [(.nm .aP),(.nm .bx)]),.iff (.cmp .lt (.nm .b9) (.int 0)) [.ret (.bool false)] [],.iff (.cc false (.call .vr [(.sub (.ba (.nm .aP) .di) (.nm .b9)),(.nm .cX)])) [.ret (.bool false)] [],.ex (.call .Fy [(.nm .aF),(.nm .aP),(.nm .b9),(.call .yB [(.sub (.ba (.nm .aP) .di) (.nm .b9)),(.nm .cX),(.nm .bb)])]),.ret (.bool true)]
noncomputable def AG:List Sm:=[.iff (.eq false (.sub (.nm .bb) (.int 0)) (.gi .o5 4)) [.ret (.list [(.sub (.nm .bb) (.int 1))])] [],.iff (.eq false (.sub (.nm .bb) (.int 0)) (.gi .yr 6)) [.as .cC (.sub (.nm .bb) (.int 1)),.iff (.eq false (.sub (.nm .cC) (.int 0)) (.gi .qH 3)) [.ret (.list [(.sub (.nm .cC) (.int 1))])] [],.ret (.list [])] [],.ret (.call .vu [(.nm .bb)])]
noncomputable def AI:List Sm:=[.iff (.eq false (.nm .bx) (.int 0)) [.nD] [],.as .aP (.call .qN [(.nm .aF),(.nm .bx)]),.iff (.or [(.cc false (.nm .aP)),(.cmp .gt (.ba (.nm .aP) .aW) (.nm .aW)),(.fV false (.ba (.nm .aP) .bM) (.nm .dA))]) [.nD] [],.dU (.nm .dA) (.ba (.nm .aP) .bM) (.int 1),.ex (.app (.nm .f8) (.nm .aP))]
noncomputable def AJ:List Sm:=[.fo [.bx] false (.call .Fz [(.nm .bb)]) [.ex (.call .yH [(.nm .aF),(.nm .bx),(.nm .aW),(.nm .dA),(.nm .f8)])]]
noncomputable def tF:List Sm:=[.wh (.cmp .gt (.len (.nm .f8)) (.int 0)) [.as .aP (.pop (.nm .f8)),.fo [.bb] false (.ba (.nm .aP) .di) [.ex (.call .vy [(.nm .aF),(.nm .bb),(.nm .aW),(.nm .dA),(.nm .f8)])]]]
noncomputable def AK:List Sm:=[.as .eb (.list []),.fo [.aP] false (.ba (.nm .aF) .fk) [.iff (.cmp .gt (.ba (.nm .aP) .aW) (.nm .aW)) [.fo [.b9] true (.len (.ba (.nm .aP) .di)) [.iff (.fV false (.call .vx [(.nm .aF),(.call .vw [(.nm .aP),(.nm .b9)])]) (.ba (.nm .aF) .de)) [.ex (.app (.nm .eb) (.tup [(.nm .aP),(.nm .b9)]))] []]] []],.ret (.nm .eb)]
noncomputable def AL:List Sm:=[.as .dA .gh,.as .f8 (.list []),.fo [.ii] false (.nm .f7) [.fo [.bb] false (.nm .ii) [.ex (.call .vy [(.nm .aF),(.nm .bb),(.nm .aW),(.nm .dA),(.nm .f8)])]],.iff (.cmp .lt (.nm .aW) (.gi .vj 2)) [.fo [.aP,.b9] false (.call .FA [(.nm .aF),(.nm .aW)]) [.ex (.call .vy [(.nm .aF),(.sub (.ba (.nm .aP) .di) (.nm .b9)),(.nm .aW),(.nm .dA),(.nm .f8)])]] [],.ex (.call .vz [(.nm .aF),(.nm .f8),(.nm .aW),(.nm .dA)]),.ret (.nm .dA)]
noncomputable def AM:List Sm:=[.as .f8 (.list []),.fo [.bM] false (.nm .eH) [.ex (.call .yH [(.nm .aF),(.nm .bM),(.nm .aW),(.nm .dA),(.nm .f8)])],.ex (.call .vz [(.nm .aF),(.nm .f8),(.nm .aW),(.nm .dA)])]
noncomputable def AN:List Sm:=[.dU (.ba (.nm .aF) .de) (.call .vx [(.nm .aF),(.nm .bx)]) (.int 1)]
noncomputable def AP:List Sm:=[.fo [.bM] false (.call .vu [(.nm .bb)]) [.as .yx (.nA (.ba (.nm .aF) .bz) (.nm .bM)),.iff (.and [(.cc true (.nm .yx)),(.cmp .lt (.ba (.nm .yx) .aW) (.ba (.nm .aP) .aW))]) [.ret (.bool true)] []],.ret (.bool false)]
noncomputable def AQ:List Sm:=[.as .eb (.list []),.fo [.aP] false (.ba (.nm .aF) .fk) [.iff (.cmp .gt (.ba (.nm .aP) .aW) (.int 0)) [.fo [.b9] true (.len (.ba (.nm .aP) .di)) [.iff (.call .FG [(.nm .aF),(.nm .aP),(.sub (.ba (.nm .aP) .di) (.nm .b9))]) [.ex (.app (.nm .eb) (.tup [(.nm .aP),(.nm .b9)]))] []]] []],.ret (.nm .eb)]
noncomputable def AR:List Sm:=[.aa (.nm .aF) .de .gh,.fo [.aP,.b9] false (.call .FH [(.nm .aF)]) [.ex (.call .FE [(.nm .aF),(.call .vw [(.nm .aP),(.nm .b9)])])]]
noncomputable def AS:List Sm:=[.as .kn (.list []),.as .su (.list []),.fo [.bM] false (.ba (.nm .aF) .l6) [.iff (.call .MY [(.nm .aF),(.nm .bM),(.nm .dA),(.nm .aW)]) [.ex (.app (.nm .su) (.nm .bM)),.ex (.app (.ba (.nm .aF) .pf) (.tup [(.gi .o5 4),(.nm .bM)]))] [.ex (.app (.nm .kn) (.nm .bM))]],.aa (.nm .aF) .l6 (.nm .kn),.ret (.nm .su)]
noncomputable def AT:List Sm:=[.as .so (.gi .vh 16),.fo [.aP] false (.ba (.nm .aF) .fk) [.iff (.and [(.cmp .gt (.ba (.nm .aP) .aW) (.nm .aW)),(.cmp .gt (.bin .add (.ba (.nm .aP) .bM) (.ba (.nm .aP) .eI)) (.nm .so))]) [.as .so (.bin .add (.ba (.nm .aP) .bM) (.ba (.nm .aP) .eI))] []],.ret (.nm .so)]
noncomputable def AU:List Sm:=[.as .cB .gh,.as .l7 (.call .FL [(.nm .aF),(.nm .aW)]),.fo [.aP] false (.ba (.nm .aF) .fk) [.iff (.and [(.cmp .le (.ba (.nm .aP) .aW) (.nm .aW)),(.fV false (.ba (.nm .aP) .bM) (.nm .dA))]) [.dU (.nm .cB) (.ba (.nm .aP) .bM) (.nm .l7),.ag .l7 .add (.ba (.nm .aP) .eI)] []],.ret (.nm .cB)]
noncomputable def AW:List Sm:=[.as .aP (.call .qN [(.nm .aF),(.nm .bx)]),.iff (.or [(.cc false (.nm .aP)),(.fV true (.ba (.nm .aP) .bM) (.nm .cB))]) [.ret (.nm .bx)] [],.ret (.bin .add (.bin .sub (.nm .bx) (.ba (.nm .aP) .bM)) (.sub (.nm .cB) (.ba (.nm .aP) .bM)))]
noncomputable def AX:List Sm:=[.ret (.or [(.cmp .gt (.ba (.nm .aP) .aW) (.nm .aW)),(.fV false (.ba (.nm .aP) .bM) (.nm .cB))])]
noncomputable def AY:List Sm:=[.as .eb (.list []),.fo [.bb] false (.nm .ii) [.ex (.app (.nm .eb) (.call .Fs [(.nm .bb),(.nm .cB),(.nm .cT)]))],.ret (.nm .eb)]
noncomputable def AZ:List Sm:=[.as .eb (.list []),.fo [.ii] false (.nm .f7) [.ex (.app (.nm .eb) (.call .FO [(.nm .ii),(.nm .cB),(.nm .cT)]))],.ret (.nm .eb)]
noncomputable def A0:List Sm:=[.fo [.cC] true (.len (.nm .f7)) [.as .ii (.sub (.nm .f7) (.nm .cC)),.fo [.ez] true (.len (.nm .ii)) [.dU (.nm .ii) (.nm .ez) (.sub (.sub (.nm .fj) (.nm .cC)) (.nm .ez))]]]
noncomputable def A1:List Sm:=[.as .eb (.list []),.fo [.bM] false (.nm .eH) [.ex (.app (.nm .eb) (.nB (.nm .cB) (.nm .bM) (.nm .bM)))],.ret (.nm .eb)]
noncomputable def A2:List Sm:=[.iff (.cmp .gt (.ba (.nm .aP) .aW) (.nm .aW)) [.nD] [],.as .l7 (.sub (.nm .cB) (.ba (.nm .aP) .bM)),.iff (.eq true (.nm .l7) (.ba (.nm .aP) .bM)) [.kC (.nm .aF) .qJ .add (.int 1)] [],.aa (.nm .aP) .bM (.nm .l7),.iff (.cmp .lt (.ba (.nm .aP) .aW) (.gi .vj 2)) [.kC (.nm .aP) .aW .add (.int 1)] []]
noncomputable def A3:List Sm:=[.as .sq (.list []),.fo [.aP] false (.ba (.nm .aF) .fk) [.iff (.call .yI [(.nm .aP),(.nm .cB),(.nm .aW)]) [.ex (.app (.nm .sq) (.nm .aP))] []],.aa (.nm .aF) .fk (.nm .sq),.aa (.nm .aF) .bz .gh,.aa (.nm .aF) .eY (.gi .vh 16),.fo [.aP] false (.nm .sq) [.ex (.call .FT [(.nm .aF),(.nm .aP),(.nm .cB),(.nm .aW)]),.dU (.ba (.nm .aF) .bz) (.ba (.nm .aP) .bM) (.nm .aP),.aa (.nm .aF) .eY (.bin .add (.ba (.nm .aP) .bM) (.ba (.nm .aP) .eI))]]
noncomputable def A4:List Sm:=[.as .cT (.new .jd [(.nm .aF),(.nm .cB)]),.as .km (.list []),.fo [.ii] false (.nm .f7) [.ex (.app (.nm .km) (.nm .ii))],.ex (.app (.nm .km) (.ba (.nm .aF) .pf)),.fo [.aP] false (.ba (.nm .aF) .fk) [.iff (.call .yI [(.nm .aP),(.nm .cB),(.nm .aW)]) [.ex (.app (.nm .km) (.ba (.nm .aP) .di))] []],.ex (.call .FQ [(.nm .km),(.call .FP [(.nm .km),(.nm .cB),(.nm .cT)])]),.aa (.nm .aF) .l6 (.call .FS [(.ba (.nm .aF) .l6),(.nm .cB)]),.ex (.call .FU [(.nm .aF),(.nm .cB),(.nm .aW)])]
noncomputable def A5:List Sm:=[.as .eb (.list []),.fo [.ii] false (.nm .f7) [.ex (.app (.nm .eb) (.nm .ii))],.ex (.app (.nm .eb) (.ba (.nm .aF) .pf)),.iff (.cc true (.nm .jc)) [.ex (.app (.nm .eb) (.call .MX [(.nm .jc)]))] [],.ret (.nm .eb)]
noncomputable def A6:List Sm:=[.as .dA (.call .FC [(.nm .aF),(.call .FX [(.nm .aF),(.nm .f7),(.nm .jc)]),(.nm .aW)]),.iff (.cc true (.nm .jc)) [.ex (.call .FJ [(.nm .jc),(.gi .MV 1),(.nm .dA),(.nm .aF),(.nm .aW)])] [],.as .su (.call .FK [(.nm .aF),(.nm .dA),(.nm .aW)]),.ex (.call .FD [(.nm .aF),(.nm .dA),(.nm .su),(.nm .aW)]),.iff (.cc true (.nm .jc)) [.ex (.call .FJ [(.nm .jc),(.gi .MU 2),(.nm .dA),(.nm .aF),(.nm .aW)])] [],.ret (.nm .dA)]
noncomputable def A7:List Sm:=[.as .Fo (.len (.ba (.nm .aF) .fk)),.as .dA (.call .FY [(.nm .aF),(.nm .f7),(.nm .jc),(.nm .aW)]),.as .cB (.call .FM [(.nm .aF),(.nm .dA),(.nm .aW)]),.ex (.call .FV [(.nm .aF),(.nm .f7),(.nm .cB),(.nm .aW)]),.iff (.cc true (.nm .jc)) [.ex (.call .MZ [(.nm .jc),(.nm .cB)])] [],.ex (.call .FI [(.nm .aF)]),.ex (.call .Fw [(.nm .aF),(.nm .aW)]),.ret (.bin .sub (.nm .Fo) (.len (.ba (.nm .aF) .fk)))]
noncomputable def A8:List Sm:=[.iff (.eq false (.sub (.nm .cC) (.int 0)) (.gi .qH 3)) [.ret (.sub (.nm .cC) (.int 2))] [],.ret (.sub (.nm .cC) (.int 3))]
noncomputable def A9:List Sm:=[.iff (.eq false (.sub (.nm .cC) (.int 0)) (.gi .qH 3)) [.ret (.call .yE [(.ba (.nm .g7) .aF),(.sub (.nm .cC) (.int 1))])] [],.as .di (.call .F0 [(.nm .g7),(.nm .cC)]),.iff (.cc false (.nm .di)) [.ret .none] [],.as .ez (.call .F3 [(.nm .cC)]),.iff (.or [(.cmp .lt (.nm .ez) (.int 0)),(.cmp .ge (.nm .ez) (.len (.nm .di)))]) [.ret .none] [],.ret (.sub (.nm .di) (.nm .ez))]
noncomputable def Ba:List Sm:=[.as .pg (.call .yK [(.nm .g7),(.nm .cC)]),.iff (.cc false (.nm .pg)) [.ret .none] [],.ret (.call .vr [(.nm .pg),(.call .yJ [(.nm .cC)])])]
noncomputable def Bb:List Sm:=[.as .pg (.call .yK [(.nm .g7),(.nm .cC)]),.iff (.or [(.cc false (.nm .pg)),(.cc false (.call .vr [(.nm .pg),(.call .yJ [(.nm .cC)])]))]) [.ret (.bool false)] [],.iff (.eq false (.sub (.nm .cC) (.int 0)) (.gi .qH 3)) [.ret (.call .yG [(.ba (.nm .g7) .aF),(.sub (.nm .cC) (.int 1)),(.sub (.nm .cC) (.int 2)),(.nm .bb)])] [],.as .di (.call .F0 [(.nm .g7),(.nm .cC)]),.dU (.nm .di) (.call .F3 [(.nm .cC)]) (.call .yB [(.nm .pg),(.sub (.nm .cC) (.int 3)),(.nm .bb)]),.ret (.bool true)]
noncomputable def tG:List Sm:=[.as .ez (.sub (.nm .bz) (.int 0)),.dU (.nm .bz) (.int 0) (.bin .add (.nm .ez) (.int 1)),.as .yv (.len (.nm .bG)),.ret (.bin .mod (.bin .add (.sub (.nm .bG) (.bin .mod (.nm .ez) (.nm .yv))) (.bin .mul (.bin .fdiv (.nm .ez) (.nm .yv)) (.bin .add (.bin .mod (.sub (.nm .bG) (.int 0)) (.int 7)) (.bin .mul (.int 3) (.nm .ez))))) (.nm .pe))]
noncomputable def Bc:List Sm:=[.jG (.nm .aJ) .eH (.pB 0 (.int 0)),.jG (.nm .aJ) .cT (.list []),.fo [.bW] false (.ss (.nm .aJ) .dh) [.dU (.ss (.nm .aJ) .eH) (.sub (.nm .bW) (.int 0)) (.bin .add (.int 16) (.len (.ss (.nm .aJ) .cT))),.fo [.jy] true (.max (.int 3) (.bin .add (.int 2) (.len (.sub (.nm .bW) (.int 1))))) [.ex (.app (.ss (.nm .aJ) .cT) (.tup [(.nm .bW),(.nm .jy)]))]]]
noncomputable def mC:List Sm:=[.iff (.eq false (.sub (.nm .bb) (.int 0)) (.int 4)) [.ret (.tup [(.int 4),(.sub (.ss (.nm .aJ) .eH) (.sub (.nm .bb) (.int 1)))])] [],.iff (.eq false (.sub (.nm .bb) (.int 0)) (.int 5)) [.ret (.tup [(.int 5),(.int 64),(.tup [(.call .ku [(.nm .aJ),(.sub (.sub (.nm .bb) (.int 2)) (.int 0))]),(.call .ku [(.nm .aJ),(.sub (.sub (.nm .bb) (.int 2)) (.int 1))])])])] [],.iff (.eq false (.sub (.nm .bb) (.int 0)) (.int 6)) [.ret (.tup [(.int 6),(.tup [(.int 3),(.bin .add (.sub (.ss (.nm .aJ) .eH) (.sub (.nm .bb) (.int 1))) (.sub (.nm .bb) (.int 2))),(.sub (.nm .bb) (.int 3))])])] [],.ret (.nm .bb)]
noncomputable def mD:List Sm:=[.iff (.eq false (.sub (.nm .bb) (.int 0)) (.int 5)) [.ret (.bin .add (.call .nj [(.sub (.sub (.nm .bb) (.int 2)) (.int 0))]) (.call .nj [(.sub (.sub (.nm .bb) (.int 2)) (.int 1))]))] [],.iff (.and [(.or [(.eq false (.sub (.nm .bb) (.int 0)) (.int 4)),(.eq false (.sub (.nm .bb) (.int 0)) (.int 6))]),(.cmp .gt (.sub (.nm .bb) (.int 1)) (.int 0))]) [.ret (.list [(.sub (.nm .bb) (.int 1))])] [],.ret (.list [])]
noncomputable def pZ:List Sm:=[.as .sx (.call .eB [(.nm .bG),(.nm .bz),(.bin .sub (.int 5) (.nm .Fp))]),.iff (.eq false (.nm .sx) (.int 0)) [.pC (.nm .aJ) .dJ .add (.int 1),.ret (.tup [(.int 1),(.ss (.nm .aJ) .dJ)])] [],.iff (.eq false (.nm .sx) (.int 4)) [.as .o9 (.call .qO [(.nm .bG),(.nm .bz),(.nm .aJ),(.int 1)]),.ret (.tup [(.int 5),(.int 64),(.tup [(.nm .o9),(.call .qO [(.nm .bG),(.nm .bz),(.nm .aJ),(.int 1)])])])] [],.iff (.or [(.eq false (.nm .sx) (.int 1)),(.eq false (.len (.ss (.nm .aJ) .dh)) (.int 0))]) [.ret (.tup [(.int 4),(.int 0)])] [],.ret (.tup [(.int 4),(.sub (.sub (.ss (.nm .aJ) .dh) (.call .eB [(.nm .bG),(.nm .bz),(.len (.ss (.nm .aJ) .dh))])) (.int 0))])]
noncomputable def Bd:List Sm:=[.ret (.sub (.tup [(.tup []),(.tup []),(.tup [(.int 0)]),(.tup [(.int 1)]),(.tup []),(.tup [(.int 0)]),(.tup [(.int 2)]),(.tup [(.int 1),(.int 0)]),(.tup [(.neg 1)])]) (.call .eB [(.nm .bG),(.nm .bz),(.int 9)]))]
noncomputable def tH:List Sm:=[.as .di (.comp (.call .qO [(.nm .bG),(.nm .bz),(.nm .aJ),(.int 0)]) .ez [.bG,.bz,.aJ] true (.call .eB [(.nm .bG),(.nm .bz),(.int 4)]) Option.none),.as .aP (.call .Fv [(.ss (.nm .aJ) .aF),(.int 12),(.comp (.call .ku [(.nm .aJ),(.nm .bb)]) .bb [.aJ] false (.nm .di) Option.none)]),.pC (.nm .aJ) .dg .add (.int 1),.ex (.app (.ss (.nm .aJ) .dh) (.list [(.ss (.nm .aJ) .dg),(.nm .di),(.int 0)])),.ex (.call .vA [(.nm .aJ)]),.ex (.app (.ss (.nm .aJ) .eX) (.tup [(.int 4),(.ss (.nm .aJ) .dg)])),.ex (.app (.ss (.nm .aJ) .fh) (.tup [(.int 4),(.ba (.nm .aP) .bM)])),.ret (.and [(.eq false (.ba (.nm .aP) .bM) (.sub (.ss (.nm .aJ) .eH) (.ss (.nm .aJ) .dg))),(.eq false (.ba (.nm .aP) .jz) (.ss (.nm .aJ) .dg))])]
noncomputable def Be:List Sm:=[.iff (.or [(.cmp .lt (.nm .bx) (.int 16)),(.cmp .ge (.bin .sub (.nm .bx) (.int 16)) (.len (.ss (.nm .aJ) .cT)))]) [.ret .none] [],.at2 [.bW,.jy] (.sub (.ss (.nm .aJ) .cT) (.bin .sub (.nm .bx) (.int 16))),.iff (.or [(.cmp .lt (.nm .jy) (.int 2)),(.cmp .ge (.bin .sub (.nm .jy) (.int 2)) (.len (.sub (.nm .bW) (.int 1))))]) [.ret .none] [],.ret (.tup [(.nm .bW),(.bin .sub (.nm .jy) (.int 2))])]
noncomputable def Bf:List Sm:=[.fo [.yz] false (.nm .cX) [.iff (.or [(.cc false (.nm .bb)),(.eq true (.sub (.nm .bb) (.int 0)) (.int 5)),(.lD true (.nm .yz))]) [.as .bb .none] [.as .bb (.sub (.sub (.nm .bb) (.int 2)) (.nm .yz))]],.ret (.nm .bb)]
noncomputable def tI:List Sm:=[.iff (.eq false (.len (.nm .cX)) (.int 0)) [.ret (.nm .fj)] [],.as .sr (.list [(.sub (.sub (.nm .bb) (.int 2)) (.int 0)),(.sub (.sub (.nm .bb) (.int 2)) (.int 1))]),.dU (.nm .sr) (.sub (.nm .cX) (.int 0)) (.call .yN [(.sub (.nm .sr) (.sub (.nm .cX) (.int 0))),(.nz (.nm .cX) (.int 1)),(.nm .fj)]),.ret (.tup [(.int 5),(.int 64),(.tup [(.sub (.nm .sr) (.int 0)),(.sub (.nm .sr) (.int 1))])])]
noncomputable def Bg:List Sm:=[.as .aP (.call .qN [(.ss (.nm .aJ) .aF),(.nm .bx)]),.iff (.or [(.cmp .lt (.nm .bx) (.int 16)),(.cmp .ge (.bin .sub (.nm .bx) (.int 16)) (.len (.ss (.nm .aJ) .cT)))]) [.iff (.cc true (.nm .aP)) [.ret (.bool false)] []] [.at2 [.bW,.jy] (.sub (.ss (.nm .aJ) .cT) (.bin .sub (.nm .bx) (.int 16))),.iff (.or [(.cc false (.nm .aP)),(.eq true (.tup [(.ba (.nm .aP) .jz),(.ba (.nm .aP) .bM),(.ba (.nm .aP) .aW)]) (.tup [(.sub (.nm .bW) (.int 0)),(.bin .sub (.nm .bx) (.nm .jy)),(.sub (.nm .bW) (.int 2))]))]) [.ret (.bool false)] []],.as .yA (.call .yE [(.ss (.nm .aJ) .aF),(.nm .bx)]),.as .vo (.call .F4 [(.ss (.nm .aJ) .g7),(.tup [(.int 3),(.nm .bx),(.nm .cX)])]),.as .l8 (.call .yL [(.nm .aJ),(.nm .bx)]),.iff (.cc false (.nm .l8)) [.ret (.and [(.cc false (.nm .yA)),(.cc false (.nm .vo))])] [],.as .bb (.sub (.sub (.sub (.nm .l8) (.int 0)) (.int 1)) (.sub (.nm .l8) (.int 1))),.iff (.eq true (.nm .yA) (.call .ku [(.nm .aJ),(.nm .bb)])) [.ret (.bool false)] [],.as .yu (.call .yM [(.nm .bb),(.nm .cX)]),.iff (.cc false (.nm .yu)) [.ret (.cc false (.nm .vo))] [],.ret (.eq false (.nm .vo) (.call .ku [(.nm .aJ),(.nm .yu)]))]
noncomputable def tJ:List Sm:=[.as .cX (.call .vB [(.nm .bG),(.nm .bz)]),.as .fj (.call .qO [(.nm .bG),(.nm .bz),(.nm .aJ),(.int 0)]),.iff (.eq false (.call .eB [(.nm .bG),(.nm .bz),(.int 2)]) (.int 0)) [.as .jx (.call .F5 [(.ss (.nm .aJ) .g7),(.tup [(.int 3),(.nm .bx),(.nm .cX)]),(.call .ku [(.nm .aJ),(.nm .fj)])])] [.as .jx (.call .yG [(.ss (.nm .aJ) .aF),(.nm .bx),(.nm .cX),(.call .ku [(.nm .aJ),(.nm .fj)])])],.as .l8 (.call .yL [(.nm .aJ),(.nm .bx)]),.iff (.or [(.cc false (.nm .l8)),(.cc false (.call .yM [(.sub (.sub (.sub (.nm .l8) (.int 0)) (.int 1)) (.sub (.nm .l8) (.int 1))),(.nm .cX)]))]) [.ret (.and [(.nC (.nm .jx)),(.not (.nm .jx))])] [],.at2 [.bW,.b9] (.nm .l8),.dU (.sub (.nm .bW) (.int 1)) (.nm .b9) (.call .yN [(.sub (.sub (.nm .bW) (.int 1)) (.nm .b9)),(.nm .cX),(.nm .fj)]),.iff (.and [(.cmp .gt (.sub (.nm .bW) (.int 2)) (.int 0)),(.cmp .gt (.len (.call .nj [(.sub (.sub (.nm .bW) (.int 1)) (.nm .b9))])) (.int 0))]) [.dU (.ss (.nm .aJ) .de) (.bin .fdiv (.nm .bx) (.bin .pow (.int 2) (.ss (.nm .aJ) .fg))) (.int 1)] [],.ret (.and [(.nC (.nm .jx)),(.nm .jx)])]
noncomputable def jn:List Sm:=[.as .eA (.list []),.fo [.bb] false (.ss (.nm .aJ) .eX) [.ag .eA .add (.call .nj [(.nm .bb)])],.as .ig .gh,.fo [.bW] false (.ss (.nm .aJ) .dh) [.dU (.nm .ig) (.sub (.nm .bW) (.int 0)) (.nm .bW),.iff (.cmp .gt (.sub (.nm .bW) (.int 2)) (.nm .aW)) [.fo [.b9] true (.len (.sub (.nm .bW) (.int 1))) [.iff (.fV false (.bin .fdiv (.bin .add (.bin .add (.sub (.ss (.nm .aJ) .eH) (.sub (.nm .bW) (.int 0))) (.int 2)) (.nm .b9)) (.bin .pow (.int 2) (.ss (.nm .aJ) .fg))) (.ss (.nm .aJ) .de)) [.ag .eA .add (.call .nj [(.sub (.sub (.nm .bW) (.int 1)) (.nm .b9))])] []]] []],.as .kn .gh,.wh (.cmp .gt (.len (.nm .eA)) (.int 0)) [.as .bW (.sub (.nm .ig) (.pop (.nm .eA))),.iff (.and [(.cmp .le (.sub (.nm .bW) (.int 2)) (.nm .aW)),(.fV true (.sub (.nm .bW) (.int 0)) (.nm .kn))]) [.dU (.nm .kn) (.sub (.nm .bW) (.int 0)) (.int 1),.fo [.bb] false (.sub (.nm .bW) (.int 1)) [.ag .eA .add (.call .nj [(.nm .bb)])]] []],.as .lB (.len (.ss (.nm .aJ) .dh)),.jG (.nm .aJ) .dh (.comp (.nm .bW) .bW [.aW,.kn] false (.ss (.nm .aJ) .dh) (some (.or [(.cmp .gt (.sub (.nm .bW) (.int 2)) (.nm .aW)),(.fV false (.sub (.nm .bW) (.int 0)) (.nm .kn))]))),.fo [.bW] false (.ss (.nm .aJ) .dh) [.iff (.cmp .le (.sub (.nm .bW) (.int 2)) (.nm .aW)) [.dU (.nm .bW) (.int 2) (.min (.int 2) (.bin .add (.sub (.nm .bW) (.int 2)) (.int 1)))] []],.ex (.call .vA [(.nm .aJ)]),.jG (.nm .aJ) .de .gh,.fo [.bW] false (.ss (.nm .aJ) .dh) [.fo [.b9] true (.len (.sub (.nm .bW) (.int 1))) [.iff (.cmp .gt (.len (.comp (.nm .pe) .pe [.bW,.ig] false (.call .nj [(.sub (.sub (.nm .bW) (.int 1)) (.nm .b9))]) (some (.cmp .lt (.sub (.sub (.nm .ig) (.nm .pe)) (.int 2)) (.sub (.nm .bW) (.int 2)))))) (.int 0)) [.dU (.ss (.nm .aJ) .de) (.bin .fdiv (.bin .add (.bin .add (.sub (.ss (.nm .aJ) .eH) (.sub (.nm .bW) (.int 0))) (.int 2)) (.nm .b9)) (.bin .pow (.int 2) (.ss (.nm .aJ) .fg))) (.int 1)] []]],.as .jx (.call .FZ [(.ss (.nm .aJ) .aF),(.list [(.ss (.nm .aJ) .fh)]),.none,(.nm .aW)]),.ret (.and [(.eq false (.nm .jx) (.bin .sub (.nm .lB) (.len (.ss (.nm .aJ) .dh)))),(.eq false (.ss (.nm .aJ) .fh) (.comp (.call .ku [(.nm .aJ),(.nm .bb)]) .bb [.aJ] false (.ss (.nm .aJ) .eX) Option.none))])]
noncomputable def Bh:List Sm:=[.as .aF (.ss (.nm .aJ) .aF),.iff (.or [(.eq true (.ba (.nm .aF) .eY) (.bin .add (.int 16) (.len (.ss (.nm .aJ) .cT)))),(.eq true (.ba (.nm .aF) .de) (.ss (.nm .aJ) .de)),(.eq true (.len (.ba (.nm .aF) .fk)) (.len (.ss (.nm .aJ) .dh)))]) [.ret (.bool false)] [],.fo [.ez] true (.len (.ss (.nm .aJ) .dh)) [.at2 [.yw,.di,.aW] (.sub (.ss (.nm .aJ) .dh) (.nm .ez)),.as .aP (.sub (.ba (.nm .aF) .fk) (.nm .ez)),.iff (.eq true (.tup [(.ba (.nm .aP) .jz),(.ba (.nm .aP) .bM),(.ba (.nm .aP) .aW)]) (.tup [(.nm .yw),(.sub (.ss (.nm .aJ) .eH) (.nm .yw)),(.nm .aW)])) [.ret (.bool false)] [],.iff (.eq true (.ba (.nm .aP) .di) (.comp (.call .ku [(.nm .aJ),(.nm .bb)]) .bb [.aJ] false (.nm .di) Option.none)) [.ret (.bool false)] []],.ret (.bool true)]
noncomputable def Bi:List Sm:=[.as .dJ (.len (.ss (.nm .aJ) .eX)),.as .o9 (.call .eB [(.nm .bG),(.nm .bz),(.nm .dJ)]),.as .vp (.bin .mod (.bin .add (.bin .add (.nm .o9) (.int 1)) (.call .eB [(.nm .bG),(.nm .bz),(.nm .dJ)])) (.nm .dJ)),.as .km (.eq false (.call .eB [(.nm .bG),(.nm .bz),(.int 8)]) (.int 7)),.fo [.ez] true (.nm .dJ) [.iff (.or [(.nm .km),(.eq false (.nm .ez) (.nm .o9)),(.eq false (.nm .ez) (.nm .vp))]) [.dU (.ss (.nm .aJ) .eX) (.nm .ez) (.tup [(.int 1),(.int 9)]),.dU (.ss (.nm .aJ) .fh) (.nm .ez) (.tup [(.int 1),(.int 9)])] []]]
noncomputable def wy:List Sm:=[.iff (.and [(.eq false (.call .eB [(.nm .bG),(.nm .bz),(.int 3)]) (.int 2)),(.not (.call .sB [(.nm .bG),(.nm .bz),(.nm .aJ)]))]) [.ret (.bool false)] [],.fo [.MW] true (.int 2) [.as .bx (.bin .add (.int 14) (.call .eB [(.nm .bG),(.nm .bz),(.bin .add (.len (.ss (.nm .aJ) .cT)) (.int 5))])),.ex (.app (.nm .eW) (.tup [(.nm .bx),(.call .vB [(.nm .bG),(.nm .bz)])])),.iff (.not (.call .sC [(.nm .aJ),(.nm .bx),(.sub (.sub (.nm .eW) (.neg 1)) (.int 1))])) [.ret (.bool false)] []],.at2 [.bx,.cX] (.sub (.nm .eW) (.call .eB [(.nm .bG),(.nm .bz),(.len (.nm .eW))])),.iff (.not (.call .yO [(.nm .bG),(.nm .bz),(.nm .aJ),(.nm .bx)])) [.ret (.bool false)] [],.at2 [.bx,.cX] (.sub (.nm .eW) (.call .eB [(.nm .bG),(.nm .bz),(.len (.nm .eW))])),.iff (.and [(.eq false (.call .eB [(.nm .bG),(.nm .bz),(.int 3)]) (.int 1)),(.kB .le .lt (.int 16) (.nm .bx) (.bin .add (.int 16) (.len (.ss (.nm .aJ) .cT))))]) [.at2 [.bW,.jy] (.sub (.ss (.nm .aJ) .cT) (.bin .sub (.nm .bx) (.int 16))),.ex (.app (.ss (.nm .aJ) .eX) (.tup [(.int 6),(.sub (.nm .bW) (.int 0)),(.nm .jy),(.nm .cX)])),.ex (.app (.ss (.nm .aJ) .fh) (.tup [(.int 6),(.tup [(.int 3),(.nm .bx),(.nm .cX)])]))] [],.ex (.call .yR [(.nm .bG),(.nm .bz),(.nm .aJ)]),.iff (.not (.call .yP [(.nm .aJ),(.sub (.tup [(.int 2),(.int 0),(.int 2),(.int 1)]) (.call .eB [(.nm .bG),(.nm .bz),(.int 4)]))])) [.ret (.bool false)] [],.iff (.and [(.eq false (.call .eB [(.nm .bG),(.nm .bz),(.int 2)]) (.int 1)),(.not (.call .sB [(.nm .bG),(.nm .bz),(.nm .aJ)]))]) [.ret (.bool false)] [],.fo [.bx,.cX] false (.nm .eW) [.iff (.not (.call .sC [(.nm .aJ),(.nm .bx),(.nm .cX)])) [.ret (.bool false)] []],.ret (.bool true)]
noncomputable def iC:List Sm:=[.as .ed (.slt (.nm .ed) (.int 40)),.as .bG (.comp (.bin .mod (.nm .pe) (.int 999983)) .pe [] false (.nm .ed) Option.none),.as .eI (.len (.nm .bG)),.iff (.eq false (.nm .eI) (.int 0)) [.as .bG (.list [(.int 1),(.int 0),(.int 2),(.int 0),(.int 4),(.int 0),(.int 1),(.int 3),(.int 0),(.int 2),(.int 0),(.int 0),(.int 1),(.int 2),(.int 0),(.int 2),(.int 0),(.int 0),(.int 0),(.int 8),(.int 0),(.int 16),(.int 0),(.int 1),(.int 0),(.int 0),(.int 0),(.int 0),(.int 0),(.int 0),(.int 0),(.int 0),(.int 0),(.int 1),(.int 3),(.int 0),(.int 0),(.int 0),(.int 0),(.int 10),(.int 0),(.int 5),(.int 5),(.int 0),(.int 0),(.int 3),(.int 3),(.int 1),(.int 0),(.int 1),(.int 2),(.int 1),(.int 0),(.int 1),(.int 0)])] [],.as .bz (.list [(.int 0)]),.as .aJ (.bl [(.fg,(.call .eB [(.nm .bG),(.nm .bz),(.int 4)])),(.dh,(.list [])),(.eX,(.list [])),(.fh,(.list [])),(.de,.gh),(.dJ,(.int 0)),(.dg,(.int 0))]),.jG (.nm .aJ) .aF (.new .dR [(.int 4000),(.ss (.nm .aJ) .fg)]),.jG (.nm .aJ) .g7 (.new .fS [(.ss (.nm .aJ) .aF),.gh,.gh]),.ex (.call .vA [(.nm .aJ)]),.fo [.ez] true (.bin .add (.int 4) (.call .eB [(.nm .bG),(.nm .bz),(.int 3)])) [.iff (.not (.call .sB [(.nm .bG),(.nm .bz),(.nm .aJ)])) [.ret (.bool false)] []],.as .eW (.list []),.fo [.Fq] true (.ite (.cmp .lt (.nm .eI) (.int 10)) (.int 2) (.bin .add (.int 3) (.call .eB [(.nm .bG),(.nm .bz),(.int 2)]))) [.iff (.not (.call .yS [(.nm .bG),(.nm .bz),(.nm .aJ),(.nm .eW)])) [.ret (.bool false)] []],.ret (.call .yQ [(.nm .aJ)])]
noncomputable def Bj:List Sm:=[.aa (.nm .cY) .bM (.nm .bM),.aa (.nm .cY) .ly (.nm .ly),.aa (.nm .cY) .di (.nm .di),.aa (.nm .cY) .aW (.int 0),.aa (.nm .cY) .eI (.call .Fu [(.len (.nm .di))]),.aa (.nm .cY) .jz (.int 0)]
noncomputable def Bk:List Sm:=[.aa (.nm .cY) .fk (.list []),.aa (.nm .cY) .bz .gh,.aa (.nm .cY) .eY (.gi .vh 16),.aa (.nm .cY) .lz (.nm .lz),.aa (.nm .cY) .de .gh,.aa (.nm .cY) .o7 (.nm .o7),.aa (.nm .cY) .fj (.int 0),.aa (.nm .cY) .vq (.bin .add (.bin .fdiv (.nm .lz) (.int 4)) (.int 1)),.aa (.nm .cY) .l6 (.list []),.aa (.nm .cY) .pf (.list []),.aa (.nm .cY) .qJ (.int 0),.aa (.nm .cY) .dg (.int 0)]
noncomputable def Bl:List Sm:=[.aa (.nm .cY) .aF (.nm .aF),.aa (.nm .cY) .cB (.nm .cB)]
noncomputable def Bm:List Sm:=[.ret (.call .FN [(.ba (.nm .cY) .aF),(.ba (.nm .cY) .cB),(.nm .bx)])]
noncomputable def Bn:List Sm:=[.aa (.nm .cY) .aF (.nm .aF),.aa (.nm .cY) .lx (.nm .lx),.aa (.nm .cY) .lA (.nm .lA)]
noncomputable def Q0:List (List Sm):=[Ap,Aq,Ar,As,At,Au,Av,Aw,Ax,Ay,Az,AA,AB,AC,tE,AD,AE,AF,AG,AI,AJ,tF,AK,AL,AM,AN,AP,AQ,AR,[],[],[],[],AS,AT,AU,AW,AX,AY,AZ,A0,A1,A2,A3,A4,A5,A6,A7,A8,[],[],A9,Ba,Bb,tG,Bc,mC,mD,pZ,Bd,tH,Be,Bf,tI,Bg,tJ,jn,Bh,Bi,wy,iC,Bj,Bk,Bl,Bm,Bn]
noncomputable def u8 (f:Fn):List Sm:=(Q0[f.k]?).getD []
noncomputable def Bo:List Nm:=[.bb,.cX]
noncomputable def Bp:List Nm:=[.bb,.cX,.qK]
noncomputable def Bq:List Nm:=[.bb]
noncomputable def Br:List Nm:=[.bb,.ni,.cT]
noncomputable def Bs:List Nm:=[.bb,.ni,.cT]
noncomputable def Bt:List Nm:=[.bb,.ni,.cT]
noncomputable def Bu:List Nm:=[.dJ]
noncomputable def Bv:List Nm:=[.aF,.ly,.di]
noncomputable def Bw:List Nm:=[.aF]
noncomputable def Bx:List Nm:=[.aF,.aW]
noncomputable def By:List Nm:=[.aF,.bx]
noncomputable def Bz:List Nm:=[.aP,.b9]
noncomputable def BA:List Nm:=[.aP,.bx]
noncomputable def BB:List Nm:=[.aF,.bx]
noncomputable def tK:List Nm:=[.bb]
noncomputable def BC:List Nm:=[.aF,.bx]
noncomputable def BD:List Nm:=[.aF,.aP,.b9,.bb]
noncomputable def BE:List Nm:=[.aF,.bx,.cX,.bb]
noncomputable def BF:List Nm:=[.bb]
noncomputable def BG:List Nm:=[.aF,.bx,.aW,.dA,.f8]
noncomputable def BH:List Nm:=[.aF,.bb,.aW,.dA,.f8]
noncomputable def tL:List Nm:=[.aF,.f8,.aW,.dA]
noncomputable def BI:List Nm:=[.aF,.aW]
noncomputable def BJ:List Nm:=[.aF,.f7,.aW]
noncomputable def BK:List Nm:=[.aF,.dA,.eH,.aW]
noncomputable def BL:List Nm:=[.aF,.bx]
noncomputable def BM:List Nm:=[.aF,.aP,.bb]
noncomputable def BN:List Nm:=[.aF]
noncomputable def BO:List Nm:=[.aF]
noncomputable def BP:List Nm:=[.aF,.dA,.aW]
noncomputable def BQ:List Nm:=[.aF,.aW]
noncomputable def BR:List Nm:=[.aF,.dA,.aW]
noncomputable def BS:List Nm:=[.aF,.cB,.bx]
noncomputable def BU:List Nm:=[.aP,.cB,.aW]
noncomputable def BV:List Nm:=[.ii,.cB,.cT]
noncomputable def BW:List Nm:=[.f7,.cB,.cT]
noncomputable def BX:List Nm:=[.f7,.fj]
noncomputable def BY:List Nm:=[.eH,.cB]
noncomputable def BZ:List Nm:=[.aF,.aP,.cB,.aW]
noncomputable def B0:List Nm:=[.aF,.cB,.aW]
noncomputable def B1:List Nm:=[.aF,.f7,.cB,.aW]
noncomputable def B2:List Nm:=[.aF,.f7,.jc]
noncomputable def B3:List Nm:=[.aF,.f7,.jc,.aW]
noncomputable def B4:List Nm:=[.aF,.f7,.jc,.aW]
noncomputable def B5:List Nm:=[.cC]
noncomputable def B6:List Nm:=[.g7,.cC]
noncomputable def B7:List Nm:=[.g7,.cC]
noncomputable def B8:List Nm:=[.g7,.cC,.bb]
noncomputable def tM:List Nm:=[.bG,.bz,.pe]
noncomputable def B9:List Nm:=[.aJ]
noncomputable def mF:List Nm:=[.aJ,.bb]
noncomputable def mG:List Nm:=[.bb]
noncomputable def tN:List Nm:=[.bG,.bz,.aJ,.Fp]
noncomputable def Ca:List Nm:=[.bG,.bz]
noncomputable def Cb:List Nm:=[.bG,.bz,.aJ]
noncomputable def Cc:List Nm:=[.aJ,.bx]
noncomputable def Cd:List Nm:=[.bb,.cX]
noncomputable def tO:List Nm:=[.bb,.cX,.fj]
noncomputable def Ce:List Nm:=[.aJ,.bx,.cX]
noncomputable def Cf:List Nm:=[.bG,.bz,.aJ,.bx]
noncomputable def Im:List Nm:=[.aJ,.aW]
noncomputable def Cg:List Nm:=[.aJ]
noncomputable def Ch:List Nm:=[.bG,.bz,.aJ]
noncomputable def wz:List Nm:=[.bG,.bz,.aJ,.eW]
noncomputable def Q1:List Nm:=[.ed]
noncomputable def Ci:List Nm:=[.cY,.bM,.ly,.di]
noncomputable def Cj:List Nm:=[.cY,.lz,.o7]
noncomputable def Ck:List Nm:=[.cY,.aF,.cB]
noncomputable def Cm:List Nm:=[.cY,.bx]
noncomputable def Cn:List Nm:=[.cY,.aF,.lx,.lA]
noncomputable def Q2:List (List Nm):=[Bo,Bp,Bq,Br,Bs,Bt,Bu,Bv,Bw,Bx,By,Bz,BA,BB,tK,BC,BD,BE,BF,BG,BH,tL,BI,BJ,BK,BL,BM,BN,BO,[],[],[],[],BP,BQ,BR,BS,BU,BV,BW,BX,BY,BZ,B0,B1,B2,B3,B4,B5,[],[],B6,B7,B8,tM,B9,mF,mG,tN,Ca,Cb,Cc,Cd,tO,Ce,Cf,Im,Cg,Ch,wz,Q1,Ci,Cj,Ck,Cm,Cn]
noncomputable def p4 (f:Fn):List Nm:=(Q2[f.k]?).getD []
noncomputable def rD (f:Fn):Bool:=Nat.blt f.k 76&&!([29,30,31,32,49,50]:List Nat).elem f.k
noncomputable def Good (C:Cx):Prop:=∀ f,rD f=true->nX C.K (C.fa f) (p4 f) (u8 f)=true
section
variable {C:Cx} {n m:Nat} {f:Fn} {σ:AH} {Q:AV->AH->Prop} {args:List AV}
theorem FW.up (h:FW C n f args Q σ) (hm:n<=m):FW C m f args Q σ:=⟨fun A ι s vs hR S hv=>h.go A ι s vs (hR.le hm) S hv⟩
theorem Q3 (G:Good C) (hl:rD f=true) (ha:args.length=(p4 f).length) (h:ax C n (u8 f) (fun Y V=>Q .none V) Q (lI (p4 f) args) σ):FW C (n+1) f args Q σ :=
 QX (G f hl) ha h
theorem bo (G:Good C) {b:List Sm} {ps:List Nm} (hb:u8 f=b) (hp:p4 f=ps) (hl:rD f=true) (ha:args.length=ps.length) (h:ax C n b (fun Y V=>Q .none V) Q (lI ps args) σ):FW C (n+1) f args Q σ:=by
 subst hb;subst hp
 exact Q3 G hl ha h
end
theorem Io {ρ:Loc} {x:Nm} {v:AV}:co ρ x v x=some v:=by simp [kG]
theorem n0 {ρ:Loc} {x y:Nm} {v:AV} (h:y≠x):co ρ x v y=ρ y:=by simp [kG,h]
section
variable {σ:AH} {r r':Nat} {o o':AO}
theorem gs (h:σ[r]?=some o):(σ.set r o')[r]?=some o':=List.getElem?_set_self (List.getElem?_eq_some_iff.mp h).1
theorem gn (h:r≠r'):(σ.set r o')[r']?=σ[r']?:=List.getElem?_set_ne h
theorem ga (h:σ[r]?=some o):(σ++[o'])[r]?=some o:=by
 refine U (List.getElem?_append_left (List.getElem?_eq_some_iff.mp h).1 ..) ?_;exact h
theorem gl:(σ++[o'])[σ.length]?=some o':=by simp
theorem Co (h:σ[r]?=some o) (h':σ[r']?=some o') (bu:o≠o'):r≠r':=by
 rintro rfl;rw [h] at h';exact bu (Option.some.inj h')
theorem jN (h:σ[r]?=some o):r<σ.length:=(List.getElem?_eq_some_iff.mp h).1
end
noncomputable abbrev eO (addr kind:Int) (slots:Nat) (gen size af:Int):AO :=
 .inst .gB [(.bM,.int addr),(.ly,.int kind),(.di,.ref slots),(.aW,.int gen),(.eI,.int size),(.jz,.int af)]
noncomputable abbrev wA (things at_:Nat) (top limit:Int) (cards:Nat) (Q4 fresh young:Int) (fZ ready:Nat) (moved made:Int):AO :=
 .inst .dR [(.fk,.ref things),(.bz,.ref at_),(.eY,.int top),(.lz,.int limit),(.de,.ref cards),(.o7,.int Q4),(.fj,.int fresh),(.vq,.int young),(.l6,.ref fZ),(.pf,.ref ready),(.qJ,.int moved),(.dg,.int made)]
structure Ev (ρ:Loc) (σ:AH) (e:Ex) (v:AV):Prop where
 go:∀ (C:Cx) (n:Nat) (Q:AV->AH->Prop),Q v σ->aD C n e Q ρ σ
structure lJ (ρ:Loc) (σ:AH) (es:List Ex) (vs:List AV):Prop where
 go:∀ (C:Cx) (n:Nat) (Q:List AV->AH->Prop),Q vs σ->fF C n es Q ρ σ
structure Ec (ρ:Loc) (σ:AH) (c:Ex) (b:Bool):Prop where
 go:∀ (C:Cx) (n:Nat) (K:Bool->AH->Prop),K b σ->cN C n c K ρ σ
noncomputable def Q5:AV->Bool
 | .none=>true
 | _=>false
inductive NB:Bool->Bool->Prop
 | t:NB true false
 | f:NB false true
theorem NB.eq {s t:Bool} (h:NB s t):s=!t:=by cases h <;> rfl
structure tP (x:Int) (t:Bool):Prop where
 h:(x==0||x==1)=t
theorem YA:tP 0 true:=⟨rfl⟩
theorem YB:tP 1 true:=⟨rfl⟩
theorem YC {x:Int} (h:¬ x=0) (h':¬ x=1):tP x false:=⟨by refine U (beq_eq_false_iff_ne.mpr h ..) (U (beq_eq_false_iff_ne.mpr h' ..) ?_);rfl⟩
structure NA (v:AV) (t:Bool):Prop where
 h:Q5 v=t
theorem YD:NA .none true:=⟨rfl⟩
theorem YE {l:List AV}:NA (.tup l) false:=⟨rfl⟩
theorem YF {r:Nat}:NA (.ref r) false:=⟨rfl⟩
theorem YG {i:Int}:NA (.int i) false:=⟨rfl⟩
theorem YH {b:Bool}:NA (.bool b) false:=⟨rfl⟩
section
variable {σ:AH} {r i k:Nat} {c:Cl} {l:List AV} {fs:List (Nm × AV)} {ds:List (Int × AV)} {f:Nm} {v:AV} {x y:Int} {α:Type} {g:α->AV} {as:List α} {z:α}
theorem lK (h:σ[r]?=some (.inst c fs)) (e:fT fs f=some v):gD σ (.ref r) f=some v:=by (delta gD;dsimp only;refine U h ?_;exact e)
theorem Ip (h:σ[r]?=some (.bl fs)) (e:fT fs f=some v):gR σ (.ref r) f=some v:=by (delta gR;dsimp only;refine U h ?_;exact e)
theorem Q6 (h:σ[r]?=some (.list l)) (h0:0<=x) (e:l[x.toNat]?=some v):gC σ (.ref r) (.int x)=some v:=by (delta gC vM;dsimp only;refine U h ?_;dsimp only;refine U (if_pos h0) ?_;exact e)
theorem YI (h:σ[r]?=some (.list (as.map g))) (h0:0<=x) (e:as[x.toNat]?=some z) (hv:g z=v):gC σ (.ref r) (.int x)=some v:=Q6 h h0 (by refine U List.getElem?_map (U e (aT hv ?_));rfl)
theorem YJ (h:σ[r]?=some (.list l)) (e:l.getLast?=some v):gC σ (.ref r) (.int (-1))=some v:=by
 (delta gC vM;dsimp only;refine U h ?_;exact e)
theorem Q7 (h0:0<=x) (e:l[x.toNat]?=some v):gC σ (.tup l) (.int x)=some v:=by (delta gC;dsimp only;refine U (if_pos h0) ?_;exact e)
theorem Q8 (h0:0<=x) (e:as[x.toNat]?=some z) (hv:g z=v):gC σ (.tup (as.map g)) (.int x)=some v:=Q7 h0 (by refine U List.getElem?_map (U e (aT hv ?_));rfl)
theorem YK (h:σ[r]?=some (.an ds)) (e:bL ds x=some v):gC σ (.ref r) (.int x)=some v:=by (delta gC;dsimp only;refine U h ?_;exact e)
theorem YL (h:σ[r]?=some (.list l)):jF σ (.ref r)=some (l.length:Int):=by (delta jF;dsimp only;exact U h rfl)
theorem YM (h:σ[r]?=some (.list (as.map g))):jF σ (.ref r)=some (as.length:Int):=by (delta jF;simp only [h,List.length_map])
theorem YN:jF σ (.tup l)=some (l.length:Int):=rfl
theorem YO:jF σ (.tup (as.map g))=some (as.length:Int):=by (delta jF;simp only [List.length_map])
theorem jO {r':Nat} {o o':AO} (hn:r≠r') (h:σ[r']?=some o):(σ.set r o')[r']?=some o:=(gn hn).trans h
theorem wB {p:Prop} [Decidable p] (h:p):decide p=true:=decide_eq_true h
theorem wC {p:Prop} [Decidable p] (h:¬ p):decide p=false:=decide_eq_false h
end
section
variable {ρ:Loc} {σ:AH} {e e' lL:Ex} {es:List Ex} {u v w:AV} {vs:List AV} {x y:Int} {f:Nm} {b t:Bool} {r:Nat}
theorem YQ:Ev ρ σ .none .none:=⟨fun Y Y Y q=>q⟩
theorem YR:Ev ρ σ (.bool b) (.bool b):=⟨fun Y Y Y q=>q⟩
theorem wD:Ev ρ σ (.int x) (.int x):=⟨fun Y Y Y q=>q⟩
theorem YS:Ev ρ σ (.neg x) (.int (-x)):=⟨fun Y Y Y q=>q⟩
theorem YT:Ev ρ σ (.gi f x) (.int x):=⟨fun Y Y Y q=>q⟩
theorem Cp (h:ρ f=some v):Ev ρ σ (.nm f) v:=⟨fun Y Y Y q=>by show (match ρ f with | some v=>_ | Option.none=>False);refine U h ?_;exact q⟩
theorem YU (a:Ev ρ σ e u) (h:gD σ u f=some v):Ev ρ σ (.ba e f) v:=⟨fun Y Y Y q=>by refine a.go _ _ _ ?_;refine U h ?_;exact q⟩
theorem YV (a:Ev ρ σ e u) (h:gR σ u f=some v):Ev ρ σ (.ss e f) v:=⟨fun Y Y Y q=>by refine a.go _ _ _ ?_;refine U h ?_;exact q⟩
theorem v_sub (a:Ev ρ σ e u) (b:Ev ρ σ e' w) (h:gC σ u w=some v):Ev ρ σ (.sub e e') v:=⟨fun Y Y Y q=>by refine a.go _ _ _ (b.go _ _ _ ?_);refine U h ?_;exact q⟩
theorem YW (a:Ev ρ σ e u) (h:jF σ u=some x):Ev ρ σ (.len e) (.int x):=⟨fun Y Y Y q=>by refine a.go _ _ _ ?_;refine U h ?_;exact q⟩
theorem YX {l:List AV} (a:Ev ρ σ e (.tup l)) (b:Ev ρ σ e' (.int x)) (h:1<=x) (h':x<=l.length):Ev ρ σ (.nz e e') (.tup (l.drop x.toNat)):=⟨fun Y Y Y q=>a.go _ _ _ (b.go _ _ _ ⟨h,h',q⟩)⟩
theorem YY {l:List AV} (a:Ev ρ σ e (.tup l)) (b:Ev ρ σ e' (.int x)) (h:0<=x) (h':x<l.length):Ev ρ σ (.slt e e') (.tup (l.take x.toNat)):=⟨fun Y Y Y q=>a.go _ _ _ (b.go _ _ _ ⟨h,h',q⟩)⟩
theorem n3 {op:fE} (a:Ev ρ σ e u) (b:Ev ρ σ e' w) (h:∀ Q:AV->AH->Prop,Q v σ->iO op u w σ Q):Ev ρ σ (.bin op e e') v:=⟨fun Y Y Y q=>a.go _ _ _ (b.go _ _ _ (h _ q))⟩
theorem Q9 {Q:AV->AH->Prop} (q:Q (.int (x+y)) σ):iO .add (.int x) (.int y) σ Q:=q
theorem Ra {Q:AV->AH->Prop} (q:Q (.int (x - y)) σ):iO .sub (.int x) (.int y) σ Q:=q
theorem Rd (h:(-(2 ^ 64)<x/\x<2 ^ 64)∨(-(2 ^ 64)<y/\y<2 ^ 64)) {Q:AV->AH->Prop} (q:Q (.int (x*y)) σ):iO .mul (.int x) (.int y) σ Q:=⟨h,q⟩
theorem Re (h:0<y) (h':y<2 ^ 64) {Q:AV->AH->Prop} (q:Q (.int (x / y)) σ):iO .fdiv (.int x) (.int y) σ Q:=⟨h,h',q⟩
theorem Rf (h:0<y) {Q:AV->AH->Prop} (q:Q (.int (x % y)) σ):iO .mod (.int x) (.int y) σ Q:=⟨h,q⟩
theorem Rg (h:0<=y) {Q:AV->AH->Prop} (q:Q (.int (x / 2 ^ y.toNat)) σ):iO .shr (.int x) (.int y) σ Q:=⟨h,q⟩
theorem Rh (h:0<=y) (h':y<=1000) {Q:AV->AH->Prop} (q:Q (.int (2 ^ y.toNat)) σ):iO .pow (.int 2) (.int y) σ Q:=⟨rfl,h,h',q⟩
theorem Ri {l m:List AV} (h:l.length+m.length<=1000000) {Q:AV->AH->Prop} (q:Q (.tup (l++m)) σ):iO .add (.tup l) (.tup m) σ Q:=⟨h,q⟩
theorem Rj {i j:Nat} {l m:List AV} (h1:σ[i]?=some (.list l)) (h2:σ[j]?=some (.list m)) (h:l.length+m.length<=1000000) {Q:AV->AH->Prop} (q:Q (.ref σ.length) (σ++[.list (l++m)])):iO .add (.ref i) (.ref j) σ Q:=by
 conv=>whnf
 refine U h1 (U h2 ?_);exact ⟨h,q⟩
theorem v_add (a:Ev ρ σ e (.int x)) (b:Ev ρ σ e' (.int y)):Ev ρ σ (.bin .add e e') (.int (x+y)):=n3 a b fun Y q=>Q9 q
theorem YZ (a:Ev ρ σ e (.int x)) (b:Ev ρ σ e' (.int y)):Ev ρ σ (.bin .sub e e') (.int (x - y)):=n3 a b fun Y q=>Ra q
theorem Y0 (a:Ev ρ σ e (.int x)) (b:Ev ρ σ e' (.int y)) (h:0<y) (h':y<2 ^ 64):Ev ρ σ (.bin .fdiv e e') (.int (x / y)):=n3 a b fun Y q=>Re h h' q
theorem v_mod (a:Ev ρ σ e (.int x)) (b:Ev ρ σ e' (.int y)) (h:0<y):Ev ρ σ (.bin .mod e e') (.int (x % y)):=n3 a b fun Y q=>Rf h q
theorem v_shr (a:Ev ρ σ e (.int x)) (b:Ev ρ σ e' (.int y)) (h:0<=y):Ev ρ σ (.bin .shr e e') (.int (x / 2 ^ y.toNat)):=n3 a b fun Y q=>Rg h q
theorem v_pow (b:Ev ρ σ e' (.int y)) (h:0<=y) (h':y<=1000):Ev ρ σ (.bin .pow (.int 2) e') (.int (2 ^ y.toNat)):=n3 wD b fun Y q=>Rh h h' q
theorem v_mul (a:Ev ρ σ e (.int x)) (b:Ev ρ σ e' (.int y)) (h:(-(2 ^ 64)<x/\x<2 ^ 64)∨(-(2 ^ 64)<y/\y<2 ^ 64)):Ev ρ σ (.bin .mul e e') (.int (x*y)):=n3 a b fun Y q=>Rd h q
theorem Y1 {l m:List AV} (a:Ev ρ σ e (.tup l)) (b:Ev ρ σ e' (.tup m)) (h:l.length+m.length<=1000000):Ev ρ σ (.bin .add e e') (.tup (l++m)):=n3 a b fun Y q=>Ri h q
theorem Y3 {op:eJ} (a:Ev ρ σ e (.int x)) (b:Ev ρ σ e' (.int y)) (h:op.rel x y=t):Ev ρ σ (.cmp op e e') (.bool t):=⟨fun Y Y Y q=>by refine a.go _ _ _ (b.go _ _ _ ?_);subst h;exact q⟩
theorem v_eq (a:Ev ρ σ e u) (b:Ev ρ σ e' w) (h:∀ K:Bool->Prop,K t->eK u w σ K):Ev ρ σ (.eq false e e') (.bool t):=⟨fun Y Y Y q=>a.go _ _ _ (b.go _ _ _ (h _ q))⟩
theorem Y4 {s:Bool} (a:Ev ρ σ e u) (b:Ev ρ σ e' w) (h:∀ K:Bool->Prop,K s->eK u w σ K) (hn:NB s t):Ev ρ σ (.eq true e e') (.bool t):=⟨fun Y Y Y q=>a.go _ _ _ (b.go _ _ _ (h _ (by cases hn <;> exact q)))⟩
theorem Cq {K:Bool->Prop} (q:K (x==y)):eK (.int x) (.int y) σ K:=q
theorem Rk {K:Bool->Prop} (h:x=y) (q:K true):eK (.int x) (.int y) σ K:=Cq (by refine U (beq_iff_eq.mpr h ..) ?_;exact q)
theorem Rl {K:Bool->Prop} (h:¬ x=y) (q:K false):eK (.int x) (.int y) σ K:=Cq (by refine U (beq_eq_false_iff_ne.mpr h ..) ?_;exact q)
theorem Y5 (a:Ev ρ σ e v) (h:NA v t):Ev ρ σ (.cc false e) (.bool t):=⟨fun Y Y Y q=>by
 obtain ⟨h⟩:=h;refine a.go _ _ _ ?_;subst h;induction v using AV.casesOn <;> exact q⟩
theorem Y6 {s:Bool} (a:Ev ρ σ e v) (h:NA v s) (hn:NB s t):Ev ρ σ (.cc true e) (.bool t):=⟨fun Y Y Y q=>by
 obtain ⟨h⟩:=h;refine a.go _ _ _ ?_;subst h;induction v using AV.casesOn <;> cases hn <;> exact q⟩
theorem v_not {s:Bool} (a:Ev ρ σ e v) (h:dD v=some s) (hn:NB s t):Ev ρ σ (.not e) (.bool t):=⟨fun Y Y Y q=>by refine a.go _ _ _ ?_;refine U h ?_;cases hn <;> exact q⟩
theorem Y7 (a:Ev ρ σ e v):Ev ρ σ (.and [e]) v:=⟨fun Y Y Y q=>a.go _ _ _ q⟩
theorem Y8 (a:Ev ρ σ e u) (h:dD u=some true) (b:Ev ρ σ (.and (e'::es)) v):Ev ρ σ (.and (e::e'::es)) v:=⟨fun C n Q q=>by
 refine a.go _ _ _ ?_;refine U h ?_;exact b.go C n Q q⟩
theorem Y9 (a:Ev ρ σ e u) (h:dD u=some false):Ev ρ σ (.and (e::e'::es)) u:=⟨fun C n Q q=>by
 refine a.go _ _ _ ?_;refine U h ?_;exact q⟩
theorem Za (a:Ev ρ σ e v):Ev ρ σ (.or [e]) v:=⟨fun Y Y Y q=>a.go _ _ _ q⟩
theorem Zb (a:Ev ρ σ e u) (h:dD u=some false) (b:Ev ρ σ (.or (e'::es)) v):Ev ρ σ (.or (e::e'::es)) v:=⟨fun C n Q q=>by
 refine a.go _ _ _ ?_;refine U h ?_;exact b.go C n Q q⟩
theorem Zd (a:Ev ρ σ e u) (h:dD u=some true):Ev ρ σ (.or (e::e'::es)) u:=⟨fun C n Q q=>by
 refine a.go _ _ _ ?_;refine U h ?_;exact q⟩
theorem Ze {c:Ex} (h:Ec ρ σ c true) (a:Ev ρ σ e v):Ev ρ σ (.ite c e e') v:=⟨fun Y Y Y q=>h.go _ _ _ (a.go _ _ _ q)⟩
theorem Zf {c:Ex} (h:Ec ρ σ c false) (a:Ev ρ σ e' v):Ev ρ σ (.ite c e e') v:=⟨fun Y Y Y q=>h.go _ _ _ (a.go _ _ _ q)⟩
theorem Iq:lJ ρ σ [] []:=⟨fun Y Y Y q=>q⟩
theorem Zg (a:Ev ρ σ e v) (b:lJ ρ σ es vs):lJ ρ σ (e::es) (v::vs):=⟨fun Y Y Y q=>a.go _ _ _ (b.go _ _ _ q)⟩
theorem Zh (a:lJ ρ σ es vs) (h:vs.length<=1000000):Ev ρ σ (.tup es) (.tup vs):=⟨fun Y Y Y q=>a.go _ _ _ ⟨h,q⟩⟩
theorem Zi (a:Ev ρ σ e (.int x)) (b:Ev ρ σ e' (.int y)):Ev ρ σ (.min e e') (.int (if y<x then y else x)):=⟨fun Y Y Y q=>a.go _ _ _ (b.go _ _ _ q)⟩
theorem Zj (a:Ev ρ σ e (.int x)) (b:Ev ρ σ e' (.int y)):Ev ρ σ (.max e e') (.int (if y>x then y else x)):=⟨fun Y Y Y q=>a.go _ _ _ (b.go _ _ _ q)⟩
theorem Zk {l:List AV} (a:Ev ρ σ e (.ref r)) (h:σ[r]?=some (.list l)):Ev ρ σ (.tuple e) (.tup l):=⟨fun Y Y Y q=>by refine a.go _ _ _ ?_;dsimp only;refine U h ?_;exact q⟩
theorem Zl (a:Ev ρ σ e (.bool b)):Ev ρ σ (.nC e) (.bool true):=⟨fun Y Y Y q=>a.go _ _ _ q⟩
theorem Zn {ds:List (Int × AV)} (a:Ev ρ σ e (.int x)) (b:Ev ρ σ e' (.ref r)) (h:σ[r]?=some (.an ds)) (h':(bL ds x).isSome=t):Ev ρ σ (.fV false e e') (.bool t):=⟨fun Y Y Y q=>by
 refine a.go _ _ _ (b.go _ _ _ ?_);dsimp only;refine U h ?_;subst h';exact q⟩
theorem Zo {s:Bool} {ds:List (Int × AV)} (a:Ev ρ σ e (.int x)) (b:Ev ρ σ e' (.ref r)) (h:σ[r]?=some (.an ds)) (h':(bL ds x).isSome=s) (hn:NB s t):Ev ρ σ (.fV true e e') (.bool t):=⟨fun Y Y Y q=>by
 refine a.go _ _ _ (b.go _ _ _ ?_);dsimp only;refine U h ?_;dsimp only;subst h';refine U hn.eq (U (Bool.not_not ..) ?_);exact q⟩
theorem Zp {ds:List (Int × AV)} (a:Ev ρ σ e (.ref r)) (b:Ev ρ σ e' (.int x)) (h:σ[r]?=some (.an ds)) (h':(bL ds x).getD .none=v):Ev ρ σ (.nA e e') v:=⟨fun Y Y Y q=>by
 refine a.go _ _ _ ⟨(aQ _ h),b.go _ _ _ ?_⟩;dsimp only;refine U h ?_;subst h';exact q⟩
theorem Zq {ds:List (Int × AV)} (a:Ev ρ σ e (.ref r)) (b:Ev ρ σ e' (.int x)) (c:Ev ρ σ lL u) (h:σ[r]?=some (.an ds)) (h':(bL ds x).getD u=v):Ev ρ σ (.nB e e' lL) v:=⟨fun Y Y Y q=>by
 refine a.go _ _ _ ⟨(aQ _ h),b.go _ _ _ (c.go _ _ _ ?_)⟩;dsimp only;refine U h ?_;subst h';exact q⟩
theorem Zr (h:ρ f=some v) (h':dD v=some t):Ec ρ σ (.nm f) t:=⟨fun Y Y Y q=>by show (match ρ f with | some v=>(match dD v with | some b=>_ | Option.none=>False) | Option.none=>False);refine U h ?_;dsimp only;refine U h' ?_;exact q⟩
theorem Zt {s:Bool} (a:Ec ρ σ e t) (h:NB t s):Ec ρ σ (.not e) s:=⟨fun Y Y Y q=>a.go _ _ _ (by cases h <;> exact q)⟩
theorem Zu {op:eJ} (a:Ev ρ σ e (.int x)) (b:Ev ρ σ e' (.int y)) (h:op.rel x y=t):Ec ρ σ (.cmp op e e') t:=⟨fun Y Y Y q=>by refine a.go _ _ _ (b.go _ _ _ ?_);subst h;exact q⟩
theorem Zv {o1 o2:eJ} {z:Int} (a:Ev ρ σ e (.int x)) (b:Ev ρ σ e' (.int y)) (h:o1.rel x y=true) (c:Ev ρ σ lL (.int z)) (h':o2.rel y z=t):Ec ρ σ (.kB o1 o2 e e' lL) t:=⟨fun Y Y Y q=>by
 refine a.go _ _ _ (b.go _ _ _ ?_);dsimp only;refine U h ?_;refine c.go _ _ _ ?_;subst h';exact q⟩
theorem Zw {o1 o2:eJ} (a:Ev ρ σ e (.int x)) (b:Ev ρ σ e' (.int y)) (h:o1.rel x y=false):Ec ρ σ (.kB o1 o2 e e' lL) false:=⟨fun Y Y Y q=>by
 refine a.go _ _ _ (b.go _ _ _ ?_);dsimp only;refine U h ?_;exact q⟩
theorem Zx (a:Ev ρ σ e u) (b:Ev ρ σ e' w) (h:∀ K:Bool->Prop,K t->eK u w σ K):Ec ρ σ (.eq false e e') t:=⟨fun Y Y Y q=>a.go _ _ _ (b.go _ _ _ (h _ q))⟩
theorem Zy {s:Bool} (a:Ev ρ σ e u) (b:Ev ρ σ e' w) (h:∀ K:Bool->Prop,K s->eK u w σ K) (hn:NB s t):Ec ρ σ (.eq true e e') t:=⟨fun Y Y K q=>a.go _ _ _ (b.go _ _ _ (h (fun s=>K (!s) σ) (by cases hn <;> exact q)))⟩
theorem ZA (a:Ev ρ σ e v) (h:NA v t):Ec ρ σ (.cc false e) t:=⟨fun Y Y Y q=>by
 obtain ⟨h⟩:=h;refine a.go _ _ _ ?_;subst h;induction v using AV.casesOn <;> exact q⟩
theorem ZB {s:Bool} (a:Ev ρ σ e v) (h:NA v s) (hn:NB s t):Ec ρ σ (.cc true e) t:=⟨fun Y Y Y q=>by
 obtain ⟨h⟩:=h;refine a.go _ _ _ ?_;subst h;induction v using AV.casesOn <;> cases hn <;> exact q⟩
theorem ZC {ds:List (Int × AV)} (a:Ev ρ σ e (.int x)) (b:Ev ρ σ e' (.ref r)) (h:σ[r]?=some (.an ds)) (h':(bL ds x).isSome=t):Ec ρ σ (.fV false e e') t:=⟨fun Y Y Y q=>by
 refine a.go _ _ _ (b.go _ _ _ ?_);dsimp only;refine U h ?_;subst h';exact q⟩
theorem ZD {s:Bool} {ds:List (Int × AV)} (a:Ev ρ σ e (.int x)) (b:Ev ρ σ e' (.ref r)) (h:σ[r]?=some (.an ds)) (h':(bL ds x).isSome=s) (hn:NB s t):Ec ρ σ (.fV true e e') t:=⟨fun Y Y Y q=>by
 refine a.go _ _ _ (b.go _ _ _ ?_);simp only [h,if_true];subst h';refine U hn.eq (U (Bool.not_not ..) ?_);exact q⟩
theorem ZE:Ec ρ σ (.and []) true:=⟨fun Y Y Y q=>q⟩
theorem ZF (a:Ec ρ σ e true) (b:Ec ρ σ (.and es) t):Ec ρ σ (.and (e::es)) t:=⟨fun C n K q=>by
 refine a.go _ _ _ ?_;exact b.go C n K q⟩
theorem ZG (a:Ec ρ σ e false):Ec ρ σ (.and (e::es)) false:=⟨fun Y Y Y q=>a.go _ _ _ q⟩
theorem ZH:Ec ρ σ (.or []) false:=⟨fun Y Y Y q=>q⟩
theorem ZI (a:Ec ρ σ e false) (b:Ec ρ σ (.or es) t):Ec ρ σ (.or (e::es)) t:=⟨fun C n K q=>by
 refine a.go _ _ _ ?_;exact b.go C n K q⟩
theorem ZJ (a:Ec ρ σ e true):Ec ρ σ (.or (e::es)) true:=⟨fun Y Y Y q=>a.go _ _ _ q⟩
theorem ZK (a:Ev ρ σ e (.int x)) (h:tP x t):Ec ρ σ (.lD false e) t:=⟨fun Y Y Y q=>by obtain ⟨h⟩:=h;refine a.go _ _ _ ?_;subst h;exact q⟩
theorem ZL {s:Bool} (a:Ev ρ σ e (.int x)) (h:tP x s) (hn:NB s t):Ec ρ σ (.lD true e) t:=⟨fun Y Y K q=>by
 obtain ⟨h⟩:=h;refine a.go _ _ _ ?_;simp only [if_true];refine U h (U hn.eq (U (Bool.not_not ..) ?_));exact q⟩
end
noncomputable def jP (C:Cx) (n:Nat) (S:List Sm) (N:Loc->AH->Prop) (R:AV->AH->Prop) (ρ:Loc) (f:Nm) (v:AV) (σ:AH):Prop:=ax C n S N R (co ρ f v) σ
noncomputable def wE (C:Cx) (n:Nat) (S:List Sm) (N:Loc->AH->Prop) (R:AV->AH->Prop) (ρ:Loc) (_:AV) (σ:AH):Prop:=ax C n S N R ρ σ
noncomputable def Ir (C:Cx) (n:Nat) (S:List Sm) (N:Loc->AH->Prop) (R:AV->AH->Prop) (ρ:Loc) (xs:List Nm) (v:AV) (σ:AH):Prop:=eN xs v ρ σ fun ae=>ax C n S N R ae σ
noncomputable def tQ (C:Cx) (n:Nat) (A B S:List Sm) (N:Loc->AH->Prop) (R:AV->AH->Prop) (ρ:Loc) (t:Bool) (σ:AH):Prop:=match t with
 | true=>ax C n A (ax C n S N R) R ρ σ
 | false=>ax C n B (ax C n S N R) R ρ σ
noncomputable def rE (K:Bool->AH->Prop) (v:AV) (σ:AH):Prop:=match dD v with
 | some b=>K b σ
 | Option.none=>False
noncomputable def Cr (K:Bool->AH->Prop) (b:Bool) (σ:AH):Prop:=K (!b) σ
noncomputable def Cs (C:Cx) (n:Nat) (es:List Ex) (K:Bool->AH->Prop) (ρ:Loc) (b:Bool) (σ:AH):Prop:=match b with
 | true=>vU C n es K ρ σ
 | false=>K false σ
noncomputable def Ct (C:Cx) (n:Nat) (es:List Ex) (K:Bool->AH->Prop) (ρ:Loc) (b:Bool) (σ:AH):Prop:=match b with
 | true=>K true σ
 | false=>vV C n es K ρ σ
noncomputable def Cu (C:Cx) (n:Nat) (S:List Sm) (N:Loc->AH->Prop) (R:AV->AH->Prop) (ρ:Loc) (o:Ex) (f:Nm) (v:AV) (σ:AH):Prop:=aD C n o (fun u V=>match u with
   | .ref r=>(match V[r]? with
    | some (.inst c l)=>f∈fC c/\ax C n S N R ρ (V.set r (.inst c (bp l f v)))
    | _=>False)
   | _=>False) ρ σ
noncomputable def It (C:Cx) (n:Nat) (S:List Sm) (N:Loc->AH->Prop) (R:AV->AH->Prop) (ρ:Loc) (o:Ex) (f:Nm) (v:AV) (σ:AH):Prop:=aD C n o (fun u V=>match u with
   | .ref r=>(match V[r]? with
    | some (.bl l)=>l.length<1000000/\ax C n S N R ρ (V.set r (.bl (bp l f v)))
    | _=>False)
   | _=>False) ρ σ
noncomputable def wG (C:Cx) (n:Nat) (S:List Sm) (N:Loc->AH->Prop) (R:AV->AH->Prop) (ρ:Loc) (o i:Ex) (v:AV) (σ:AH):Prop:=aD C n o (fun u aH=>aD C n i (fun k V=>match u,k with
   | .ref r,.int k=>(match V[r]? with
    | some (.list l)=>0<=k/\k<l.length/\ax C n S N R ρ (V.set r (.list (l.set k.toNat v)))
    | some (.an l)=>l.length<1000000/\ax C n S N R ρ (V.set r (.an (ee l k v)))
    | _=>False)
   | _,_=>False) ρ aH) ρ σ
noncomputable def wH (C:Cx) (n:Nat) (e':Ex) (t:Bool) (K:Bool->AH->Prop) (ρ:Loc) (u:AV) (σ:AH):Prop:=aD C n e' (fun b ar=>eK u b ar fun s=>K (if t then !s else s) ar) ρ σ
noncomputable def p5 (t:Bool) (K:Bool->AH->Prop) (u w:AV) (σ:AH):Prop:=eK u w σ fun s=>K (if t then !s else s) σ
noncomputable def Cv (C:Cx) (n:Nat) (op:fE) (e':Ex) (Q:AV->AH->Prop) (ρ:Loc) (u:AV) (σ:AH):Prop:=aD C n e' (fun b ar=>iO op u b ar Q) ρ σ
noncomputable def lM (op:fE) (Q:AV->AH->Prop) (u w:AV) (σ:AH):Prop:=iO op u w σ Q
noncomputable def Cw (Q:AV->AH->Prop) (b:Bool) (σ:AH):Prop:=Q (.bool b) σ
section
variable {C:Cx} {n:Nat} {ρ:Loc} {σ:AH} {Q:AV->AH->Prop} {K:Bool->AH->Prop} {N:Loc->AH->Prop} {R:AV->AH->Prop} {e e' o c:Ex} {es:List Ex} {u v w:AV} {vs:List AV} {x y:Int} {f:Nm} {b t:Bool} {r:Nat} {S A B:List Sm}
theorem ZM (h:Ev ρ σ e v) (q:Q v σ):aD C n e Q ρ σ:=h.go _ _ _ q
theorem w_call {g:Fn} (h:lJ ρ σ es vs) (q:FW C n g vs Q σ):aD C n (.call g es) Q ρ σ:=h.go _ _ _ q
theorem Iu (h:lJ ρ σ es vs) (hl:vs.length<=1000000) (q:Q (.ref σ.length) (σ++[.list vs])):aD C n (.list es) Q ρ σ:=h.go _ _ _ ⟨hl,q⟩
theorem Iv (q:Q (.ref σ.length) (σ++[.an []])):aD C n .gh Q ρ σ:=q
theorem ZO {k:Int} (h:Ev ρ σ e v) (q:Q (.ref σ.length) (σ++[.an [(k,v)]])):aD C n (.pB k e) Q ρ σ:=h.go _ _ _ q
theorem ZP {g:Fn} {cl:Cl} {fs:List (Nm × AV)} (h:Ev ρ σ e (.ref r)) (hr:σ[r]?=some (.inst cl fs)) (h':lJ ρ σ es vs) (q:FW C n g (.ref r::vs) Q σ):aD C n (.jA e cl g es) Q ρ σ:=by
 refine h.go _ _ _ ?_;dsimp only;refine U hr ?_;exact ⟨rfl,h'.go _ _ _ q⟩
theorem ZQ {cl:Cl} (h:lJ ρ σ es vs) (q:FW C n (nn cl) (.ref σ.length::vs) (fun r ar=>r=.none/\Q (.ref σ.length) ar) (σ++[.inst cl []])):aD C n (.new cl es) Q ρ σ:=h.go _ _ _ q
theorem ZR {l:List AV} (h:Ev ρ σ e (.ref r)) (hr:σ[r]?=some (.list l)) (h':Ev ρ σ e' v) (hl:l.length<1000000) (q:Q .none (σ.set r (.list (l++[v])))):aD C n (.app e e') Q ρ σ:=by
 refine h.go _ _ _ ⟨(aQ _ hr),h'.go _ _ _ ?_⟩;dsimp only;refine U hr ?_;exact ⟨hl,q⟩
theorem ZS {l:List AV} {a:AV} (h:Ev ρ σ e (.ref r)) (hr:σ[r]?=some (.list (l++[a]))) (q:Q a (σ.set r (.list l))):aD C n (.pop e) Q ρ σ:=by
 refine h.go _ _ _ ?_;dsimp only;refine U hr ?_;exact (jb _ _ rfl q)
theorem Ro (h:Ec ρ σ c b) (q:K b σ):cN C n c K ρ σ:=h.go _ _ _ q
theorem ZT {g:Fn} (h:lJ ρ σ es vs) (q:FW C n g vs (rE K) σ):cN C n (.call g es) K ρ σ:=h.go _ _ _ q
theorem ZU (h:dD v=some b) (q:K b σ):rE K v σ:=by unfold rE;refine U h ?_;exact q
theorem ZV (q:cN C n e (Cr K) ρ σ):cN C n (.not e) K ρ σ:=q
theorem ZW (q:K false σ):Cr K true σ:=q
theorem ZX (q:K true σ):Cr K false σ:=q
theorem ZY (q:cN C n e (Cs C n es K ρ) ρ σ):cN C n (.and (e::es)) K ρ σ:=q
theorem ZZ (q:cN C n (.and es) K ρ σ):Cs C n es K ρ true σ:=q
theorem Z0 (q:K false σ):Cs C n es K ρ false σ:=q
theorem Z1 (q:K true σ):cN C n (.and []) K ρ σ:=q
theorem Z2 (q:cN C n e (Ct C n es K ρ) ρ σ):cN C n (.or (e::es)) K ρ σ:=q
theorem Z3 (q:K true σ):Ct C n es K ρ true σ:=q
theorem Z4 (q:cN C n (.or es) K ρ σ):Ct C n es K ρ false σ:=q
theorem Z5 (q:K false σ):cN C n (.or []) K ρ σ:=q
theorem w_eq (q:aD C n e (wH C n e' t (Cw Q) ρ) ρ σ):aD C n (.eq t e e') Q ρ σ:=q
theorem Z6 (h:Ev ρ σ e u) (q:aD C n e' (p5 t (Cw Q) u) ρ σ):aD C n (.eq t e e') Q ρ σ:=h.go _ _ _ q
theorem Z7 (q:aD C n e (wH C n e' t K ρ) ρ σ):cN C n (.eq t e e') K ρ σ:=q
theorem Z8 (h:Ev ρ σ e u) (q:aD C n e' (p5 t K u) ρ σ):cN C n (.eq t e e') K ρ σ:=h.go _ _ _ q
theorem Z9 (h:Ev ρ σ e' w) (q:p5 t K u w σ):wH C n e' t K ρ u σ:=h.go _ _ _ q
theorem aaa (q:aD C n e' (p5 t K u) ρ σ):wH C n e' t K ρ u σ:=q
theorem Rp {s:Bool} (h:∀ K:Bool->Prop,K s->eK u w σ K) (q:K s σ):p5 false K u w σ:=h _ q
theorem aab (h:∀ K:Bool->Prop,K false->eK u w σ K) (q:K true σ):p5 true K u w σ:=h _ q
theorem Rq (h:∀ K:Bool->Prop,K true->eK u w σ K) (q:K false σ):p5 true K u w σ:=h _ q
theorem aac (q:Q (.bool b) σ):Cw Q b σ:=q
theorem aad {op:fE} (q:aD C n e (Cv C n op e' Q ρ) ρ σ):aD C n (.bin op e e') Q ρ σ:=q
theorem aae {op:fE} (h:Ev ρ σ e u) (q:aD C n e' (lM op Q u) ρ σ):aD C n (.bin op e e') Q ρ σ:=h.go _ _ _ q
theorem aaf {op:fE} (h:Ev ρ σ e' w) (q:lM op Q u w σ):Cv C n op e' Q ρ u σ:=h.go _ _ _ q
theorem aag {op:fE} (q:aD C n e' (lM op Q u) ρ σ):Cv C n op e' Q ρ u σ:=q
theorem aah (q:Q (.int (x+y)) σ):lM .add Q (.int x) (.int y) σ:=q
theorem k_sub (q:Q (.int (x - y)) σ):lM .sub Q (.int x) (.int y) σ:=q
theorem aai (h:0<y) (q:Q (.int (x % y)) σ):lM .mod Q (.int x) (.int y) σ:=⟨h,q⟩
theorem aaj (h:0<y) (h':y<2 ^ 64) (q:Q (.int (x / y)) σ):lM .fdiv Q (.int x) (.int y) σ:=⟨h,h',q⟩
theorem aak {l m:List AV} (h:l.length+m.length<=1000000) (q:Q (.tup (l++m)) σ):lM .add Q (.tup l) (.tup m) σ:=⟨h,q⟩
theorem aal {i j:Nat} {l m:List AV} (h1:σ[i]?=some (.list l)) (h2:σ[j]?=some (.list m)) (h:l.length+m.length<=1000000) (q:Q (.ref σ.length) (σ++[.list (l++m)])):lM .add Q (.ref i) (.ref j) σ:=Rj h1 h2 h q
theorem Iw (q:aD C n e (jP C n S N R ρ f) ρ σ):ax C n (.as f e::S) N R ρ σ:=q
theorem Rr (q:ax C n S N R (co ρ f v) σ):jP C n S N R ρ f v σ:=q
theorem aam (q:aD C n e (wE C n S N R ρ) ρ σ):ax C n (.ex e::S) N R ρ σ:=q
theorem aan (q:ax C n S N R ρ σ):wE C n S N R ρ v σ:=q
theorem aao (q:cN C n c (tQ C n A B S N R ρ) ρ σ):ax C n (.iff c A B::S) N R ρ σ:=q
theorem aap (q:ax C n A (ax C n S N R) R ρ σ):tQ C n A B S N R ρ true σ:=q
theorem aaq (q:ax C n S N R ρ σ):tQ C n A [] S N R ρ false σ:=q
theorem aar (q:ax C n B (ax C n S N R) R ρ σ):tQ C n A B S N R ρ false σ:=q
theorem Ix (q:aD C n e (Cu C n S N R ρ o f) ρ σ):ax C n (.aa o f e::S) N R ρ σ:=q
theorem Cy {cl:Cl} {fs:List (Nm × AV)} (ho:Ev ρ σ o (.ref r)) (hr:σ[r]?=some (.inst cl fs)) (hf:f∈fC cl) (q:ax C n S N R ρ (σ.set r (.inst cl (bp fs f v)))):Cu C n S N R ρ o f v σ:=by
 refine ho.go _ _ _ ?_;dsimp only;refine U hr ?_;exact ⟨hf,q⟩
theorem aas {cl:Cl} {fs:List (Nm × AV)} {ob:AO} (ho:Ev ρ (σ.set r (.inst cl fs)) o (.ref r)) (hr:σ[r]?=some ob) (hf:f∈fC cl) (q:ax C n S N R ρ (σ.set r (.inst cl (bp fs f v)))):Cu C n S N R ρ o f v (σ.set r (.inst cl fs)) :=
 Cy ho (gs hr) hf (by refine U (List.set_set ..) ?_;exact q)
theorem aat (q:aD C n e (It C n S N R ρ o f) ρ σ):ax C n (.jG o f e::S) N R ρ σ:=q
theorem aau {fs:List (Nm × AV)} (ho:Ev ρ σ o (.ref r)) (hr:σ[r]?=some (.bl fs)) (hl:fs.length<1000000) (q:ax C n S N R ρ (σ.set r (.bl (bp fs f v)))):It C n S N R ρ o f v σ:=by
 refine ho.go _ _ _ ?_;dsimp only;refine U hr ?_;exact ⟨hl,q⟩
theorem aav (q:aD C n e (wG C n S N R ρ o e') ρ σ):ax C n (.dU o e' e::S) N R ρ σ:=q
theorem aaw {l:List AV} (ho:Ev ρ σ o (.ref r)) (hk:Ev ρ σ e' (.int x)) (hr:σ[r]?=some (.list l)) (h0:0<=x) (h1:x<l.length) (q:ax C n S N R ρ (σ.set r (.list (l.set x.toNat v)))):wG C n S N R ρ o e' v σ:=by
 refine ho.go _ _ _ (hk.go _ _ _ ?_);dsimp only;refine U hr ?_;exact ⟨h0,h1,q⟩
theorem aax {ds:List (Int × AV)} (ho:Ev ρ σ o (.ref r)) (hk:Ev ρ σ e' (.int x)) (hr:σ[r]?=some (.an ds)) (h1:ds.length<1000000) (q:ax C n S N R ρ (σ.set r (.an (ee ds x v)))):wG C n S N R ρ o e' v σ:=by
 refine ho.go _ _ _ (hk.go _ _ _ ?_);dsimp only;refine U hr ?_;exact ⟨h1,q⟩
theorem aay {xs:List Nm} (q:aD C n e (Ir C n S N R ρ xs) ρ σ):ax C n (.at2 xs e::S) N R ρ σ:=q
theorem aaz {xs:List Nm} {a b:Nm} {l:List AV} {ae:Loc} (h:iq ρ (a::b::xs) l=some ae) (q:ax C n S N R ae σ):Ir C n S N R ρ (a::b::xs) (.tup l) σ:=by
 show eN (a::b::xs) (.tup l) ρ σ _
 (delta eN;dsimp only;refine U h ?_);exact q
theorem p6 (q:N ρ σ):ax C n [] N R ρ σ:=q
theorem aaA (h:Ev ρ σ e v) (q:ax C n S N R (co ρ f v) σ):ax C n (.as f e::S) N R ρ σ:=h.go _ _ _ q
theorem aaB (h:Ev ρ σ e v) (q:R v σ):ax C n (.ret e::S) N R ρ σ:=h.go _ _ _ q
theorem aaC (q:aD C n e R ρ σ):ax C n (.ret e::S) N R ρ σ:=q
theorem aaD (q:R .none σ):ax C n (.nD::S) N R ρ σ:=q
theorem t_c (h:Ec ρ σ c b) (q:tQ C n A B S N R ρ b σ):ax C n (.iff c A B::S) N R ρ σ:=h.go _ _ _ q
theorem Iy {cl:Cl} {fs:List (Nm × AV)} (h:Ev ρ σ e v) (ho:Ev ρ σ o (.ref r)) (hr:σ[r]?=some (.inst cl fs)) (hf:f∈fC cl) (q:ax C n S N R ρ (σ.set r (.inst cl (bp fs f v)))):ax C n (.aa o f e::S) N R ρ σ:=by
 refine h.go _ _ _ (ho.go _ _ _ ?_);dsimp only;refine U hr ?_;exact ⟨hf,q⟩
theorem aaE {cl:Cl} {fs:List (Nm × AV)} {ob:AO} (h:Ev ρ (σ.set r (.inst cl fs)) e v) (ho:Ev ρ (σ.set r (.inst cl fs)) o (.ref r)) (hr:σ[r]?=some ob) (hf:f∈fC cl) (q:ax C n S N R ρ (σ.set r (.inst cl (bp fs f v)))):ax C n (.aa o f e::S) N R ρ (σ.set r (.inst cl fs)) :=
 Iy h ho (gs hr) hf (by refine U (List.set_set ..) ?_;exact q)
theorem aaF {l:List AV} (h:Ev ρ σ e v) (ho:Ev ρ σ o (.ref r)) (hk:Ev ρ σ e' (.int x)) (hr:σ[r]?=some (.list l)) (h0:0<=x) (h1:x<l.length) (q:ax C n S N R ρ (σ.set r (.list (l.set x.toNat v)))):ax C n (.dU o e' e::S) N R ρ σ:=by
 refine h.go _ _ _ (ho.go _ _ _ (hk.go _ _ _ ?_));dsimp only;refine U hr ?_;exact ⟨h0,h1,q⟩
theorem aaG {ds:List (Int × AV)} (h:Ev ρ σ e v) (ho:Ev ρ σ o (.ref r)) (hk:Ev ρ σ e' (.int x)) (hr:σ[r]?=some (.an ds)) (h1:ds.length<1000000) (q:ax C n S N R ρ (σ.set r (.an (ee ds x v)))):ax C n (.dU o e' e::S) N R ρ σ:=by
 refine h.go _ _ _ (ho.go _ _ _ (hk.go _ _ _ ?_));dsimp only;refine U hr ?_;exact ⟨h1,q⟩
theorem aaH {fs:List (Nm × AV)} (h:Ev ρ σ e v) (ho:Ev ρ σ o (.ref r)) (hr:σ[r]?=some (.bl fs)) (hl:fs.length<1000000) (q:ax C n S N R ρ (σ.set r (.bl (bp fs f v)))):ax C n (.jG o f e::S) N R ρ σ:=by
 refine h.go _ _ _ (ho.go _ _ _ ?_);dsimp only;refine U hr ?_;exact ⟨hl,q⟩
theorem Rs {xs:List Nm} {a b:Nm} {l:List AV} {ae:Loc} {K:Loc->Prop} (h:iq ρ (a::b::xs) l=some ae) (q:K ae):eN (a::b::xs) (.tup l) ρ σ K:=by (delta eN;dsimp only;refine U h ?_);exact q
theorem Rt {xs:List Nm} {a b:Nm} {l:List AV} {ae:Loc} {K:Loc->Prop} (hr:σ[r]?=some (.list l)) (h:iq ρ (a::b::xs) l=some ae) (q:K ae):eN (a::b::xs) (.ref r) ρ σ K:=by (delta eN;dsimp only;refine U hr ?_;dsimp only;refine U h ?_);exact q
theorem aaI {a:Nm} {K:Loc->Prop} (q:K (co ρ a v)):eN [a] v ρ σ K:=q
theorem aaJ {xs:List Nm} {a b:Nm} {l:List AV} {ae:Loc} (h:Ev ρ σ e (.tup l)) (hs:iq ρ (a::b::xs) l=some ae) (q:ax C n S N R ae σ):ax C n (.at2 (a::b::xs) e::S) N R ρ σ:=h.go _ _ _ (Rs hs q)
theorem aaK {xs:List Nm} {a b:Nm} {l:List AV} {ae:Loc} (h:Ev ρ σ e (.ref r)) (hr:σ[r]?=some (.list l)) (hs:iq ρ (a::b::xs) l=some ae) (q:ax C n S N R ae σ):ax C n (.at2 (a::b::xs) e::S) N R ρ σ:=h.go _ _ _ (Rt hr hs q)
theorem aaL (h:ρ f=some (.int x)) (a:Ev ρ σ e (.int y)) (q:ax C n S N R (co ρ f (.int (x+y))) σ):ax C n (.ag f .add e::S) N R ρ σ:=by
 conv=>whnf
 refine U h ?_;exact a.go _ _ _ q
theorem aaM (h:ρ f=some (.int x)) (a:Ev ρ σ e (.int y)) (q:ax C n S N R (co ρ f (.int (x - y))) σ):ax C n (.ag f .sub e::S) N R ρ σ:=by
 conv=>whnf
 refine U h ?_;exact a.go _ _ _ q
theorem aaN {i j:Nat} {l m:List AV} (h:ρ f=some (.ref i)) (a:Ev ρ σ e (.ref j)) (hi:σ[i]?=some (.list l)) (hj:σ[j]?=some (.list m)) (hl:l.length+m.length<=1000000) (q:ax C n S N R (co ρ f (.ref i)) (σ.set i (.list (l++m)))):ax C n (.ag f .add e::S) N R ρ σ:=by
 conv=>whnf
 refine U h ?_;refine a.go _ _ _ ?_;dsimp only;refine U hi (U hj ?_);exact ⟨hl,q⟩
theorem aaO {cl:Cl} {fs:List (Nm × AV)} (ho:Ev ρ σ o (.ref r)) (hr:σ[r]?=some (.inst cl fs)) (hv:fT fs f=some (.int x)) (a:Ev ρ σ e (.int y)) (hf:f∈fC cl) (q:ax C n S N R ρ (σ.set r (.inst cl (bp fs f (.int (x+y)))))):ax C n (.kC o f .add e::S) N R ρ σ:=by
 refine ho.go _ _ _ ?_;dsimp only;refine U (lK hr hv) ?_;refine a.go _ _ _ ?_;dsimp only;refine U hr ?_;exact ⟨hf,q⟩
theorem aaP {fs:List (Nm × AV)} (ho:Ev ρ σ o (.ref r)) (hr:σ[r]?=some (.bl fs)) (hv:fT fs f=some (.int x)) (a:Ev ρ σ e (.int y)) (hl:fs.length<1000000) (q:ax C n S N R ρ (σ.set r (.bl (bp fs f (.int (x+y)))))):ax C n (.pC o f .add e::S) N R ρ σ:=by
 refine ho.go _ _ _ ?_;dsimp only;refine U (Ip hr hv) ?_;refine a.go _ _ _ ?_;dsimp only;refine U hr ?_;exact ⟨hl,q⟩
theorem Ru {xs:List Nm} {bJ:Bool} (h:Ev ρ σ e v) (q:ip bJ v σ fun vs g=>kE (fun a K ae ar=>eN xs a ae ar fun dE=>ax C n B K R dE ar) g (ax C n S N R) vs ρ σ):ax C n (.fo xs bJ e B::S) N R ρ σ:=h.go _ _ _ q
theorem Rv {xs:List Nm} (h:Ev ρ σ e (.int x)) (h0:0<=x) (h1:x<=1000000) (q:kE (fun a K ae ar=>eN xs a ae ar fun dE=>ax C n B K R dE ar) Option.none (ax C n S N R) ((List.range x.toNat).map fun i=>.int (i:Nat)) ρ σ):ax C n (.fo xs true e B::S) N R ρ σ:=Ru h ⟨⟨h0,h1⟩,q⟩
theorem Rw (q:∃ k,me (cN C n c) (fun K ae V=>ax C n B K R ae V) (ax C n S N R) k ρ σ):ax C n (.wh c B::S) N R ρ σ:=q
end
theorem Cz {step:AV->(Loc->AH->Prop)->Loc->AH->Prop} {g:Option (Nat × List AV)} {N:Loc->AH->Prop} {xs:List AV} {ρ:Loc} {σ:AH} (I:Nat->Loc->AH->Prop) (h0:I 0 ρ σ)
  (hs:∀ i x ρ σ (K:Loc->AH->Prop),xs[i]?=some x->I i ρ σ->(∀ ae V,kD g V->I (i+1) ae V->K ae V)->step x K ρ σ) (hN:∀ ρ σ,I xs.length ρ σ->N ρ σ):kE step g N xs ρ σ:=by
 have key:∀ (ys:List AV) (i:Nat) (ρ:Loc) (σ:AH),i<=xs.length->ys=xs.drop i->I i ρ σ->kE step g N ys ρ σ:=by
  intro ys
  induction ys with
  | nil =>
   intro i ρ σ hi he h
   have:xs.length<=i:=by
    have:=congrArg List.length he
    simp at this;lia
   obtain rfl:i=xs.length:=by lia
   exact hN _ _ h
  | cons y ys ih =>
   intro i ρ σ hi he h
   have aS:i<xs.length:=by
    have:=congrArg List.length he
    simp at this;lia
   rw [List.drop_eq_getElem_cons aS] at he
   (refine ay ?_ (List.cons.inj he);rintro rfl tR)
   clear he
   exact hs i _ ρ σ _ (List.getElem?_eq_getElem aS) h fun ae V hg h'=>⟨hg,ih (i+1) ae V aS tR h'⟩
 exact key xs 0 ρ σ (Nat.zero_le _) (by simp) h0
theorem Iz {step:AV->(Option AV->AH->Prop)->AH->Prop} {g:Option (Nat × List AV)} {N:List AV->AH->Prop} {xs:List AV} {σ:AH} (I:Nat->List AV->AH->Prop) (h0:I 0 [] σ)
  (hs:∀ i x acc σ (K:Option AV->AH->Prop),xs[i]?=some x->I i acc σ->(∀ o V,kD g V->(acc++o.toList).length<=1000000->I (i+1) (acc++o.toList) V->K o V)->step x K σ) (hN:∀ acc σ,I xs.length acc σ->N acc σ):kF step g N xs [] σ:=by
 have key:∀ (ys:List AV) (i:Nat) (acc:List AV) (σ:AH),i<=xs.length->ys=xs.drop i->I i acc σ->kF step g N ys acc σ:=by
  intro ys
  induction ys with
  | nil =>
   intro i ρ σ hi he h
   have:xs.length<=i:=by
    have:=congrArg List.length he
    simp at this;lia
   obtain rfl:i=xs.length:=by lia
   exact hN _ _ h
  | cons y ys ih =>
   intro i acc σ hi he h
   have aS:i<xs.length:=by
    have:=congrArg List.length he
    simp at this;lia
   rw [List.drop_eq_getElem_cons aS] at he
   (refine ay ?_ (List.cons.inj he);rintro rfl tR)
   clear he
   exact hs i _ acc σ _ (List.getElem?_eq_getElem aS) h fun o V hg hl h'=>⟨hg,hl,ih (i+1) _ V aS tR h'⟩
 exact key xs 0 [] σ (Nat.zero_le _) (by simp) h0
theorem Rx {cond:(Bool->AH->Prop)->Loc->AH->Prop} {step:(Loc->AH->Prop)->Loc->AH->Prop} {N:Loc->AH->Prop} {ρ:Loc} {σ:AH} (I:Nat->Loc->AH->Prop) (m:Nat) (h0:I m ρ σ)
  (hs:∀ m ρ σ (K:Loc->AH->Prop),I m ρ σ->(∀ m' ae V,m'<m->I m' ae V->K ae V)->cond (fun b V=>match b with | true=>step K ρ V | false=>N ρ V) ρ σ):∃ k,me cond step N k ρ σ:=by
 have key:∀ k m ρ σ,m<k->I m ρ σ->me cond step N k ρ σ:=by
  intro k
  induction k with
  | zero=>intro m ρ σ h;lia
  | succ k ih =>
   intro m ρ σ hm h
   exact hs m ρ σ _ h fun m' ae V aS h'=>ih m' ae V (by lia) h'
 exact (aQ (m+1) (key _ m ρ σ (Nat.lt_succ_self _) h0))
theorem tS {α:Type} {f:α->AV} {l:List α} {i:Nat} {x:AV} (h:(l.map f)[i]?=some x):∃ a,l[i]?=some a/\x=f a/\l.drop i=a::l.drop (i+1)/\a∈l:=by
 rw [List.getElem?_map] at h
 induction e:l[i]? with
 | none=>rw [e] at h;exact aZ h
 | some a =>
  rw [e] at h
  (revert h;refine si ?_;rintro rfl)
  (refine aM ?_ (List.getElem?_eq_some_iff.mp e);intro aS he)
  refine (l4 a rfl rfl ?_ (List.mem_of_getElem? e))
  exact U (List.drop_eq_getElem_cons aS ..) (U he rfl)
noncomputable def wI (C:Cx) (n:Nat) (B:List Sm) (K N:Loc->AH->Prop) (R:AV->AH->Prop) (ρ:Loc) (b:Bool) (σ:AH):Prop:=match b with
 | true=>ax C n B K R ρ σ
 | false=>N ρ σ
noncomputable def CA (C:Cx) (n:Nat) (c:Ex) (B S:List Sm) (N:Loc->AH->Prop) (R:AV->AH->Prop) (k:Nat) (ρ:Loc) (σ:AH):Prop :=
 me (cN C n c) (fun K ae V=>ax C n B K R ae V) (ax C n S N R) k ρ σ
section
variable {C:Cx} {n:Nat} {ρ:Loc} {σ:AH} {Q:AV->AH->Prop} {K:Loc->AH->Prop} {N:Loc->AH->Prop} {R:AV->AH->Prop} {e c:Ex} {z:Int} {r:Nat} {S B:List Sm} {xs:List Nm} {α:Type} {as:List α} {g:α->AV}
theorem aaQ (q:ax C n B K R ρ σ):wI C n B K N R ρ true σ:=q
theorem IA (k:Nat) (q:CA C n c B S N R k ρ σ):ax C n (.wh c B::S) N R ρ σ:=(aQ k q)
theorem aaR {k:Nat} (q:cN C n c (wI C n B (CA C n c B S N R k) (ax C n S N R) R ρ) ρ σ):CA C n c B S N R (k+1) ρ σ:=q
theorem aaS (q:N ρ σ):wI C n B K N R ρ false σ:=q
theorem Ry (m:Nat) (I:Nat->Loc->AH->Prop) (h:Ev ρ σ e (.int z)) (hz:z=m) (hm:m<=1000000) (h0:I 0 ρ σ)
  (hs:∀ i ae V (K:Loc->AH->Prop),i<m->I i ae V->(∀ ρ'' ar,I (i+1) ρ'' ar->K ρ'' ar)->eN xs (.int (i:Nat)) ae V fun dE=>ax C n B K R dE V)
  (hN:∀ ae V,I m ae V->ax C n S N R ae V):ax C n (.fo xs true e B::S) N R ρ σ:=by
 subst hz
 refine Rv h (Int.natCast_nonneg _) (by lia) (Cz I h0 (fun i x ae V K hx hI k=>?_) fun ae V hI=>hN ae V ?_)
 ·(refine bO ?_ (tS hx);rintro a ha rfl _)
  (refine aM ?_ (List.getElem?_eq_some_iff.mp ha);intro hl ha)
  rw [List.getElem_range] at ha
  subst ha
  rw [List.length_range] at hl
  exact hs i ae V K hl hI fun ρ'' ar=>k ρ'' ar trivial
 ·rwa [List.length_map,List.length_range] at hI
theorem rF (m:Nat) (I:Nat->Loc->AH->Prop) (h0:I m ρ σ)
  (hs:∀ m ae V (K:Loc->AH->Prop),I m ae V->(∀ m' ρ'' ar,m'<m->I m' ρ'' ar->K ρ'' ar)->cN C n c (wI C n B K (ax C n S N R) R ae) ae V) :
  ax C n (.wh c B::S) N R ρ σ:=Rw (Rx I m h0 hs)
end
section
variable {x y:Int}
theorem aaT (h:x<y):eJ.rel .lt x y=true:=wB h
theorem aaU (h:x<=y):eJ.rel .le x y=true:=wB h
theorem aaV (h:y<x):eJ.rel .gt x y=true:=wB h
theorem aaW (h:y<=x):eJ.rel .ge x y=true:=wB h
theorem aaX (h:¬ x<y):eJ.rel .lt x y=false:=wC h
theorem aaY (h:¬ x<=y):eJ.rel .le x y=false:=wC h
theorem aaZ (h:¬ y<x):eJ.rel .gt x y=false:=wC h
theorem aa0 (h:¬ y<=x):eJ.rel .ge x y=false:=wC h
end
section
variable {σ:AH} {x y:Int}
theorem e_i (K:Bool->Prop) (q:K (x==y)):eK (.int x) (.int y) σ K:=Cq q
theorem e_t (h:x=y) (K:Bool->Prop) (q:K true):eK (.int x) (.int y) σ K:=Rk h q
theorem e_f (h:¬ x=y) (K:Bool->Prop) (q:K false):eK (.int x) (.int y) σ K:=Rl h q
end
noncomputable def n4 (C:Cx) (n:Nat) (xs:List Nm) (bJ:Bool) (B S:List Sm) (N:Loc->AH->Prop) (R:AV->AH->Prop) (ρ:Loc) (v:AV) (σ:AH):Prop :=
 ip bJ v σ fun vs g=>kE (fun a K ae ar=>eN xs a ae ar fun dE=>ax C n B K R dE ar) g (ax C n S N R) vs ρ σ
noncomputable def tT (r:Nat) (Q:AV->AH->Prop) (v:AV) (σ:AH):Prop:=match σ[r]? with
 | some (.list l)=>l.length<1000000/\Q .none (σ.set r (.list (l++[v])))
 | _=>False
noncomputable def tU (C:Cx) (n:Nat) (S:List Sm) (N:Loc->AH->Prop) (R:AV->AH->Prop) (ρ:Loc) (v u k:AV) (V:AH):Prop:=match u,k with
   | .ref r,.int k=>(match V[r]? with
    | some (.list l)=>0<=k/\k<l.length/\ax C n S N R ρ (V.set r (.list (l.set k.toNat v)))
    | some (.an l)=>l.length<1000000/\ax C n S N R ρ (V.set r (.an (ee l k v)))
    | _=>False)
   | _,_=>False
noncomputable def wJ (C:Cx) (n:Nat) (S:List Sm) (N:Loc->AH->Prop) (R:AV->AH->Prop) (ρ:Loc) (x:Nm) (op:fE) (v u:AV) (V:AH):Prop:=match op,v,u with
 | .add,.int a,.int b=>ax C n S N R (co ρ x (.int (a+b))) V
 | .sub,.int a,.int b=>ax C n S N R (co ρ x (.int (a - b))) V
 | .add,.ref i,.ref j=>(match V[i]?,V[j]? with
  | some (.list l),some (.list m)=>l.length+m.length<=1000000/\ax C n S N R (co ρ x (.ref i)) (V.set i (.list (l++m)))
  | _,_=>False)
 | _,_,_=>False
noncomputable def CC (C:Cx) (n:Nat) (f:Fn) (Q:AV->AH->Prop) (vs:List AV) (σ:AH):Prop:=FW C n f vs Q σ
noncomputable def Rz (C:Cx) (n:Nat) (c:Cl) (Q:AV->AH->Prop) (vs:List AV) (V:AH):Prop :=
 FW C n (nn c) (.ref V.length::vs) (fun r ar=>r=.none/\Q (.ref V.length) ar) (V++[.inst c []])
noncomputable def IB (Q:AV->AH->Prop) (vs:List AV) (σ:AH):Prop:=vs.length<=1000000/\Q (.tup vs) σ
noncomputable def IC (Q:AV->AH->Prop) (vs:List AV) (σ:AH):Prop:=vs.length<=1000000/\Q (.ref σ.length) (σ++[.list vs])
noncomputable def wK (P:List AV->AH->Prop) (v:AV) (vs:List AV) (σ:AH):Prop:=P (v::vs) σ
noncomputable def ID (C:Cx) (n:Nat) (es:List Ex) (P:List AV->AH->Prop) (ρ:Loc) (v:AV) (σ:AH):Prop:=fF C n es (wK P v) ρ σ
noncomputable def IE (C:Cx) (n:Nat) (op:eJ) (e':Ex) (K:Bool->AH->Prop) (ρ:Loc) (u:AV) (σ:AH):Prop :=
 aD C n e' (fun b ar=>match u,b with | .int a,.int b=>K (op.rel a b) ar | _,_=>False) ρ σ
noncomputable def IF (C:Cx) (n:Nat) (ng:Bool) (d:Ex) (K:Bool->AH->Prop) (ρ:Loc) (u:AV) (σ:AH):Prop :=
 aD C n d (fun b ar=>match u,b with
   | .int i,.ref r=>(match ar[r]? with | some (.an l)=>K (if ng then !(bL l i).isSome else (bL l i).isSome) ar | _=>False)
   | _,_=>False) ρ σ
noncomputable def CE (ng:Bool) (K:Bool->AH->Prop) (v:AV) (σ:AH):Prop:=match v with | .none=>K (!ng) σ | _=>K ng σ
noncomputable def CG (Q:AV->AH->Prop) (v:AV) (σ:AH):Prop:=match jF σ v with | some k=>Q (.int k) σ | Option.none=>False
noncomputable def wL (Q:AV->AH->Prop) (u k:AV) (σ:AH):Prop:=match gC σ u k with | some v=>Q v σ | Option.none=>False
noncomputable def IG (C:Cx) (n:Nat) (e':Ex) (Q:AV->AH->Prop) (ρ:Loc) (u:AV) (σ:AH):Prop:=aD C n e' (wL Q u) ρ σ
noncomputable def CH (C:Cx) (n:Nat) (a b:Ex) (Q:AV->AH->Prop) (ρ:Loc) (t:Bool) (σ:AH):Prop:=match t with | true=>aD C n a Q ρ σ | false=>aD C n b Q ρ σ
noncomputable def tV (C:Cx) (n:Nat) (es:List Ex) (Q:AV->AH->Prop) (ρ:Loc) (v:AV) (σ:AH):Prop:=match dD v with | some true=>mf C n es Q ρ σ | some false=>Q v σ | Option.none=>False
noncomputable def CJ (Q:AV->AH->Prop) (a:AV) (σ:AH):Prop:=match dD a with | some b=>Q (.bool (!b)) σ | Option.none=>False
section
variable {C:Cx} {n:Nat} {ρ:Loc} {σ:AH} {Q:AV->AH->Prop} {P:List AV->AH->Prop} {K:Bool->AH->Prop} {N:Loc->AH->Prop} {R:AV->AH->Prop} {e e' o c:Ex} {es:List Ex} {u v w:AV} {vs:List AV} {x y:Int} {f:Nm} {b t s:Bool} {r i j:Nat} {S A B:List Sm} {l m:List AV} {xs:List Nm} {ds:List (Int × AV)} {op:eJ}
theorem aa1 (h:(-(2 ^ 64)<x/\x<2 ^ 64)∨(-(2 ^ 64)<y/\y<2 ^ 64)) (q:Q (.int (x*y)) σ):lM .mul Q (.int x) (.int y) σ:=⟨h,q⟩
theorem aa2 {bJ:Bool} (q:aD C n e (n4 C n xs bJ B S N R ρ) ρ σ):ax C n (.fo xs bJ e B::S) N R ρ σ:=q
theorem aa3 (h:Ev ρ σ e (.ref r)) (hr:σ[r]?=some (.list l)) (q:aD C n e' (tT r Q) ρ σ):aD C n (.app e e') Q ρ σ:=h.go _ _ _ ⟨(aQ _ hr),q⟩
theorem aa4 (hr:σ[r]?=some (.list l)) (hl:l.length<1000000) (q:Q .none (σ.set r (.list (l++[v])))):tT r Q v σ:=by unfold tT;refine U hr ?_;exact ⟨hl,q⟩
theorem aa5 (ho:Ev ρ σ o u) (q:aD C n e' (tU C n S N R ρ v u) ρ σ):wG C n S N R ρ o e' v σ:=ho.go _ _ _ q
theorem aa6 (hr:σ[r]?=some (.list l)) (h0:0<=x) (h1:x<l.length) (q:ax C n S N R ρ (σ.set r (.list (l.set x.toNat v)))):tU C n S N R ρ v (.ref r) (.int x) σ:=by
 unfold tU;dsimp only;refine U hr ?_;exact ⟨h0,h1,q⟩
theorem aa7 (hr:σ[r]?=some (.an ds)) (h1:ds.length<1000000) (q:ax C n S N R ρ (σ.set r (.an (ee ds x v)))):tU C n S N R ρ v (.ref r) (.int x) σ:=by
 unfold tU;dsimp only;refine U hr ?_;exact ⟨h1,q⟩
theorem aa8 {op:fE} (h:ρ f=some v) (q:aD C n e (wJ C n S N R ρ f op v) ρ σ):ax C n (.ag f op e::S) N R ρ σ:=by
 conv=>whnf
 refine U h ?_;exact q
theorem aa9 (q:ax C n S N R (co ρ f (.int (x+y))) σ):wJ C n S N R ρ f .add (.int x) (.int y) σ:=q
theorem CK (hi:σ[i]?=some (.list l)) (hj:σ[j]?=some (.list m)) (hl:l.length+m.length<=1000000) (q:ax C n S N R (co ρ f (.ref i)) (σ.set i (.list (l++m)))):wJ C n S N R ρ f .add (.ref i) (.ref j) σ:=by
 unfold wJ;dsimp only;refine U hi (U hj ?_);exact ⟨hl,q⟩
theorem aba {g:Fn} (q:fF C n es (CC C n g Q) ρ σ):aD C n (.call g es) Q ρ σ:=q
theorem abb {g:Fn} (q:fF C n es (CC C n g (rE K)) ρ σ):cN C n (.call g es) K ρ σ:=q
theorem abc {g:Fn} (q:FW C n g vs Q σ):CC C n g Q vs σ:=q
theorem RA {cl:Cl} (q:fF C n es (Rz C n cl Q) ρ σ):aD C n (.new cl es) Q ρ σ:=q
theorem abd (q:fF C n es (IB Q) ρ σ):aD C n (.tup es) Q ρ σ:=q
theorem abe (h:vs.length<=1000000) (q:Q (.tup vs) σ):IB Q vs σ:=⟨h,q⟩
theorem abf (q:fF C n es (IC Q) ρ σ):aD C n (.list es) Q ρ σ:=q
theorem abg (h:vs.length<=1000000) (q:Q (.ref σ.length) (σ++[.list vs])):IC Q vs σ:=⟨h,q⟩
theorem abh (h:lJ ρ σ es vs) (q:P vs σ):fF C n es P ρ σ:=h.go _ _ _ q
theorem RB (h:Ev ρ σ e v) (q:fF C n es (wK P v) ρ σ):fF C n (e::es) P ρ σ:=h.go _ _ _ q
theorem abi (q:aD C n e (ID C n es P ρ) ρ σ):fF C n (e::es) P ρ σ:=q
theorem abj (q:fF C n es (wK P v) ρ σ):ID C n es P ρ v σ:=q
theorem abk (q:P (v::vs) σ):wK P v vs σ:=q
theorem abl (q:aD C n e (IE C n op e' K ρ) ρ σ):cN C n (.cmp op e e') K ρ σ:=q
theorem abm (b:Ev ρ σ e' (.int y)) (h:op.rel x y=t) (q:K t σ):IE C n op e' K ρ (.int x) σ:=by subst h;exact b.go _ _ _ q
theorem abn {ng:Bool} (q:aD C n e (IF C n ng e' K ρ) ρ σ):cN C n (.fV ng e e') K ρ σ:=q
theorem abo (b:Ev ρ σ e' (.ref r)) (h:σ[r]?=some (.an ds)) (h':(bL ds x).isSome=t) (q:K t σ):IF C n false e' K ρ (.int x) σ:=by
 refine b.go _ _ _ ?_;dsimp only;refine U h ?_;subst h';exact q
theorem abp {ng:Bool} (q:aD C n e (CE ng K) ρ σ):cN C n (.cc ng e) K ρ σ:=q
theorem k_is (h:NA v t) (q:K t σ):CE false K v σ:=by obtain ⟨h⟩:=h;subst h;induction v using AV.casesOn <;> exact q
theorem abq (h:NA v s) (hn:NB s t) (q:K t σ):CE true K v σ:=by obtain ⟨h⟩:=h;subst h;induction v using AV.casesOn <;> cases hn <;> exact q
theorem abr (q:aD C n e (CG Q) ρ σ):aD C n (.len e) Q ρ σ:=q
theorem abs (h:jF σ v=some x) (q:Q (.int x) σ):CG Q v σ:=by unfold CG;refine U h ?_;exact q
theorem abt (h:Ev ρ σ e u) (q:aD C n e' (wL Q u) ρ σ):aD C n (.sub e e') Q ρ σ:=h.go _ _ _ q
theorem IH (h:gC σ u w=some v) (q:Q v σ):wL Q u w σ:=by unfold wL;refine U h ?_;exact q
theorem abu (q:aD C n e (IG C n e' Q ρ) ρ σ):aD C n (.sub e e') Q ρ σ:=q
theorem abv (h:Ev ρ σ e' w) (h':gC σ u w=some v) (q:Q v σ):IG C n e' Q ρ u σ:=h.go _ _ _ (IH h' q)
theorem w_ite (q:cN C n c (CH C n e e' Q ρ) ρ σ):aD C n (.ite c e e') Q ρ σ:=q
theorem abw (q:aD C n e Q ρ σ):CH C n e e' Q ρ true σ:=q
theorem abx (q:aD C n e' Q ρ σ):CH C n e e' Q ρ false σ:=q
theorem aby (q:aD C n e Q ρ σ):mf C n [e] Q ρ σ:=q
theorem abz (q:aD C n e (tV C n (e'::es) Q ρ) ρ σ):mf C n (e::e'::es) Q ρ σ:=q
theorem w_and (q:mf C n es Q ρ σ):aD C n (.and es) Q ρ σ:=q
theorem abA (h:dD v=some true) (q:mf C n es Q ρ σ):tV C n es Q ρ v σ:=by unfold tV;refine U h ?_;exact q
theorem abB (h:dD v=some false) (q:Q v σ):tV C n es Q ρ v σ:=by unfold tV;refine U h ?_;exact q
theorem abC (q:aD C n e (CJ Q) ρ σ):aD C n (.not e) Q ρ σ:=q
theorem abD (h:dD v=some s) (hn:NB s t) (q:Q (.bool t) σ):CJ Q v σ:=by unfold CJ;refine U h ?_;cases hn <;> exact q
end
section
variable {C:Cx} {n:Nat} {ρ:Loc} {σ:AH} {N:Loc->AH->Prop} {R:AV->AH->Prop} {Q:AV->AH->Prop} {S B:List Sm} {xs:List Nm} {α:Type} {as:List α} {g:α->AV} {r:Nat} {e:Ex}
theorem e9 (I:Nat->Loc->AH->Prop) (hr:σ[r]?=some (.list (as.map g))) (h0:I 0 ρ σ)
  (hs:∀ i a ae V (K:Loc->AH->Prop),as[i]?=some a->I i ae V->(∀ ρ'' ar,ar[r]?=some (.list (as.map g))->I (i+1) ρ'' ar->K ρ'' ar)->eN xs (g a) ae V fun dE=>ax C n B K R dE V)
  (hN:∀ ae V,I as.length ae V->ax C n S N R ae V):n4 C n xs false B S N R ρ (.ref r) σ:=by
 unfold n4 ip
 dsimp only;refine U hr ?_;dsimp only
 refine Cz I h0 (fun i x ae V K hx hI k=>?_) fun ae V hI=>hN ae V ?_
 ·(refine bO ?_ (tS hx);rintro a ha rfl _)
  exact hs i a ae V K ha hI k
 ·rwa [List.length_map] at hI
theorem CL (I:Nat->Loc->AH->Prop) (h0:I 0 ρ σ)
  (hs:∀ i a ae V (K:Loc->AH->Prop),as[i]?=some a->I i ae V->(∀ ρ'' ar,I (i+1) ρ'' ar->K ρ'' ar)->eN xs (g a) ae V fun dE=>ax C n B K R dE V)
  (hN:∀ ae V,I as.length ae V->ax C n S N R ae V):n4 C n xs false B S N R ρ (.tup (as.map g)) σ:=by
 refine Cz (xs:=as.map g) (g:=Option.none) I h0 (fun i x ae V K hx hI k=>?_) fun ae V hI=>hN ae V ?_
 ·(refine bO ?_ (tS hx);rintro a ha rfl _)
  exact hs i a ae V K ha hI fun ρ'' ar=>k ρ'' ar trivial
 ·rwa [List.length_map] at hI
theorem jQ (m:Nat) (I:Nat->Loc->AH->Prop) {z:Int} (hz:z=m) (hm:m<=1000000) (h0:I 0 ρ σ)
  (hs:∀ i ae V (K:Loc->AH->Prop),i<m->I i ae V->(∀ ρ'' ar,I (i+1) ρ'' ar->K ρ'' ar)->eN xs (.int (i:Nat)) ae V fun dE=>ax C n B K R dE V)
  (hN:∀ ae V,I m ae V->ax C n S N R ae V):n4 C n xs true B S N R ρ (.int z) σ :=
 Ry (e:=.int z) m I wD hz hm h0 hs hN
noncomputable def tW (C:Cx) (n:Nat) (xs:List Nm) (B S:List Sm) (N:Loc->AH->Prop) (R:AV->AH->Prop) (g:Option (Nat × List AV)) (vs:List AV) (ρ:Loc) (σ:AH):Prop :=
 kE (fun a K ae ar=>eN xs a ae ar fun dE=>ax C n B K R dE ar) g (ax C n S N R) vs ρ σ
noncomputable def II (C:Cx) (n:Nat) (xs:List Nm) (B S:List Sm) (N:Loc->AH->Prop) (R:AV->AH->Prop) (g:Option (Nat × List AV)) (vs:List AV) (ρ:Loc) (σ:AH):Prop:=kD g σ/\tW C n xs B S N R g vs ρ σ
theorem p7 {l:List AV} (hr:σ[r]?=some (.list l)) (q:tW C n xs B S N R (some (r,l)) l ρ σ):n4 C n xs false B S N R ρ (.ref r) σ:=by unfold n4 ip;dsimp only;refine U hr ?_;exact q
theorem abE {l:Option (Nat × List AV)} (q:ax C n S N R ρ σ):tW C n xs B S N R l [] ρ σ:=q
theorem abF {l:Option (Nat × List AV)} {v:AV} {vs:List AV} (q:eN xs v ρ σ fun dE=>ax C n B (II C n xs B S N R l vs) R dE σ):tW C n xs B S N R l (v::vs) ρ σ:=q
theorem abG {l vs:List AV} (h:σ[r]?=some (.list l)) (q:tW C n xs B S N R (some (r,l)) vs ρ σ):II C n xs B S N R (some (r,l)) vs ρ σ:=⟨h,q⟩
noncomputable def tX (C:Cx) (n:Nat) (elt:Ex) (ae:Loc) (K:Option AV->AH->Prop) (t:Bool) (σ:AH):Prop:=match t with
 | true=>aD C n elt (fun r bn=>K (some r) bn) ae σ
 | false=>K Option.none σ
noncomputable def IJ (K:Option AV->AH->Prop) (v:AV) (σ:AH):Prop:=K (some v) σ
theorem abH {elt:Ex} {ae:Loc} {K:Option AV->AH->Prop} (q:aD C n elt (IJ K) ae σ):tX C n elt ae K true σ:=q
theorem abI {elt:Ex} {ae:Loc} {K:Option AV->AH->Prop} (q:K Option.none σ):tX C n elt ae K false σ:=q
theorem abJ {K:Option AV->AH->Prop} {v:AV} (q:K (some v) σ):IJ K v σ:=q
theorem abK {K:Bool->AH->Prop} (q:K true σ):jg C n Option.none K ρ σ:=q
theorem abL {c:Ex} {K:Bool->AH->Prop} (q:cN C n c K ρ σ):jg C n (some c) K ρ σ:=q
noncomputable def wM (C:Cx) (n:Nat) (elt:Ex) (x:Nm) (frees:List Nm) (bJ:Bool) (cond:Option Ex) (Q:AV->AH->Prop) (ρ:Loc) (v:AV) (σ:AH):Prop :=
 ip bJ v σ fun xs g=>kF (fun a K ai=>jg C n cond (tX C n elt (ei ρ x frees a) K) (ei ρ x frees a) ai) g (fun acc ai=>Q (.ref ai.length) (ai++[.list acc])) xs [] σ
theorem abM {elt:Ex} {x:Nm} {frees:List Nm} {cond:Option Ex} {bJ:Bool} (q:aD C n e (wM C n elt x frees bJ cond Q ρ) ρ σ):aD C n (.comp elt x frees bJ e cond) Q ρ σ:=q
theorem rG {elt:Ex} {x:Nm} {frees:List Nm} {cond:Option Ex} (I:Nat->List AV->AH->Prop) (hr:σ[r]?=some (.list (as.map g))) (h0:I 0 [] σ)
  (hs:∀ i a acc V (K:Option AV->AH->Prop),as[i]?=some a->I i acc V->(∀ o ar,ar[r]?=some (.list (as.map g))->(acc++o.toList).length<=1000000->I (i+1) (acc++o.toList) ar->K o ar) ->
   jg C n cond (tX C n elt (ei ρ x frees (g a)) K) (ei ρ x frees (g a)) V)
  (hN:∀ acc V,I as.length acc V->Q (.ref V.length) (V++[.list acc])):wM C n elt x frees false cond Q ρ (.ref r) σ:=by
 unfold wM ip
 dsimp only;refine U hr ?_;dsimp only
 refine Iz I h0 (fun i y acc V K hx hI k=>?_) fun acc V hI=>hN acc V ?_
 ·(refine bO ?_ (tS hx);rintro a ha rfl _)
  exact hs i a acc V K ha hI k
 ·rwa [List.length_map] at hI
theorem RC {elt:Ex} {x:Nm} {frees:List Nm} {cond:Option Ex} (m:Nat) (I:Nat->List AV->AH->Prop) {z:Int} (hz:z=m) (hm:m<=1000000) (h0:I 0 [] σ)
  (hs:∀ i acc V (K:Option AV->AH->Prop),i<m->I i acc V->(∀ o ar,(acc++o.toList).length<=1000000->I (i+1) (acc++o.toList) ar->K o ar) ->
   jg C n cond (tX C n elt (ei ρ x frees (.int (i:Nat))) K) (ei ρ x frees (.int (i:Nat))) V)
  (hN:∀ acc V,I m acc V->Q (.ref V.length) (V++[.list acc])):wM C n elt x frees true cond Q ρ (.int z) σ:=by
 subst hz
 refine ⟨⟨Int.natCast_nonneg _,by lia⟩,?_⟩
 refine Iz I h0 (fun i y acc V K hx hI k=>?_) fun acc V hI=>hN acc V ?_
 ·(refine bO ?_ (tS hx);rintro a ha rfl _)
  (refine aM ?_ (List.getElem?_eq_some_iff.mp ha);intro hl ha)
  rw [List.getElem_range] at ha
  subst ha
  rw [List.length_range] at hl
  exact hs i acc V K hl hI fun o ar=>k o ar trivial
 ·rwa [List.length_map,List.length_range] at hI
end
def eD (k:Lean.Name) (a:Array Lean.Syntax):Lean.Syntax:=.node .none k a
def gI (s:String):Lean.Syntax:=.atom .none s
def wN (s:String):Lean.Syntax:=eD `PySem.W.tacticWtm_at_ #[gI "wtm_at",Lean.Syntax.mkStrLit s]
def rH (a:Array Lean.Syntax):Lean.Syntax:=eD `Lean.Parser.Tactic.tacticSeq #[eD `Lean.Parser.Tactic.tacticSeq1Indented #[eD `null a]]
def CM (a:Array Lean.Syntax):Lean.Syntax:=eD `Lean.Parser.Tactic.paren #[gI "(",rH a,gI ")"]
def CO (x:Lean.Syntax):Lean.Syntax:=eD `Lean.Parser.Tactic.withReducible #[gI "with_reducible",rH #[x]]
def IK (t:Lean.Syntax):Lean.Syntax:=eD `Lean.Parser.Tactic.exact #[gI "exact",t]
def IL (x:Lean.Syntax):Lean.Syntax:=CM #[eD `Lean.Parser.Tactic.failIfSuccess #[gI "fail_if_success",rH #[x]]]
def IM (x y:Lean.Syntax):Lean.Syntax:=eD `Lean.Parser.Tactic.first #[gI "first",eD `null #[eD `group #[gI "|",rH #[x]],eD `group #[gI "|",rH #[y]]]]
def CP (k:Lean.Name) (s:String):Lean.Syntax:=eD k #[gI s,eD `Lean.Parser.Tactic.optConfig #[eD `null #[]]]
def wRest (t:String):Option Lean.Syntax :=
 let q:=t.startsWith "?"
 match t.splitOn "|" with
 | _::y::l=>if y.isEmpty then none else some (wN ((if q then "?" else "")++"|".intercalate (y::if l.isEmpty then [""] else l)))
 | _=>none
def wHead (t:String):Option Lean.Syntax :=
 let q:=t.startsWith "?"
 match t.splitOn "|" with
 | u::_::_=>(match (if q then (u.drop 1).toString else u).splitOn " " with
  | []=>none
  | y::ys =>
   if y.startsWith "=" then some (wN (y.drop 1).toString) else
   let n:=(Lean.mkIdent y.toName).raw
   if ys.isEmpty&&!q then some (CO (IK n)) else
   let p:=eD `Lean.Parser.Term.app #[n,eD `null (Array.replicate (ys.length+if q then 1 else 0) (eD `Lean.Parser.Term.hole #[gI "_"]))]
   let a:=CO (CM #[IL (IL (eD `Lean.Parser.Tactic.refine' #[gI "refine'",p])),gI ";",eD `Lean.Parser.Tactic.apply #[gI "apply",n]])
   if ys.isEmpty then some a else
   some (IM (ys.foldl (fun a z=>CM #[a,gI ";",eD `Lean.cdot #[eD `Lean.cdotTk #[gI "·"],rH #[wN z]]]) a) (eD `Lean.Parser.Tactic.fail #[gI "fail",eD `null #[]])))
 | _ =>
  let s:=eD `Lean.Parser.Tactic.assumption #[gI "assumption"]
  match t with
  | "as"=>some (CO s)
  | "asd"=>some s
  | "r"=>some (IK (Lean.mkIdent `rfl).raw)
  | "dec"=>some (CP `Lean.Parser.Tactic.decide "decide")
  | "lia"=>some (IM (CP `Lean.Parser.Tactic.lia "lia") (CP `Lean.Parser.Tactic.omega "omega"))
  | _=>(("ne:=as|Ne.symm as|=lia / h:=as|gs h|gl|ga h|mH as as as|tZ as as as|gU as as as|mI as as as|oq as|jX as|wg as r|jO ne h|=asd / f:=as|=r|=asd / rd:=r|=asd / ad:=as|=asd / n:=as|w_lt|=dec|Nat.le_of_ble_eq_true r|=lia|=ln / a:=as|abN as r|oz as r|Ua as as|ab5 as as|t3 as as as r|abO as r|Ip h f|lK h f|YM h|YL h|YO|YN|Q8 n f g|Q7 n f|YI h n ad g|Q6 h n f|YJ h f|YK h f|=r / v:Cp rd|wD|YQ|YR|YT|YS|YV v a|v_sub v v a|YU v a|YW v a|v_add v v|YZ v v|Y1 v v n|v_mul v v as|Zh vs n|Y5 v na|Y6 v na nb|v_eq v v e|Y4 v v e nb|v_not v r nb|Y7 v|Y8 v r v|Y9 v r|Za v|Zb v r v|Zd v r|Y3 v v d|Y0 v v n n|v_mod v v n|v_shr v v n|v_pow v n n|Zi v v|Zj v v|Zk v h|Zl v|YX v v n n|YY v v n n|Zn v v h f|Zo v v h f nb|Zp v v h f|Zq v v v h f|Ze c v|Zf c v / vs:Iq|Zg v vs / d:aaT as|aaX as|aaU as|aaY as|aaV as|aaZ as|aaW as|aa0 as|aaT dec|aaX dec|aaU dec|aaY dec|aaV dec|aaZ dec|aaW dec|aa0 dec|aaT lia|aaX lia|aaU lia|aaY lia|aaV lia|aaZ lia|aaW lia|aa0 lia|aaT ln|aaX ln|aaU ln|aaY ln|aaV ln|aaZ ln|aaW ln|aa0 ln / e:=as|e_t r|e_t as|e_f as|e_f dec|e_f lia|e_t lia|e_f ln|e_t ln|e_i|acd f f f / i01:YA|YB|YC as as / na:YD|YE|YF|YG|YH|abP|abQ|=as / nb:NB.t|NB.f / c:Zu v v d|Zx v v e|Zy v v e nb|ZA v na|ZB v na nb|Zr rd r|Zt c nb|ZH|ZE|ZJ c|ZI c c|ZG c|ZF c c|ZC v v h f|ZD v v h f nb|ZK v i01|ZL v i01 nb|Zv v v d v d|Zw v v d / s:?aaA v|t_c c|aaB v|aaD|p6|aaJ v r|aaK v h r|aaE v v h dec|Iy v v h dec|aaF v v v h n n|aaG v v v h n|aaH v v h n|aaL rd v|aaM rd v|aaN rd v h h n|aaO v h f v dec|aaP v h f v n / k:?Rr|aan|ZU r|ZW|ZX|ZZ|Z0|Z3|Z4|aap|aaq|aar|aaR|aaQ|aaS|aac|Z9 v|aaa|Rp e|aab e|Rq e|aaf v|aag|aah|k_sub|aa1 as|aai n|aaj n n|aak n|aal h h n|aas v h dec|Cy v h dec|aau v h n|aaw v v h n n|aax v v h n|aa5 v|aa6 h n n|aa7 h n|aa9|CK h h n|abc|abe n|abg n|abj|abk|abm v d|abo v h f|k_is na|abq na nb|abs a|IH a|abv v a|abw|abx|abA r|abB r|abD r nb|aa4 h n|abE|abF|abG h|abH|abI|abJ|aaz r|aaI|Rs r|Rt h r / x:?abK|abL|Ro c|ZT vs|abb|ZV|Z1|Z5|ZY|Z2|Z8 v|Z7|abl|abn|abp|ZM v|w_call vs|aba|Iu vs n|abf|abd|abh vs|RB v|abi|Iv|ZO v|ZR v h v n|aa3 v h|ZS v h|ZP v h vs|ZQ vs|abr|abM|abt v|abu|w_ite|aby|abz|w_and|abC|Z6 v|w_eq|aae v|aad|aao|Iw|aaC|aam|Ix|aat|aav|aay|aa8 rd|aa2".splitOn " / ").find? (·.startsWith (t++":"))).map fun l=>wN (l.drop (t.length+1)).toString
theorem RD:(∀ {α:Type} (a b:List α),(a++b).length=a.length+b.length)/\(∀ {α β:Type} (f:α->β) (a:List α),(a.map f).length=a.length)/\(∀ {α:Type} (x:α) (a:List α),(x::a).length=a.length+1)/\(∀ {α:Type},([]:List α).length=0)/\(∀ {α:Type} (a:List α) (n:Nat) (x:α),(a.set n x).length=a.length)/\∀ {α:Type} (a:List α),a.reverse.length=a.length :=
 ⟨fun _ _=>List.length_append,fun _ _=>List.length_map _,fun _ _=>rfl,rfl,fun _ _ _=>List.length_set,fun _=>List.length_reverse⟩
local macro_rules | `(tactic| wtm_at $s:str)=>do
 match s.getString with
 | "ln"=>`(tactic| (simp only [RD];wtm_at "=dec|=lia"))
 | "g"=>`(tactic| first | exact rfl | (dsimp only;exact rfl))
 | "w"=>`(tactic| repeat wtm_at "=s|=k|=x")
 | _=>Lean.Macro.throwUnsupported
local macro_rules | `(tactic| wtm_at $s:str)=>match wRest s.getString with
 | some x=>return x
 | none=>Lean.Macro.throwUnsupported
local macro_rules | `(tactic| wtm_at $s:str)=>match wHead s.getString with
 | some x=>return x
 | none=>Lean.Macro.throwUnsupported
inductive Vl where
 | dat (c:Int) | ref (n:Nat) | str (a b:Vl) | bQ (n:Nat) (off:Nat) (p:List Int)
inductive Pv where
 | dat (c:Int) | ref (a:Int) | str (a b:Pv) | bQ (w:Int) (p:List Int)
noncomputable def ej (p:List Int):AV:=.tup (p.map AV.int)
noncomputable def lv:Vl->AV
 | .dat c=>.tup [.int 1,.int c]
 | .ref n=>.tup [.int 4,.int n]
 | .str a b=>.tup [.int 5,.int 64,.tup [lv a,lv b]]
 | .bQ n off p=>.tup [.int 6,.int n,.int off,ej p]
noncomputable def pv:Pv->AV
 | .dat c=>.tup [.int 1,.int c]
 | .ref a=>.tup [.int 4,.int a]
 | .str a b=>.tup [.int 5,.int 64,.tup [pv a,pv b]]
 | .bQ w p=>.tup [.int 6,.tup [.int 3,.int w,ej p]]
noncomputable def sv (A:Nat->Int):Vl->Pv
 | .dat c=>.dat c
 | .ref n=>.ref (A n)
 | .str a b=>.str (sv A a) (sv A b)
 | .bQ n off p=>.bQ (A n+off) p
structure aq where
 num:Nat
 slots:List Vl
 gen:Nat
set_option genInjectivity true in
structure Th where
 af:Nat
 addr:Int
 slots:List Pv
 gen:Nat
 size:Nat
structure Mo where
 ns:List Int
 d:Nat
 asked:Option (List (Int × List Int))
 bits:Nat
 rows:List aq
 rl:List Nat
 roots:List Vl
 cells:List Pv
 cards:List Int
 count:Int
 made:Nat
 lay:Option (List (Nat × Int) × List (Nat × Nat))
 ac:List Th
 tl:List Nat
 idx:List (Int × Nat)
 bv:List Int
 top:Int
 limit:Int
 fresh:Int
 young:Int
 moved:Int
 hmade:Nat
inductive Tg where
 | nums | d | asked | w | rows | roots | cells | cards | addrs | words | heap | ph | things | idx | bv | fZ | ready | frames | statics
 | row (n:Nat) | cb (n:Nat) | aR (n:Nat) | bj (n:Nat)
 deriving DecidableEq
theorem Tg.row.inj {n m:Nat} (h:Tg.row n=.row m):n=m:=by injection h
theorem Tg.aR.inj {n m:Nat} (h:Tg.aR n=.aR m):n=m:=by injection h
theorem Tg.cb.inj {n m:Nat} (h:Tg.cb n=.cb m):n=m:=by injection h
theorem Tg.bj.inj {n m:Nat} (h:Tg.bj n=.bj m):n=m:=by injection h
noncomputable def cx (l:List Int):List (Int × AV):=l.map fun k=>(k,.int 1)
noncomputable def kP (x:Int × List Int):AV:=.tup [.int x.1,ej x.2]
noncomputable def aO (M:Mo) (pos:Tg->Nat):Tg->Option AO
 | .nums=>some (.list (M.ns.map AV.int))
 | .d=>some (.list [.int M.d])
 | .asked=>M.asked.map fun l=>.list (l.map kP)
 | .w=>some (.bl ([(.fg,.int M.bits),(.dh,.ref (pos .rows)),(.eX,.ref (pos .roots)),(.fh,.ref (pos .cells)),(.de,.ref (pos .cards)),(.dJ,.int M.count),(.dg,.int M.made),(.aF,.ref (pos .heap)),(.g7,.ref (pos .ph))] ++
   (match M.lay with | some _=>[(.eH,.ref (pos .addrs)),(.cT,.ref (pos .words))] | none=>[])))
 | .rows=>some (.list (M.rl.map fun n=>.ref (pos (.row n))))
 | .roots=>some (.list (M.roots.map lv))
 | .cells=>some (.list (M.cells.map pv))
 | .cards=>some (.an (cx M.cards))
 | .addrs=>M.lay.map fun l=>.an (l.1.map fun x=>((x.1:Int),.int x.2))
 | .words=>M.lay.map fun l=>.list (l.2.map fun x=>.tup [.ref (pos (.row x.1)),.int x.2])
 | .heap=>some (wA (pos .things) (pos .idx) M.top M.limit (pos .bv) M.bits M.fresh M.young (pos .fZ) (pos .ready) M.moved M.hmade)
 | .ph=>some (.inst .fS [(.aF,.ref (pos .heap)),(.lx,.ref (pos .frames)),(.lA,.ref (pos .statics))])
 | .things=>some (.list (M.tl.map fun n=>.ref (pos (.aR n))))
 | .idx=>some (.an (M.idx.map fun x=>(x.1,.ref (pos (.aR x.2)))))
 | .bv=>some (.an (cx M.bv))
 | .fZ=>some (.list [])
 | .ready=>some (.list [])
 | .frames=>some (.an [])
 | .statics=>some (.an [])
 | .row n=>(M.rows.find? fun r=>r.num=n).map fun r=>.list [.int r.num,.ref (pos (.cb n)),.int r.gen]
 | .cb n=>(M.rows.find? fun r=>r.num=n).map fun r=>.list (r.slots.map lv)
 | .aR n=>(M.ac.find? fun t=>t.af=n).map fun t=>eO t.addr 12 (pos (.bj n)) t.gen t.size t.af
 | .bj n=>(M.ac.find? fun t=>t.af=n).map fun t=>.list (t.slots.map pv)
structure Wd (M:Mo) (pos:Tg->Nat) (σ:AH):Prop where
 inj:∀ t t',aO M pos t≠none->aO M pos t'≠none->pos t=pos t'->t=t'
 get:∀ t o,aO M pos t=some o->σ[pos t]?=some o
noncomputable def Gr (σ V:AH):Prop:=∀ (r:Nat) (o:AO),σ[r]?=some o->V[r]?=some o
theorem Gr.refl (σ:AH):Gr σ σ:=fun Y Y e=>e
theorem Gr.trans {σ V ar:AH} (x:Gr σ V) (y:Gr V ar):Gr σ ar:=fun r o e=>y r o (x r o e)
theorem Gr.app (σ:AH) (o:AO):Gr σ (σ++[o]):=fun r o' e=>ga e
noncomputable def cm (M:Mo) (pos:Tg->Nat) (r:Nat):Prop:=∀ t,aO M pos t≠none->pos t≠r
structure aL (M:Mo) (pos:Tg->Nat) (σ:AH) (M':Mo) (pos':Tg->Nat) (V:AH):Prop where
 keep:∀ r o,cm M pos r->σ[r]?=some o->V[r]?=some o
 new:∀ t,aO M' pos' t≠none->(∃ t0,aO M pos t0≠none/\pos t0=pos' t)∨σ[pos' t]?=none
section
variable {M M' iU:Mo} {pos pos' iD:Tg->Nat} {σ V ar:AH}
theorem aL.refl:aL M pos σ M pos σ:=⟨fun Y Y Y e=>e,fun t h=>.inl (aB t h rfl)⟩
theorem aL.out (x:aL M pos σ M' pos' V) {r:Nat} {o:AO} (h:cm M pos r) (e:σ[r]?=some o):cm M' pos' r:=fun t ht hr=>by
 rcases x.new t ht with ⟨t0,h0,e0⟩ | h0
 ·exact h t0 h0 (e0.trans hr)
 ·rw [hr,e] at h0;exact dQ h0
theorem aL.trans (x:aL M pos σ M' pos' V) (y:aL M' pos' V iU iD ar):aL M pos σ iU iD ar where
 keep:=fun r o h e=>y.keep r o (x.out h e) (x.keep r o h e)
 new:=fun t ht=>by
  rcases y.new t ht with ⟨t0,h0,e0⟩ | h0
  ·rcases x.new t0 h0 with ⟨t1,h1,e1⟩ | h1
   ·exact .inl (aB t1 h1 (e1.trans e0))
   ·exact .inr (e0 ▸ h1)
  ·by_cases hw:∃ t1,aO M pos t1≠none/\pos t1=iD t
   ·exact .inl hw
   ·refine .inr ?_
    induction e:σ[iD t]? with
    | none=>rfl
    | some o =>
     have:=x.keep _ o (fun t1 h1 e1=>hw (aB t1 h1 e1)) e
     rw [this] at h0;exact dQ h0
theorem aL.gr (x:Gr σ V):aL M pos σ M pos V:=⟨fun r o Y e=>x r o e,fun t h=>.inl (aB t h rfl)⟩
theorem Wd.gr (W:Wd M pos σ) (x:Gr σ V):Wd M pos V:=⟨W.inj,fun t o e=>x _ _ (W.get t o e)⟩
theorem Wd.ne (W:Wd M pos σ) {t t':Tg} (h:t≠t') {o o':AO} (e:aO M pos t=some o) (e':aO M pos t'=some o'):pos t≠pos t':=fun q=>h (W.inj t t' (by refine U e ?_;simp) (by refine U e' ?_;simp) q)
theorem Wd.upd (W:Wd M pos σ) {t:Tg} {o o':AO} (e:aO M pos t=some o) (e':aO M' pos t=some o') (h:∀ t',t'≠t->aO M' pos t'=aO M pos t') :
  Wd M' pos (σ.set (pos t) o')/\aL M pos σ M' pos (σ.set (pos t) o'):=by
 have lv:∀ t',aO M' pos t'≠none->aO M pos t'≠none:=fun t' ht=>by
  by_cases q:t'=t
  ·subst q;refine U e ?_;simp
  ·refine aT (h t' q ..) ?_;exact ht
 refine ⟨⟨fun a b ha hb=>W.inj a b (lv a ha) (lv b hb),fun t' rI lL=>?_⟩,⟨fun r rI ho er=>?_,fun t' ht=>.inl (aB t' (lv t' ht) rfl)⟩⟩
 ·by_cases q:t'=t
  ·subst q
   rw [e'] at lL;(revert lL;refine si ?_;rintro rfl)
   exact gs (W.get _ _ e)
  ·refine U (gn (fun z=>q (W.inj t' t (lv t' (by rw [lL];simp)) (by rw [e];simp) z.symm)) ..) ?_
   exact W.get t' rI (by refine aT (h t' q ..) ?_;exact lL)
 ·refine U (gn (ho t (by rw [e];simp)) ..) ?_;exact er
theorem Wd.other (W:Wd M pos σ) {r:Nat} {o:AO} (h:cm M pos r):Wd M pos (σ.set r o) :=
 ⟨W.inj,fun t o' e=>by refine U (gn (Ne.symm (h t (by rw [e];simp))) ..) ?_;exact W.get t o' e⟩
theorem Wd.fresh (W:Wd M pos σ) {r:Nat} (h:σ.length<=r):cm M pos r:=fun t ht e=>by
 induction q:aO M pos t with
 | none=>exact ht q
 | some o =>
  have:=jN (W.get t o q)
  rw [e] at this
  exact absurd this (Nat.not_lt.mpr h)
theorem Wd.app (W:Wd M pos σ) (o:AO):Wd M pos (σ++[o]):=W.gr (Gr.app σ o)
noncomputable def cn (pos:Tg->Nat) (t:Tg) (r:Nat):Tg->Nat:=fun x=>if x=t then r else pos x
theorem iW {t:Tg} {r:Nat}:cn pos t r t=r:=by simp [cn]
theorem ft {t x:Tg} {r:Nat} (h:x≠t):cn pos t r x=pos x:=by simp [cn,h]
theorem Wd.CQ (W:Wd M pos σ) (h1:∀ t,aO M pos' t=aO M pos t) (h2:∀ t,aO M pos t≠none->pos' t=pos t):Wd M pos' σ :=
 ⟨fun a b ha hb e=>by
  rw [h1] at ha hb
  rw [h2 a ha,h2 b hb] at e
  exact W.inj a b ha hb e,fun t o e=>by
  rw [h1] at e
  refine U (h2 t (by rw [e];simp) ..) ?_
  exact W.get t o e⟩
theorem Wd.add (W:Wd M pos σ) {t:Tg} {o:AO} (he:aO M' pos t=some o) (hs:∀ t',t'≠t->aO M' pos t'=aO M pos t') (hg:σ[pos t]?=some o) (hf:cm M pos (pos t)) :
  Wd M' pos σ/\∀ aX,Gr aX σ->aX[pos t]?=none->aL M pos aX M' pos σ:=by
 have lv:∀ t',t'≠t->aO M' pos t'≠none->aO M pos t'≠none:=fun t' q ht=>by refine aT (hs t' q ..) ?_;exact ht
 refine ⟨⟨fun a b ha hb e=>?_,fun t' o' e'=>?_⟩,fun aX g h0=>⟨fun r o' Y e=>g r o' e,fun t' ht=>?_⟩⟩
 ·by_cases qa:a=t <;> by_cases qb:b=t
  ·exact U qa (U qb rfl)
  ·subst qa;exact absurd e.symm (hf b (lv b qb hb))
  ·subst qb;exact absurd e (hf a (lv a qa ha))
  ·exact W.inj a b (lv a qa ha) (lv b qb hb) e
 ·by_cases q:t'=t
  ·subst q;rw [he] at e';(revert e';refine si ?_;rintro rfl);exact hg
  ·exact W.get t' o' (by refine aT (hs t' q ..) ?_;exact e')
 ·by_cases q:t'=t
  ·subst q;exact .inr h0
  ·exact .inl (aB t' (lv t' q ht) rfl)
theorem Wd.move (W:Wd M pos σ) {t k:Tg} {r:Nat} {o' ok ok':AO} (tY:k≠t) (hr:cm M pos r) (e:σ[r]?=some o') (ek:aO M pos k=some ok) (e1:aO M' (cn pos t r) t=some o') (e2:aO M' (cn pos t r) k=some ok')
  (hs:∀ t',t'≠t->t'≠k->aO M' (cn pos t r) t'=aO M pos t') :
  Wd M' (cn pos t r) (σ.set (pos k) ok')/\∀ aX,Gr aX σ->aX[r]?=none->aL M pos aX M' (cn pos t r) (σ.set (pos k) ok'):=by
 have lv:∀ t',t'≠t->aO M' (cn pos t r) t'≠none->aO M pos t'≠none:=fun t' q ht=>by
  by_cases qk:t'=k
  ·subst qk;refine U ek ?_;simp
  ·refine aT (hs t' q qk ..) ?_;exact ht
 have pn:∀ t',t'≠t->cn pos t r t'=pos t':=fun t' q=>ft q
 have RE:pos k≠r:=hr k (by refine U ek ?_;simp)
 refine ⟨⟨fun a b ha hb eq=>?_,fun t' rI e'=>?_⟩,fun aX g h0=>⟨fun r' rI ho e'=>?_,fun t' ht=>?_⟩⟩
 ·by_cases qa:a=t <;> by_cases qb:b=t
  ·exact U qa (U qb rfl)
  ·subst qa;rw [iW,pn b qb] at eq;exact absurd eq.symm (hr b (lv b qb hb))
  ·subst qb;rw [iW,pn a qa] at eq;exact absurd eq (hr a (lv a qa ha))
  ·rw [pn a qa,pn b qb] at eq;exact W.inj a b (lv a qa ha) (lv b qb hb) eq
 ·by_cases q:t'=t
  ·subst q
   rw [e1] at e';(revert e';refine si ?_;rintro rfl)
   refine U iW (U (gn RE ..) ?_);exact e
  ·refine U (pn t' q ..) ?_
   by_cases qk:t'=k
   ·subst qk;rw [e2] at e';(revert e';refine si ?_;rintro rfl);exact gs (W.get _ _ ek)
   ·have hl:=lv t' q (by refine U e' ?_;simp)
    refine U (gn (fun z=>qk (W.inj t' k hl (by rw [ek];simp) z.symm)) ..) ?_
    exact W.get t' rI (by refine aT (hs t' q qk ..) ?_;exact e')
 ·refine U (gn (ho k (by rw [ek];simp)) ..) ?_;exact g r' rI e'
 ·by_cases q:t'=t
  ·subst q;refine U iW ?_;exact .inr h0
  ·exact .inl (aB t' (lv t' q ht) (pn t' q).symm)
theorem p8 {r:aq}:∀ {l:List aq},(l.map (·.num)).Nodup->r∈l->l.find? (fun x=>x.num=r.num)=some r
 | a::l,hn,h=>by
  refine U List.find?_cons ?_
  rw [List.map_cons,List.nodup_cons] at hn
  rcases List.mem_cons.mp h with rfl | h
  ·simp
  ·have:a.num≠r.num:=fun e=>hn.1 (by refine U e ?_;exact List.mem_map_of_mem (f:=(·.num)) h)
   simp only [this,decide_false]
   exact p8 hn.2 h
theorem wO {r:Th}:∀ {l:List Th},(l.map (·.af)).Nodup->r∈l->l.find? (fun x=>x.af=r.af)=some r
 | a::l,hn,h=>by
  refine U List.find?_cons ?_
  rw [List.map_cons,List.nodup_cons] at hn
  rcases List.mem_cons.mp h with rfl | h
  ·simp
  ·have:a.af≠r.af:=fun e=>hn.1 (by refine U e ?_;exact List.mem_map_of_mem (f:=(·.af)) h)
   simp only [this,decide_false]
   exact wO hn.2 h
noncomputable def em (M:Mo) (pos:Tg->Nat):List (Nm × AV):=[(.fk,.ref (pos .things)),(.bz,.ref (pos .idx)),(.eY,.int M.top),(.lz,.int M.limit),(.de,.ref (pos .bv)),(.o7,.int M.bits),(.fj,.int M.fresh),(.vq,.int M.young),(.l6,.ref (pos .fZ)),(.pf,.ref (pos .ready)),(.qJ,.int M.moved),(.dg,.int M.hmade)]
noncomputable def lN (pos:Tg->Nat) (t:Th):List (Nm × AV):=[(.bM,.int t.addr),(.ly,.int 12),(.di,.ref (pos (.bj t.af))),(.aW,.int t.gen),(.eI,.int t.size),(.jz,.int t.af)]
theorem wg (W:Wd M pos σ) {t:Tg} {o:AO} (e:aO M pos t=some o):σ[pos t]?=some o:=W.get t o e
theorem abN (W:Wd M pos σ) {f:Nm} {v:AV} (h:fT (em M pos) f=some v):gD σ (.ref (pos .heap)) f=some v:=lK (W.get .heap _ rfl) h
theorem abO (W:Wd M pos σ) {f:Nm} {v:AV} (h:fT [(.aF,.ref (pos .heap)),(.lx,.ref (pos .frames)),(.lA,.ref (pos .statics))] f=some v):gD σ (.ref (pos .ph)) f=some v:=lK (W.get .ph _ rfl) h
theorem n5 {r:aq} (hn:(M.rows.map (·.num)).Nodup) (h:r∈M.rows):M.rows.find? (fun x=>x.num=r.num)=some r:=p8 hn h
theorem fu {r:Th} (hn:(M.ac.map (·.af)).Nodup) (h:r∈M.ac):M.ac.find? (fun x=>x.af=r.af)=some r:=wO hn h
theorem mH (W:Wd M pos σ) (hn:(M.ac.map (·.af)).Nodup) {t:Th} (ht:t∈M.ac):σ[pos (.aR t.af)]?=some (.inst .gB (lN pos t)):=W.get (.aR t.af) _ (congrArg (Option.map fun u:Th=>eO u.addr 12 (pos (.bj t.af)) u.gen u.size u.af) (fu hn ht))
theorem tZ (W:Wd M pos σ) (hn:(M.ac.map (·.af)).Nodup) {t:Th} (ht:t∈M.ac):σ[pos (.bj t.af)]?=some (.list (t.slots.map pv)):=W.get (.bj t.af) _ (congrArg (Option.map fun u:Th=>AO.list (u.slots.map pv)) (fu hn ht))
theorem t3 (W:Wd M pos σ) (hn:(M.ac.map (·.af)).Nodup) {t:Th} (ht:t∈M.ac) {f:Nm} {v:AV} (h:fT (lN pos t) f=some v):gD σ (.ref (pos (.aR t.af))) f=some v:=lK (mH W hn ht) h
theorem gU (W:Wd M pos σ) (hn:(M.rows.map (·.num)).Nodup) {r:aq} (hr:r∈M.rows):σ[pos (.row r.num)]?=some (.list [.int r.num,.ref (pos (.cb r.num)),.int r.gen]):=W.get (.row r.num) _ (congrArg (Option.map fun u:aq=>AO.list [.int u.num,.ref (pos (.cb r.num)),.int u.gen]) (n5 hn hr))
theorem mI (W:Wd M pos σ) (hn:(M.rows.map (·.num)).Nodup) {r:aq} (hr:r∈M.rows):σ[pos (.cb r.num)]?=some (.list (r.slots.map lv)):=W.get (.cb r.num) _ (congrArg (Option.map fun u:aq=>AO.list (u.slots.map lv)) (n5 hn hr))
end
theorem abP {u:Vl}:NA (lv u) false:=⟨by induction u using Vl.casesOn <;> rfl⟩
theorem abQ {u:Pv}:NA (pv u) false:=⟨by induction u using Pv.casesOn <;> rfl⟩
noncomputable def dw:Pv->List Int->Option Pv
 | v,[]=>some v
 | .str a b,s::p=>if s=0 then dw a p else if s=1 then dw b p else none
 | _,_::_=>none
noncomputable def gk:Pv->List Int->Pv->Pv
 | _,[],x=>x
 | .str a b,s::p,x=>if s=0 then .str (gk a p x) b else .str a (gk b p x)
 | v,_::_,x=>v
@[reducible] noncomputable def oP:Option Pv->AV
 | some v=>pv v
 | none=>.none
section
variable {C:Cx} {σ:AH} {Q:AV->AH->Prop}
theorem CR (G:Good C) {v:Pv} {p:List Int} (q:Q (oP (dw v p)) σ):FW C 1 .vr [pv v,ej p] Q σ:=by
 refine bo G (b:=Ap) (ps:=Bo) rfl rfl rfl rfl ?_
 delta Bo Ap
 wtm_at "w"
 refine CL (as:=p) (g:=AV.int) (fun i ae V=>V=σ/\∃ v',ae .bb=some (pv v')/\dw v' (p.drop i)=dw v p) (lZ rfl v rfl rfl) ?_ ?_
 ·(intro i s ae V K hs;refine vc ?_;rintro rfl v' hv hp;intro k)
  (refine aM ?_ (List.getElem?_eq_some_iff.mp hs);rintro aS rfl)
  rw [List.drop_eq_getElem_cons aS] at hp
  induction v' using Pv.casesOn with
  | str a b =>
   simp only [dw] at hp
   by_cases h0:p[i]<0
   ·rw [if_neg (by lia),if_neg (by lia)] at hp
    rw [<- hp] at q;wtm_at "w";exact q
   ·by_cases h2:2<=p[i]
    ·rw [if_neg (by lia),if_neg (by lia)] at hp
     rw [<- hp] at q;wtm_at "w";exact q
    ·by_cases h3:p[i]=0
     ·rw [if_pos h3] at hp
      generalize p[i]=s at *
      subst h3
      wtm_at "w"
      exact k _ _ (lZ rfl a rfl hp)
     ·have h4:p[i]=1:=by lia
      rw [if_neg h3,if_pos h4] at hp
      generalize p[i]=s at *
      subst h4
      wtm_at "w"
      exact k _ _ (lZ rfl b rfl hp)
  | _=>rw [<- hp] at q;wtm_at "w";exact q
 ·(intro ae V;refine vc ?_;rintro rfl v' hv hp)
  rw [List.drop_length,show dw v' []=some v' by induction v' using Pv.casesOn <;> rfl] at hp
  rw [<- hp] at q
  wtm_at "w"
  exact q
end
section
variable {C:Cx} {σ:AH} {Q:AV->AH->Prop}
theorem CS (G:Good C) {r sl:Nat} {a k g z e i:Int} (h:σ[r]?=some (eO a k sl g z e)) (q:Q (.int (a+2+i)) σ):FW C 1 .vw [.ref r,.int i] Q σ:=by
 refine bo G (b:=AA) (ps:=Bz) rfl rfl rfl rfl ?_
 delta Bz AA
 wtm_at "w"
 exact q
end
theorem Gr.set {σ V:AH} {r:Nat} {o:AO} (x:Gr σ V) (h:σ[r]?=none):Gr σ (V.set r o):=fun r' o' e=>by
 have bu:r≠r':=by rintro rfl;rw [h] at e;exact aZ e
 refine U (gn bu ..) ?_;exact x r' o' e
theorem cL {σ:AH}:σ[σ.length]?=none:=by simp
theorem mJ {σ:AH} {r:Nat} (h:σ.length<=r):σ[r]?=none:=by simp [h]
theorem Gr.none {σ V:AH} {r:Nat} (x:Gr σ V) (h:V[r]?=none):σ[r]?=none:=by
 induction e:σ[r]? with
 | none=>rfl
 | some o=>rw [x r o e] at h;exact dQ h
theorem Gr.len {σ V:AH} (x:Gr σ V):σ[V.length]?=Option.none:=x.none cL
theorem Gr.mK {σ V:AH} (x:Gr σ V) (o:AO):Gr σ (V++[o]):=x.trans (Gr.app _ _)
noncomputable def ch:Pv->Nat
 | .str a b=>1+ch a+ch b
 | _=>1
theorem RF (v:Pv):0<ch v:=by induction v using Pv.casesOn <;> simp [ch];lia
noncomputable def b8:Pv->List Int
 | .ref a=>if a=0 then [] else [a]
 | .str a b=>b8 a++b8 b
 | _=>[]
theorem wP:∀ (p q:List Int) (v:Pv),dw v (p++q)=(dw v p).bind fun u=>dw u q
 | [],q,v=>by simp [dw]
 | s::p,q,v=>by
  induction v using Pv.casesOn with
  | str a b =>
   simp only [List.cons_append,dw]
   split
   ·exact wP p q a
   ·split
    ·exact wP p q b
    ·rfl
  | _=>simp [dw]
theorem RG {v:Pv} {p:List Int} (h:dw v p≠none) {j:Nat} {s:Int} (hj:p[j]?=some s) :
  ∃ a b,dw v (p.take j)=some (.str a b)/\(s=0∨s=1)/\dw v (p.take (j+1))=some (if s=0 then a else b):=by
 (refine aM ?_ (List.getElem?_eq_some_iff.mp hj);intro aS he)
 have e1:p=p.take j++s::p.drop (j+1):=by
  exact aT he (aT (List.drop_eq_getElem_cons aS ..) (U (List.take_append_drop ..) rfl))
 have e2:p.take (j+1)=p.take j++[s]:=by refine U (List.take_add_one ..) (U hj ?_);rfl
 rw [e1,wP] at h
 induction hu:dw v (p.take j) with
 | none=>rw [hu] at h;exact absurd rfl h
 | some u =>
  rw [hu] at h
  refine U e2 (U (wP ..) (U hu ?_))
  induction u using Pv.casesOn with
  | str a b =>
   simp only [Option.bind_some,dw] at h ⊢
   refine (jb a b rfl ?_)
   by_cases h0:s=0
   ·exact ⟨.inl h0,by simp [h0]⟩
   ·by_cases h1:s=1
    ·exact ⟨.inr h1,by simp [h1]⟩
    ·simp [h0,h1] at h
  | _=>simp [dw] at h
section
variable {C:Cx} {σ:AH} {Q:AV->AH->Prop}
noncomputable def ie (v:Pv) (p:List Int) (j:Nat):Pv:=(dw v (p.take j)).getD (.dat 0)
theorem IN {v:Pv} {p:List Int} (h:dw v p≠none) {j:Nat} (hj:j<p.length) :
  ∃ a b,ie v p j=.str a b/\(p[j]=0/\ie v p (j+1)=a∨p[j]=1/\ie v p (j+1)=b):=by
 (refine cW ?_ (RG h (List.getElem?_eq_getElem hj));intro a b e1 e2 e3)
 refine (jb a b (by unfold ie;refine U e1 ?_;rfl) ?_)
 unfold ie
 refine U e3 ?_
 rcases e2 with e | e
 ·exact .inl ⟨e,by refine U (if_pos e ..) ?_;rfl⟩
 ·exact .inr ⟨e,by refine U (if_neg (by rw [e];decide) ..) ?_;rfl⟩
noncomputable def jR (v:Pv) (p:List Int) (i:Nat):List AV:=(List.range i).map fun j=>.tup [pv (ie v p j),.int ((p[j]?).getD 0)]
theorem RH {v:Pv} {p:List Int} {i:Nat} (h:i<p.length):jR v p (i+1)=jR v p i++[.tup [pv (ie v p i),.int p[i]]]:=by
 unfold jR
 refine U List.range_succ (U List.map_append (U List.map_singleton (U (List.getElem?_eq_getElem h ..) ?_)));rfl
theorem RI {v:Pv} {p:List Int} {i:Nat} (h:i<p.length):(jR v p p.length)[i]?=some (.tup [pv (ie v p i),.int p[i]]):=by
 unfold jR
 refine U List.getElem?_map (U (List.getElem?_range h ..) (U (Option.map_some ..) (U (List.getElem?_eq_getElem h ..) ?_)));rfl
theorem RJ {v x:Pv} {p:List Int} {m:Nat} {a b:Pv} (hm:m<p.length) (e:ie v p m=.str a b) :
  (p[m]=0->gk (ie v p m) (p.drop m) x=.str (gk a (p.drop (m+1)) x) b)/\(p[m]=1->gk (ie v p m) (p.drop m) x=.str a (gk b (p.drop (m+1)) x)):=by
 refine U (List.drop_eq_getElem_cons hm ..) (U e ?_)
 simp only [gk]
 exact ⟨fun h=>if_pos h,fun h=>if_neg (by refine U h ?_;decide)⟩
theorem IP {v:Pv} {p:List Int} {i:Nat}:(jR v p i).length=i:=by simp [jR]
theorem RK (G:Good C) {v x:Pv} {p:List Int} (hp:dw v p≠none) (hl:p.length<=100000) (q:∀ V,Gr σ V->Q (pv (gk v p x)) V):FW C 1 .yB [pv v,ej p,pv x] Q σ:=by
 refine bo G (b:=Aq) (ps:=Bp) rfl rfl rfl rfl ?_
 delta Bp Aq
 wtm_at "w"
 refine CL (as:=p) (g:=AV.int) (fun i ae V=>Gr σ V/\ae .qM=some (.ref σ.length)/\ae .qK=some (pv x)/\ae .sn=some (pv (ie v p i))/\V[σ.length]?=some (.list (jR v p i)))
  ⟨Gr.app _ _,rfl,rfl,by unfold ie;refine U (show dw v (p.take 0)=some v by induction v using Pv.casesOn <;> rfl) ?_;rfl,gl⟩ ?_ ?_
 ·(intro i s ae V K hs;refine nb ?_;intro hg h1 h2 h3 h4;intro k)
  (refine aM ?_ (List.getElem?_eq_some_iff.mp hs);rintro hi rfl)
  (refine oU ?_ (IN hp hi);intro a b e h)
  rw [e] at h3
  have h5:=RH (v:=v) hi
  rw [e] at h5
  have hle:(jR v p i).length=i:=IP
  generalize jR v p (i+1)=L at *
  rcases h with ⟨e0,rfl⟩ | ⟨e0,rfl⟩
  ·generalize p[i]=s at *
   subst e0
   wtm_at "w"
   exact k _ _ ⟨hg.set cL,h1,h2,rfl,by exact U (gs h4 ..) (U h5 rfl)⟩
  ·generalize p[i]=s at *
   subst e0
   wtm_at "w"
   exact k _ _ ⟨hg.set cL,h1,h2,rfl,by exact U (gs h4 ..) (U h5 rfl)⟩
 ·(intro ae V;refine nb ?_;intro hg h1 h2 h3 h4)
  wtm_at "w"
  refine rF p.length (fun m ρ'' ar=>m<=p.length/\Gr σ ar/\ρ'' .qM=some (.ref σ.length)/\ρ'' .cC=some (.int ((m:Int) - 1))/\ρ'' .qK=some (pv (gk (ie v p m) (p.drop m) x))/\ar[σ.length]?=some (.list (jR v p p.length)))
   ⟨Nat.le_refl _,hg,h1,by show some (AV.int (((List.range p.length).length:Int) - 1))=_;rw [List.length_range],by rw [List.drop_length,show ∀ u,gk u [] x=x from fun u=>by induction u using Pv.casesOn <;> rfl];exact h2,h4⟩ ?_
  (intro m ρ'' ar K;refine qF ?_;intro hm g1 g2 g3 g4 g5;intro k)
  cases m with
  | zero =>
   rw [show ie v p 0=v by unfold ie;refine U (show dw v (p.take 0)=some v by induction v using Pv.casesOn <;> rfl) ?_;rfl,List.drop_zero] at g4
   wtm_at "w"
   exact q _ g1
  | succ m =>
   (refine oU ?_ (IN hp hm);intro a b e h)
   (refine ay ?_ (RJ (x:=x) hm e);intro r0 r1)
   have iS:=RI (v:=v) hm
   rw [show (((m+1:Nat):Int) - 1)=(m:Int) by lia] at g3
   have hL:(jR v p p.length).length=p.length:=IP
   rw [e] at iS
   have hz:(0:Int)<=m:=Int.natCast_nonneg m
   rcases h with ⟨e0,rfl⟩ | ⟨e0,rfl⟩
   ·replace r0:=r0 e0
    clear r1
    generalize p[m]=s at *
    subst e0
    wtm_at "w"
    refine k m _ _ (Nat.lt_succ_self m) ⟨Nat.le_of_succ_le hm,g1,g2,rfl,by refine U r0 ?_;rfl,g5⟩
   ·replace r1:=r1 e0
    clear r0
    generalize p[m]=s at *
    subst e0
    wtm_at "w"
    refine k m _ _ (Nat.lt_succ_self m) ⟨Nat.le_of_succ_le hm,g1,g2,rfl,by refine U r1 ?_;rfl,g5⟩
end
section
variable {C:Cx} {σ:AH} {Q:AV->AH->Prop}
noncomputable def gm (l:List Pv):Nat:=(l.map ch).sum
theorem IQ:∀ l:List Pv,l.length<=gm l
 | []=>Nat.le_refl _
 | a::l=>by
  have:=IQ l
  have h:=RF a
  simp only [gm,List.map_cons,List.sum_cons,List.length_cons] at this ⊢
  lia
theorem IR (l m:List Pv):gm (l++m)=gm l+gm m:=by simp [gm]
theorem IS:∀ v:Pv,(b8 v).length<=ch v
 | .dat c=>by simp [b8,ch]
 | .ref a=>by simp [b8,ch];split <;> simp
 | .str a b=>by
  have:=IS a
  have:=IS b
  simp [b8,ch];lia
 | .bQ w p=>by simp [b8,ch]
theorem RM {F:List Int} {T:List Pv} {t:Pv} {v:Pv} (h:F++(T++[t]).reverse.flatMap b8=b8 v):F++(b8 t++T.reverse.flatMap b8)=b8 v:=by
 rw [List.reverse_append,List.reverse_singleton,List.singleton_append,List.flatMap_cons] at h;exact h
theorem IT {T:List Pv} {d c:Pv}:gm (T++[d,c])=gm T+ch d+ch c:=by refine U (IR ..) ?_;simp [gm];lia
structure RN (σ V:AH) (v:Pv) (ae:Loc) (m r r':Nat) (F:List Int) (T:List Pv):Prop where
 hm:m=gm T
 hb:F.length+gm T<=100000
 hF:F++T.reverse.flatMap b8=b8 v
 hg:Gr σ V
 h1:ae .vk=some (.ref r)
 h2:ae .eA=some (.ref r')
 h3:V[r]?=some (.list (F.map AV.int))
 h4:V[r']?=some (.list (T.map pv))
set_option maxHeartbeats 1000000 in
theorem wQ (G:Good C) {v:Pv} (hz:ch v<=100000) (q:∀ V r,Gr σ V->V[r]?=some (.list ((b8 v).map AV.int))->σ[r]?=none->Q (.ref r) V):FW C 1 .vu [pv v] Q σ:=by
 refine bo G (b:=Ar) (ps:=Bq) rfl rfl rfl rfl ?_
 delta Bq Ar
 induction v using Pv.casesOn with
 | dat c=>wtm_at "w";exact q _ _ (Gr.app _ _) gl cL
 | bQ w p=>wtm_at "w";exact q _ _ (Gr.app _ _) gl cL
 | ref a =>
  by_cases h:a=0
  ·subst h;wtm_at "w";exact q _ _ (Gr.app _ _) gl cL
  ·wtm_at "w";refine q _ _ (Gr.app _ _) ?_ cL
   refine U gl ?_;unfold b8;refine U (if_neg h ..) ?_;rfl
 | str a b =>
  wtm_at "w"
  have wR:σ[σ.length]?=Option.none:=cL
  have wS:σ[(σ++[AO.list []]).length]?=Option.none:=mJ (by simp)
  have bu:(σ++[AO.list []]).length≠σ.length:=by simp
  refine rF _ (fun m ae V=>∃ F T,RN σ V (.str a b) ae m σ.length (σ++[AO.list []]).length F T)
   ⟨[],[.str a b],rfl,by simpa [gm] using hz,by simp,(Gr.app _ _).mK _,rfl,rfl,by refine U (ga gl ..) ?_;rfl,by refine U gl ?_;rfl⟩ ?_
  generalize (σ++[AO.list []]).length=r' at wS bu ⊢
  generalize σ.length=r at wR bu ⊢
  (intro m ae V K;refine gA ?_;rintro F T ⟨rfl,hb,hF,hg,h1,h2,h3,h4⟩;intro k)
  rcases List.eq_nil_or_concat T with rfl | ⟨T',t,hT⟩
  ·wtm_at "w"
   rw [show F=b8 (.str a b) by simpa using hF] at h3
   exact q _ _ hg h3 wR
  ·rw [List.concat_eq_append] at hT
   subst hT
   replace hF:=RM hF
   rw [IR] at hb k
   rw [List.map_append,show [t].map pv=[pv t] from rfl] at h4
   wtm_at "w"
   have rJ:Gr σ (V.set r' (.list (T'.map pv))):=hg.set wS
   have f1:(V.set r' (.list (T'.map pv)))[r]?=some (.list (F.map AV.int)):=jO bu h3
   have f2:=gs (o':=.list (T'.map pv)) h4
   wtm_at "w"
   generalize V.set r' (.list (T'.map pv))=ai at rJ f1 f2 ⊢
   have e1:gm [t]=ch t:=by simp [gm]
   rw [e1] at hb k
   have RP:=IQ T'
   induction t using Pv.casesOn with
   | dat c=>wtm_at "w";exact k (gm T') _ _ (by simp [ch]) ⟨F,T',rfl,by lia,hF,rJ,h1,h2,f1,f2⟩
   | bQ w p=>wtm_at "w";exact k (gm T') _ _ (by simp [ch]) ⟨F,T',rfl,by lia,hF,rJ,h1,h2,f1,f2⟩
   | ref a' =>
    simp only [b8] at hF
    by_cases h0:a'=0
    ·rw [if_pos h0] at hF
     wtm_at "w";exact k (gm T') _ _ (by simp [ch]) ⟨F,T',rfl,by lia,hF,rJ,h1,h2,f1,f2⟩
    ·rw [if_neg h0,<- List.append_assoc] at hF
     simp only [ch] at hb
     wtm_at "w"
     exact k (gm T') _ _ (by simp [ch]) ⟨F++[a'],T',rfl,by simp;lia,hF,rJ.set wR,h1,h2,by refine U (gs f1 ..) (U List.map_append ?_);rfl,jO bu.symm f2⟩
   | str c d =>
    simp only [ch] at hb
    wtm_at "w"
    refine IA 3 ?_
    have f3:=gs (o':=.list (T'.map pv++[pv d])) f2
    wtm_at "w"
    refine k (gm T'+ch d+ch c) _ _ (by simp only [ch];lia) ⟨F,T'++[d,c],IT.symm,by refine U IT ?_;lia,?_,(rJ.set wS).set wS,h1,h2,jO bu (jO bu f1),by refine U (gs f3 ..) ?_;simp⟩
    simpa [b8] using hF
end
noncomputable def gV:Vl->Nat
 | .str a b=>1+gV a+gV b
 | _=>1
noncomputable def ci:Vl->Nat
 | .str a b=>1+max (ci a) (ci b)
 | _=>1
noncomputable def a0:Vl->List Nat
 | .dat _=>[]
 | .ref n=>if n=0 then [] else [n]
 | .str a b=>a0 a++a0 b
 | .bQ n _ _=>if n=0 then [] else [n]
noncomputable def bU:Vl->List Nat
 | .dat _=>[]
 | .ref n=>[n]
 | .str a b=>bU a++bU b
 | .bQ n _ _=>[n]
noncomputable def eQ:Vl->List Int->Option Vl
 | v,[]=>some v
 | .str a b,s::p=>if s=0 then eQ a p else if s=1 then eQ b p else none
 | _,_::_=>none
noncomputable def dW:Vl->List Int->Vl->Vl
 | _,[],x=>x
 | .str a b,s::p,x=>if s=0 then .str (dW a p x) b else .str a (dW b p x)
 | v,_::_,x=>v
@[reducible] noncomputable def oV:Option Vl->AV
 | some v=>lv v
 | none=>.none
noncomputable def fv:Pv->List Int
 | .ref a=>[a]
 | .bQ w _=>[w]
 | v=>b8 v
noncomputable def CT:Pv->Int
 | .dat _=>1
 | .ref _=>4
 | .str _ _=>5
 | .bQ _ _=>6
theorem RQ {σ:AH} {v:Pv}:gC σ (pv v) (.int 0)=some (.int (CT v)):=by induction v using Pv.casesOn <;> (delta gC vM;simp [pv,CT])
theorem CU:∀ v:Pv,∀ a∈b8 v,a≠0
 | .dat c,a,h=>by simp [b8] at h
 | .ref b,a,h=>by
  simp only [b8] at h
  split at h
  ·simp at h
  ·simp at h;subst h;assumption
 | .str x y,a,h=>by
  simp only [b8,List.mem_append] at h
  rcases h with h | h
  ·exact CU x a h
  ·exact CU y a h
 | .bQ w p,a,h=>by simp [b8] at h
theorem t4:∀ v:Vl,(a0 v).length<=gV v
 | .dat c=>by simp [a0,gV]
 | .ref a=>by simp [a0,gV];split <;> simp
 | .str a b=>by
  have:=t4 a
  have:=t4 b
  simp [a0,gV];lia
 | .bQ w _ p=>by simp [a0,gV];split <;> simp
section
variable {C:Cx} {σ:AH} {Q:AV->AH->Prop}
theorem RS (G:Good C) {v:Pv} (hz:ch v<=100000) (q:∀ V,Gr σ V->Q (.bool (!(b8 v).isEmpty)) V):FW C 2 .yF [pv v] Q σ:=by
 have main:CT v≠4->FW C 2 .yF [pv v] Q σ:=by
  intro bu
  have ht:=RQ (σ:=σ) (v:=v)
  refine bo G (b:=tE) (ps:=tK) rfl rfl rfl rfl ?_
  delta tK tE
  wtm_at "w"
  refine wQ G hz fun V r hg hr hn=>e9 (fun i ae ar=>ar=V/\(b8 v).take i=[]) hr ⟨rfl,rfl⟩ ?_ ?_
  ·(intro i a ae ar K ha;refine ay ?_;rintro rfl h1;intro k)
   have hm:=List.mem_of_getElem? ha
   have h0:=CU v a hm
   have:=q _ hg
   rw [show (b8 v).isEmpty=false from List.isEmpty_eq_false_iff.mpr (List.ne_nil_of_mem hm)] at this
   wtm_at "w"
   exact this
  ·(intro ae ar;refine ay ?_;rintro rfl h1)
   rw [List.take_length] at h1
   have:=q _ hg
   rw [h1] at this
   wtm_at "w"
   exact this
 induction v using Pv.casesOn with
 | ref a =>
  refine bo G (b:=tE) (ps:=tK) rfl rfl rfl rfl ?_
  delta tK tE
  have:=q σ (Gr.refl σ)
  unfold b8 at this
  by_cases h:a=0
  ·rw [if_pos h] at this
   wtm_at "w";exact this
  ·rw [if_neg h] at this
   wtm_at "w";exact this
 | _=>exact main (by first | exact (show (1:Int)≠4 by decide) | exact (show (5:Int)≠4 by decide) | exact (show (6:Int)≠4 by decide))
theorem RT (G:Good C) {v:Pv} (hz:ch v<=100000) (q:∀ V r,Gr σ V->V[r]?=some (.list ((fv v).map AV.int))->σ[r]?=none->Q (.ref r) V):FW C 2 .Fz [pv v] Q σ:=by
 refine bo G (b:=AG) (ps:=BF) rfl rfl rfl rfl ?_
 delta BF AG
 induction v using Pv.casesOn with
 | ref a=>wtm_at "w";exact q _ _ (Gr.app _ _) gl cL
 | bQ w p=>wtm_at "w";exact q _ _ (Gr.app _ _) gl cL
 | dat c=>wtm_at "w";exact wQ (v:=.dat c) G hz q
 | str a b=>wtm_at "w";exact wQ (v:=.str a b) G hz q
theorem IU {a b:Vl}:ci (.str a b)=max (ci a) (ci b)+1:=Nat.add_comm _ _
theorem p9 (G:Good C):∀ (v:Vl) {σ:AH} {Q:AV->AH->Prop},gV v<=100000->(∀ V r,Gr σ V->V[r]?=some (.list ((a0 v).map fun n=>.int (n:Nat)))->σ[r]?=none->Q (.ref r) V)->FW C (ci v) .nj [lv v] Q σ
 | .dat c,σ,Q,hz,q=>by
  refine bo G (b:=mD) (ps:=mG) rfl rfl rfl rfl ?_
  delta mG mD
  wtm_at "w";exact q _ _ (Gr.app _ _) gl cL
 | .ref n,σ,Q,hz,q=>by
  refine bo G (b:=mD) (ps:=mG) rfl rfl rfl rfl ?_
  delta mG mD
  by_cases h:n=0
  ·subst h
   wtm_at "w";exact q _ _ (Gr.app _ _) gl cL
  ·have h1:(0:Int)<n:=by lia
   wtm_at "w";exact q _ _ (Gr.app _ _) (by refine U gl ?_;unfold a0;refine U (if_neg h ..) ?_;rfl) cL
 | .bQ n off p,σ,Q,hz,q=>by
  refine bo G (b:=mD) (ps:=mG) rfl rfl rfl rfl ?_
  delta mG mD
  by_cases h:n=0
  ·subst h
   wtm_at "w";exact q _ _ (Gr.app _ _) gl cL
  ·have h1:(0:Int)<n:=by lia
   wtm_at "w";exact q _ _ (Gr.app _ _) (by refine U gl ?_;unfold a0;refine U (if_neg h ..) ?_;rfl) cL
 | .str a b,σ,Q,hz,q=>by
  simp only [gV] at hz
  have la:=t4 a
  have lb:=t4 b
  refine U IU ?_
  refine bo G (b:=mD) (ps:=mG) rfl rfl rfl rfl ?_
  delta mG mD
  wtm_at "w"
  refine FW.up (p9 G a (by lia) fun ai hG bA bD n₁=>?_) (Nat.le_max_left _ _)
  wtm_at "w"
  refine FW.up (p9 G b (by lia) fun aH iX dx bI rK=>?_) (Nat.le_max_right _ _)
  have abR:=dx _ _ bD
  wtm_at "w"
  exact q _ _ ((bA.trans dx).mK _) (by refine U gl (aT List.map_append ?_);rfl) (bA.trans dx).len
theorem wT (G:Good C) {dr ra:Nat} {l:List (Nm × AV)} {la:List (Int × AV)} {A:Nat->Int} (h1:σ[dr]?=some (.bl l)) (h2:fT l .eH=some (.ref ra)) (h3:σ[ra]?=some (.an la)) :
  ∀ (v:Vl) {Q:AV->AH->Prop},(∀ n∈bU v,bL la n=some (.int (A n)))->Q (pv (sv A v)) σ->FW C (ci v) .ku [.ref dr,lv v] Q σ
 | .dat c,Q,hn,q=>by
  refine bo G (b:=mC) (ps:=mF) rfl rfl rfl rfl ?_
  delta mF mC
  wtm_at "w";exact q
 | .ref n,Q,hn,q=>by
  refine bo G (b:=mC) (ps:=mF) rfl rfl rfl rfl ?_
  delta mF mC
  have:=hn n (List.mem_singleton_self n)
  wtm_at "w";exact q
 | .bQ n off p,Q,hn,q=>by
  refine bo G (b:=mC) (ps:=mF) rfl rfl rfl rfl ?_
  delta mF mC
  have:=hn n (List.mem_singleton_self n)
  wtm_at "w";exact q
 | .str a b,Q,hn,q=>by
  refine U IU ?_
  refine bo G (b:=mC) (ps:=mF) rfl rfl rfl rfl ?_
  delta mF mC
  wtm_at "w"
  refine FW.up (wT G h1 h2 h3 a (fun n hm=>hn n (List.mem_append_left _ hm)) ?_) (Nat.le_max_left _ _)
  wtm_at "w"
  refine FW.up (wT G h1 h2 h3 b (fun n hm=>hn n (List.mem_append_right _ hm)) ?_) (Nat.le_max_right _ _)
  wtm_at "w";exact q
theorem RU {v:Vl}:eQ v []=some v:=by induction v using Vl.casesOn <;> rfl
theorem RV {v x:Vl}:dW v [] x=x:=by induction v using Vl.casesOn <;> rfl
theorem IV (G:Good C) {v:Vl} {p:List Int} (q:Q (oV (eQ v p)) σ):FW C 1 .yM [lv v,ej p] Q σ:=by
 refine bo G (b:=Bf) (ps:=Cd) rfl rfl rfl rfl ?_
 delta Cd Bf
 wtm_at "w"
 refine CL (as:=p) (g:=AV.int) (fun i ae V=>V=σ/\∃ o,ae .bb=some (oV o)/\(o.bind fun u=>eQ u (p.drop i))=eQ v p) (lZ rfl (some v) rfl rfl) ?_ ?_
 ·(intro i s ae V K hs;refine vc ?_;rintro rfl o hv hp;intro k)
  (refine aM ?_ (List.getElem?_eq_some_iff.mp hs);rintro aS rfl)
  rw [List.drop_eq_getElem_cons aS] at hp
  generalize p[i]=s at *
  induction o with
  | none=>unfold oV at hv;wtm_at "w";exact k _ _ (lZ rfl none rfl hp)
  | some u =>
   unfold oV at hv
   simp only [Option.bind_some] at hp
   induction u using Vl.casesOn with
   | str a b =>
    simp only [eQ] at hp
    by_cases h0:s=0
    ·subst h0
     wtm_at "w";exact k _ _ (lZ rfl (some a) rfl hp)
    ·rw [if_neg h0] at hp
     by_cases h1:s=1
     ·subst h1
      wtm_at "w";exact k _ _ (lZ rfl (some b) rfl hp)
     ·rw [if_neg h1] at hp
      wtm_at "w";exact k _ _ (lZ rfl none rfl hp)
   | _=>wtm_at "w";exact k _ _ (lZ rfl none rfl hp)
 ·(intro ae V;refine vc ?_;rintro rfl o hv hp)
  rw [List.drop_length] at hp
  have:o=eQ v p:=by
   refine aT hp ?_;induction o with
   | none=>rfl
   | some u=>exact RU.symm
  rw [<- this] at q
  wtm_at "w";exact q
theorem CV (G:Good C) {x:Vl}:∀ (p:List Int) (v:Vl) {σ:AH} {Q:AV->AH->Prop},eQ v p≠none->(∀ V,Gr σ V->Q (lv (dW v p x)) V)->FW C (p.length+1) .yN [lv v,ej p,lv x] Q σ
 | [],v,σ,Q,hp,q=>by
  refine bo G (b:=tI) (ps:=tO) rfl rfl rfl rfl ?_
  delta tO tI
  have:=q σ (Gr.refl σ)
  rw [RV] at this
  wtm_at "w";exact this
 | s::p,v,σ,Q,hp,q=>by
  refine bo G (b:=tI) (ps:=tO) rfl rfl rfl rfl ?_
  delta tO tI
  induction v using Vl.casesOn with
  | str a b =>
   simp only [eQ] at hp
   by_cases h0:s=0
   ·subst h0
    wtm_at "w"
    refine FW.up (CV G p a hp fun ai bA=>?_) (Nat.le_refl _)
    have hl:=bA _ _ (gl (σ:=σ) (o':=.list [lv a,lv b]))
    wtm_at "w"
    exact q _ (((Gr.app σ _).trans bA).set cL)
   ·rw [if_neg h0] at hp
    by_cases h1:s=1
    ·subst h1
     wtm_at "w"
     refine FW.up (CV G p b hp fun ai bA=>?_) (Nat.le_refl _)
     have hl:=bA _ _ (gl (σ:=σ) (o':=.list [lv a,lv b]))
     wtm_at "w"
     exact q _ (((Gr.app σ _).trans bA).set cL)
    ·exact absurd (if_neg h1) hp
  | _=>exact absurd rfl hp
end
structure bR (M:Mo):Prop where
 tl:M.tl=M.ac.map (·.af)
 nd:(M.ac.map (·.af)).Nodup
 idx:M.idx=M.ac.map fun t=>(t.addr,t.af)
 ap:∀ (i j:Nat) (a b:Th),M.ac[i]?=some a->M.ac[j]?=some b->i<j->a.addr+a.size<=b.addr
 pos:∀ t∈M.ac,0<t.size
 len:M.ac.length<=100000
noncomputable def jS (w:Int) (t:Th):Bool:=decide (t.addr<=w)&&decide (w<t.addr+t.size)
noncomputable def gJ (l:List Th) (w:Int):Option Th:=l.find? (jS w)
@[reducible] noncomputable def oT (pos:Tg->Nat):Option Th->AV
 | some t=>.ref (pos (.aR t.af))
 | none=>.none
theorem t5 {M:Mo} (H:bR M) {t:Th} {w:Int} (ht:t∈M.ac) (h:jS w t=true):gJ M.ac w=some t:=by
 unfold gJ
 induction e:M.ac.find? (jS w) with
 | none=>exact absurd h (by simpa using List.find?_eq_none.mp e t ht)
 | some u =>
  have hu:=List.find?_some e
  have hm:=List.mem_of_find?_eq_some e
  (refine aM ?_ (List.mem_iff_getElem?.mp ht);intro i hi)
  (refine aM ?_ (List.mem_iff_getElem?.mp hm);intro j hj)
  simp only [jS,Bool.and_eq_true,decide_eq_true_eq] at h hu
  rcases Nat.lt_trichotomy i j with q | q | q
  ·have:=H.ap i j t u hi hj q;lia
  ·subst q;rw [hi] at hj;exact hj.symm
  ·have:=H.ap j i u t hj hi q;lia
theorem wU {α:Type} {l:List α} {f:α->Int} {g:α->AV} {k:Int}:bL (l.map fun x=>(f x,g x)) k=(l.find? fun x=>f x=k).map g:=by
 unfold bL
 refine U List.find?_map ?_
 induction e:l.find? ((fun kv:Int × AV=>decide (kv.1=k)) ∘ fun x=>(f x,g x)) with
 | none =>
  have:l.find? (fun x=>decide (f x=k))=none:=e
  refine U this ?_;rfl
 | some x =>
  have:l.find? (fun x=>decide (f x=k))=some x:=e
  refine U this ?_;rfl
section
variable {C:Cx} {M:Mo} {pos:Tg->Nat} {σ:AH} {Q:AV->AH->Prop}
theorem Wd.th (W:Wd M pos σ) (H:(M.ac.map (·.af)).Nodup) {t:Th} (ht:t∈M.ac):σ[pos (.aR t.af)]?=some (eO t.addr 12 (pos (.bj t.af)) t.gen t.size t.af)/\σ[pos (.bj t.af)]?=some (.list (t.slots.map pv)) :=
 ⟨W.get (.aR t.af) _ (by (delta aO;simp [fu H ht])),W.get (.bj t.af) _ (by (delta aO;simp [fu H ht]))⟩
theorem IW (H:bR M) {w:Int}:bL (M.idx.map fun x=>(x.1,AV.ref (pos (.aR x.2)))) w=(M.ac.find? fun t=>t.addr=w).map fun t=>.ref (pos (.aR t.af)):=by
 refine U H.idx (U List.map_map ?_)
 exact wU (f:=fun t:Th=>t.addr) (g:=fun t=>AV.ref (pos (.aR t.af)))
structure RW (M:Mo) (pos:Tg->Nat) (σ:AH) (w:Int) (m:Nat) (ae:Loc) (V:AH) (lo hi:Nat):Prop where
 h0:V=σ
 h1:ae .aF=some (.ref (pos .heap))
 h2:ae .bx=some (.int w)
 h3:ae .pc=some (.int lo)
 h4:ae .sp=some (.int hi)
 l1:lo<=hi
 l2:hi<=M.ac.length
 hm:m=hi - lo
 f1:∀ (i:Nat) a,M.ac[i]?=some a->i<lo->a.addr<=w
 f2:∀ (i:Nat) a,M.ac[i]?=some a->hi<=i->w<a.addr
theorem IX {M:Mo} {w:Int} (h:∀ t∈M.ac,jS w t=true->False):gJ M.ac w=none:=List.find?_eq_none.mpr h
theorem wV {w:Int} {t:Th}:jS w t=true↔t.addr<=w/\w<t.addr+t.size:=by unfold jS;rw [Bool.and_eq_true,decide_eq_true_eq,decide_eq_true_eq]
theorem n6 (W:Wd M pos σ) (H:bR M):σ[pos .things]?=some (.list (M.ac.map fun t=>.ref (pos (.aR t.af)))):=by
 refine U (W.get .things _ rfl ..) (U H.tl (U List.map_map ?_));rfl
theorem bR.lt (H:bR M) {i j:Nat} {a b:Th} (hi:M.ac[i]?=some a) (hj:M.ac[j]?=some b) (h:i<j):a.addr<b.addr:=by
 have:=H.ap i j a b hi hj h
 have:=H.pos a (List.mem_of_getElem? hi)
 lia
theorem bR.up (H:bR M) {w:Int} {mid:Nat} {t:Th} (hm:M.ac[mid]?=some t) (hw:t.addr<=w):∀ (i:Nat) a,M.ac[i]?=some a->i<mid+1->a.addr<=w:=fun i a ha h=>by
 rcases Nat.lt_or_ge i mid with z | z
 ·have:=H.lt ha hm z;lia
 ·obtain rfl:i=mid:=by lia
  rw [hm] at ha;(revert ha;refine si ?_;rintro rfl);exact hw
theorem bR.down (H:bR M) {w:Int} {mid:Nat} {t:Th} (hm:M.ac[mid]?=some t) (hw:¬ t.addr<=w):∀ (i:Nat) a,M.ac[i]?=some a->mid<=i->w<a.addr:=fun i a ha h=>by
 rcases Nat.lt_or_ge mid i with z | z
 ·have:=H.lt hm ha z;lia
 ·obtain rfl:i=mid:=by lia
  rw [hm] at ha;(revert ha;refine si ?_;rintro rfl);lia
theorem bR.none (H:bR M) {w:Int} {lo:Nat} {t:Th} (hm:M.ac[lo]?=some t) (hw:¬ w<t.addr+t.size) (f2:∀ (i:Nat) a,M.ac[i]?=some a->lo+1<=i->w<a.addr):gJ M.ac w=none:=IX fun u hu h=>by
 (refine aM ?_ (List.mem_iff_getElem?.mp hu);intro i hi)
 rw [wV] at h
 rcases Nat.lt_trichotomy i lo with z | z | z
 ·have:=H.ap i lo u t hi hm z
  have:=H.pos t (List.mem_of_getElem? hm)
  lia
 ·subst z;rw [hm] at hi;(revert hi;refine si ?_;rintro rfl);exact hw h.2
 ·have:=f2 i u hi z;lia
theorem t6 (G:Good C) (W:Wd M pos σ) (H:bR M) {w:Int} (q:Q (oT pos (gJ M.ac w)) σ):FW C 1 .qN [.ref (pos .heap),.int w] Q σ:=by
 refine bo G (b:=Az) (ps:=By) rfl rfl rfl rfl ?_
 delta By Az
 have h2:=n6 W H
 have hx:=IW (pos:=pos) H (w:=w)
 have nd:=H.nd
 induction e:M.ac.find? (fun t=>decide (t.addr=w)) with
 | some t =>
  have ht:=List.mem_of_find?_eq_some e
  have ha:t.addr=w:=by simpa using List.find?_some e
  rw [t5 H ht (wV.mpr ⟨by lia,by have:=H.pos t ht;lia⟩)] at q
  have hx:(bL (M.idx.map fun x=>(x.1,AV.ref (pos (.aR x.2)))) w).getD .none=.ref (pos (.aR t.af)):=by refine U hx (U e ?_);rfl
  wtm_at "w"
  exact q
 | none =>
  have hx:(bL (M.idx.map fun x=>(x.1,AV.ref (pos (.aR x.2)))) w).getD .none=.none:=by refine U hx (U e ?_);rfl
  wtm_at "w"
  refine rF M.ac.length (fun m ae V=>∃ lo hi,RW M pos σ w m ae V lo hi)
   ⟨0,M.ac.length,rfl,rfl,rfl,rfl,rfl,Nat.zero_le _,Nat.le_refl _,rfl,fun i a Y h=>absurd h (Nat.not_lt_zero _),fun i a h h'=>absurd (List.getElem?_eq_some_iff.mp h).1 (Nat.not_lt.mpr h')⟩ ?_
  (intro m ae V K;refine gA ?_;rintro lo hi ⟨rfl,e1,e2,e3,e4,l1,l2,rfl,f1,f2⟩;intro k)
  clear hx e
  by_cases aS:lo<hi
  ·obtain ⟨mid,RX,ty,rL⟩:∃ mid:Nat,((lo:Int)+(hi:Int)) / 2=(mid:Int)/\lo<=mid/\mid<hi:=(ff ((lo+hi) / 2) (by lia) (by lia) (by lia))
   have ti:mid<M.ac.length:=Nat.lt_of_lt_of_le rL l2
   obtain ⟨t,n7⟩:∃ t,M.ac[mid]?=some t:=(aQ _ (List.getElem?_eq_getElem ti))
   have ht:=List.mem_of_getElem? n7
   wtm_at "w"
   refine U RX ?_
   by_cases hw:t.addr<=w
   ·wtm_at "w"
    exact k (hi - (mid+1)) _ _ (by lia) ⟨mid+1,hi,rfl,e1,e2,rfl,e4,rL,l2,rfl,H.up n7 hw,f2⟩
   ·wtm_at "w"
    exact k (mid - lo) _ _ (by lia) ⟨lo,mid,rfl,e1,e2,e3,rfl,ty,Nat.le_of_lt ti,rfl,f1,H.down n7 hw⟩
  ·obtain rfl:lo=hi:=by lia
   cases lo with
   | zero =>
    rw [IX fun t ht h=>by
     (refine aM ?_ (List.mem_iff_getElem?.mp ht);intro i hi)
     have:=f2 i t hi (Nat.zero_le _)
     rw [wV] at h;lia] at q
    wtm_at "w"
    exact q
   | succ lo =>
    obtain ⟨t,n7⟩:∃ t,M.ac[lo]?=some t:=(aQ _ (List.getElem?_eq_getElem l2))
    have ht:=List.mem_of_getElem? n7
    have hle:=f1 lo _ n7 (Nat.lt_succ_self _)
    have t7:M.ac[(((lo+1:Nat):Int) - 1).toNat]?=some t:=by refine U (show (((lo+1:Nat):Int) - 1).toNat=lo by lia) ?_;exact n7
    by_cases hw:w<t.addr+t.size
    ·rw [t5 H ht (wV.mpr ⟨hle,hw⟩)] at q
     wtm_at "w"
     exact q
    ·rw [H.none n7 hw f2] at q
     wtm_at "w"
     exact q
theorem CX (G:Good C) (W:Wd M pos σ) {w:Int} (q:Q (.int (w / 2 ^ M.bits)) σ):FW C 1 .vx [.ref (pos .heap),.int w] Q σ:=by
 refine bo G (b:=AD) (ps:=BC) rfl rfl rfl rfl ?_
 delta BC AD
 wtm_at "w"
 exact q
theorem IY (G:Good C) {r sl:Nat} {a k g z e w:Int} {l:List AV} (h:σ[r]?=some (eO a k sl g z e)) (hs:σ[sl]?=some (.list l)) (q:Q (.int (if 0<=w - a - 2/\w - a - 2<l.length then w - a - 2 else -1)) σ) :
  FW C 1 .yD [.ref r,.int w] Q σ:=by
 refine bo G (b:=AB) (ps:=BA) rfl rfl rfl rfl ?_
 delta BA AB
 by_cases h1:0<=w - a - 2
 ·by_cases h2:w - a - 2<l.length
  ·rw [if_pos ⟨h1,h2⟩] at q;wtm_at "w";exact q
  ·rw [if_neg fun x=>h2 x.2] at q;wtm_at "w";exact q
 ·rw [if_neg fun x=>h1 x.1] at q;wtm_at "w";exact q
noncomputable def iE (l:List Th) (w:Int):Option (Th × Nat):=match gJ l w with
 | some t=>if 0<=w - t.addr - 2/\w - t.addr - 2<t.slots.length then some (t,(w - t.addr - 2).toNat) else none
 | none=>none
noncomputable def fw (l:List Th) (w:Int):Option Pv:=match iE l w with
 | some (t,i)=>t.slots[i]?
 | none=>none
theorem mL {l:List Th} {w:Int} {t:Th} (h:gJ l w=some t):t∈l/\jS w t=true:=⟨List.mem_of_find?_eq_some h,List.find?_some h⟩
theorem t8 (G:Good C) (W:Wd M pos σ) (H:bR M) {w:Int} (q:Q (oP (fw M.ac w)) σ):FW C 2 .yE [.ref (pos .heap),.int w] Q σ:=by
 refine bo G (b:=AC) (ps:=BB) rfl rfl rfl rfl ?_
 delta BB AC
 wtm_at "w"
 refine t6 G W H ?_
 unfold fw iE at q
 induction e:gJ M.ac w with
 | none=>rw [e] at q;wtm_at "w";exact q
 | some t =>
  rw [e] at q
  have hm:=(mL e).1
  have nd:=H.nd
  wtm_at "w"
  refine IY G (mH W nd hm) (tZ W nd hm) ?_
  refine U (List.length_map ..) ?_
  by_cases hc:0<=w - t.addr - 2/\w - t.addr - 2<t.slots.length
  ·refine U (if_pos hc ..) ?_
   simp only [if_pos hc] at q
   have aS:(w - t.addr - 2).toNat<t.slots.length:=by lia
   obtain ⟨u,hu⟩:∃ u,t.slots[(w - t.addr - 2).toNat]?=some u:=(aQ _ (List.getElem?_eq_getElem aS))
   have hc:=hc.1
   rw [hu] at q
   wtm_at "w"
   exact q
  ·refine U (if_neg hc ..) ?_
   simp only [if_neg hc] at q
   wtm_at "w"
   exact q
end
noncomputable def cV (l:List Int) (k:Int):List Int:=if k∈l then l else l++[k]
theorem CY {l:List Int} {k:Int}:(cV l k).length<=l.length+1:=by unfold cV;split <;> simp
theorem rM {l:List Int} {k:Int}:ee (cx l) k (.int 1)=cx (cV l k):=by
 unfold ee cV cx
 by_cases h:k∈l
 ·refine U (if_pos h ..) ?_
  have gS:(l.map fun k=>(k,AV.int 1)).any (fun kv=>decide (kv.1=k))=true:=by
   refine U List.any_map ?_
   exact List.any_eq_true.mpr (aB k h (by simp))
  refine U (if_pos gS ..) (U List.map_map ?_)
  apply List.map_congr_left
  intro x _
  simp
 ·refine U (if_neg h ..) ?_
  have gS:¬ (l.map fun k=>(k,AV.int 1)).any (fun kv=>decide (kv.1=k))=true:=by
   refine U List.any_map ?_
   intro hh
   (refine au ?_ (List.any_eq_true.mp hh);intro x hx e)
   simp at e
   subst e;exact h hx
  refine U (if_neg gS ..) ?_
  simp
theorem wW {l:List Int} {k:Int}:(bL (cx l) k).isSome=decide (k∈l):=by
 unfold cx
 refine U (wU (f:=fun k:Int=>k) (g:=fun Y=>AV.int 1) ..) ?_
 by_cases h:k∈l
 ·simp [h]
 ·simp [h];intro x hx e;subst e;exact h hx
noncomputable def b0 (l:List Th) (s:Nat) (f:Th->Th):List Th:=l.map fun t=>if t.af=s then f t else t
theorem qc {l:List Th} {s s':Nat} {f:Th->Th} (hf:∀ t,(f t).af=t.af):(b0 l s f).find? (fun t=>t.af=s')=(l.find? fun t=>t.af=s').map fun t=>if t.af=s then f t else t:=by
 unfold b0
 refine U List.find?_map ?_
 congr 1
 congr 1
 funext t
 by_cases h:t.af=s <;> simp [h,hf]
theorem IZ {l:List Th} {s:Nat} {f:Th->Th} (hf:∀ t,(f t).af=t.af) {α:Type} (g:Nat->α):(b0 l s f).map (fun t=>g t.af)=l.map fun t=>g t.af:=by
 unfold b0
 refine U List.map_map ?_
 apply List.map_congr_left
 intro t _
 by_cases h:t.af=s
 ·simp only [Function.comp_apply,if_pos h,hf]
 ·simp only [Function.comp_apply,if_neg h]
section
variable {C:Cx} {M:Mo} {pos:Tg->Nat} {σ:AH} {Q:AV->AH->Prop}
noncomputable def Mo.hJ (M:Mo) (l:List Int):Mo:={ M with bv:=l }
noncomputable def jT (M:Mo) (t:Th) (i:Nat) (v:Pv):Mo :=
 { M with ac:=b0 M.ac t.af (fun t=>{ t with slots:=t.slots.set i v }),bv:=if t.gen>0/\(b8 v)≠[] then cV M.bv ((t.addr+2+i) / 2 ^ M.bits) else M.bv }
theorem Wd.RY (W:Wd M pos σ) (H:(M.ac.map (·.af)).Nodup) {t:Th} (ht:t∈M.ac) (l:List Pv) :
  Wd { M with ac:=b0 M.ac t.af fun t=>{ t with slots:=l } } pos (σ.set (pos (.bj t.af)) (.list (l.map pv))) /\
  aL M pos σ { M with ac:=b0 M.ac t.af fun t=>{ t with slots:=l } } pos (σ.set (pos (.bj t.af)) (.list (l.map pv))):=by
 refine W.upd (t:=.bj t.af) (o:=.list (t.slots.map pv)) (by (delta aO;simp [fu H ht])) ?_ ?_
 ·(delta aO;simp [qc,fu H ht])
 ·intro t' mM
  induction t' with
  | aR n=>(delta aO;dsimp only);refine U (qc (f:=fun t=>{ t with slots:=l }) (fun Y=>rfl) ..) ?_;induction M.ac.find? (fun t=>decide (t.af=n)) with
   | none=>rfl
   | some u=>by_cases h:u.af=t.af <;> simp [h]
  | bj n =>
   (delta aO;dsimp only)
   refine U (qc (f:=fun t=>{ t with slots:=l }) (fun Y=>rfl) ..) ?_
   induction e:M.ac.find? (fun t=>decide (t.af=n)) with
   | none=>rfl
   | some u =>
    have hu:u.af=n:=by simpa using List.find?_some e
    have:u.af≠t.af:=fun h=>mM (by exact aT hu (U h rfl))
    simp [this]
  | _=>rfl
theorem Wd.I1 (W:Wd M pos σ) (l:List Int):Wd (M.hJ l) pos (σ.set (pos .bv) (.an (cx l)))/\aL M pos σ (M.hJ l) pos (σ.set (pos .bv) (.an (cx l))):=by
 refine W.upd (t:=.bv) (o:=.an (cx M.bv)) rfl rfl ?_
 intro t' mM
 induction t' <;> first | rfl | exact absurd rfl mM
theorem RZ {t:Th} {s:Nat} {f:Th->Th} (ht:t∈M.ac):(if t.af=s then f t else t)∈b0 M.ac s f:=List.mem_map_of_mem (f:=fun t=>if t.af=s then f t else t) ht
theorem R0 (H:(M.ac.map (·.af)).Nodup) {t:Th} (ht:t∈M.ac) {i:Nat} {v:Pv} :
  (b0 M.ac t.af fun t'=>{ t' with slots:=t.slots.set i v })=b0 M.ac t.af (fun t=>{ t with slots:=t.slots.set i v }):=by
 unfold b0
 apply List.map_congr_left
 intro u hu
 by_cases h:u.af=t.af
 ·have:u=t:=by
   have e1:=fu H hu
   rw [h,fu H ht] at e1
   exact (Option.some.inj e1).symm
  exact U this rfl
 ·exact U (if_neg h ..) (U (if_neg h ..) rfl)
noncomputable def lO (M:Mo) (t:Th) (i:Nat) (v:Pv):Mo:={ M with ac:=b0 M.ac t.af (fun t=>{ t with slots:=t.slots.set i v }) }
noncomputable def CZ (t:Th) (i:Nat) (v:Pv):Th:={ t with slots:=t.slots.set i v }
theorem R3 {t:Th} (ht:t∈M.ac) {i:Nat} {v:Pv}:CZ t i v∈(lO M t i v).ac:=by
 have:=RZ (M:=M) (s:=t.af) (f:=fun t=>{ t with slots:=t.slots.set i v }) ht
 rwa [if_pos rfl] at this
theorem R4 (H:(M.ac.map (·.af)).Nodup) {t:Th} {i:Nat} {v:Pv}:((lO M t i v).ac.map (·.af)).Nodup:=by
 show ((b0 M.ac t.af (fun t=>{ t with slots:=t.slots.set i v })).map (·.af)).Nodup
 refine U (IZ (f:=fun t=>{ t with slots:=t.slots.set i v }) (fun Y=>rfl) (g:=fun n=>n) ..) ?_;exact H
theorem R5 {t:Th} {i:Nat} {v:Pv} (h:t.gen=0∨b8 v=[]):jT M t i v=lO M t i v:=by
 unfold jT
 rw [if_neg]
 ·rfl
 ·(refine ay ?_;intro a b)
  rcases h with h | h
  ·lia
  ·exact b h
theorem R6 {t:Th} {i:Nat} {v:Pv} (h:0<t.gen) (h':b8 v≠[]):jT M t i v=(lO M t i v).hJ (cV (lO M t i v).bv ((t.addr+2+i) / 2 ^ (lO M t i v).bits)):=by
 unfold jT
 refine U (if_pos ⟨h,h'⟩ ..) ?_;rfl
theorem R7 (G:Good C) (W:Wd M pos σ) (H:(M.ac.map (·.af)).Nodup) (hc:M.bv.length<=500000) {t:Th} (ht:t∈M.ac) {i:Nat} (hi:i<t.slots.length) {v:Pv} (hz:ch v<=100000)
  (q:∀ V,Wd (jT M t i v) pos V->aL M pos σ (jT M t i v) pos V->Q .none V):FW C 3 .Fy [.ref (pos .heap),.ref (pos (.aR t.af)),.int i,pv v] Q σ:=by
 refine bo G (b:=AE) (ps:=BD) rfl rfl rfl rfl ?_
 delta BD AE
 (refine ay ?_ (W.RY H ht (t.slots.set i v));intro aE ah)
 rw [R0 H ht,List.map_set] at aE ah
 change Wd (lO M t i v) pos _ at aE
 change aL M pos σ (lO M t i v) pos _ at ah
 have I2:=R3 ht (i:=i) (v:=v)
 have I3:=R4 H (t:=t) (i:=i) (v:=v)
 have C0:(lO M t i v).bv.length<=500000:=hc
 have stop:=R5 (M:=M) (t:=t) (i:=i) (v:=v)
 have go:=R6 (M:=M) (t:=t) (i:=i) (v:=v)
 have e1:(σ.set (pos (.bj t.af)) (.list ((t.slots.map pv).set (i:Int).toNat (pv v))))=σ.set (pos (.bj t.af)) (.list ((t.slots.map pv).set i (pv v))):=by exact U (Int.toNat_natCast ..) rfl
 have a1:gD (σ.set (pos (.bj t.af)) (.list ((t.slots.map pv).set (i:Int).toNat (pv v)))) (.ref (pos (.aR t.af))) .aW=some (.int t.gen):=by refine U e1 ?_;exact t3 aE I3 (t:=CZ t i v) I2 rfl
 by_cases hg:(0:Int)<(t.gen:Int)
 ·wtm_at "w"
  refine U e1 ?_
  generalize σ.set (pos (.bj t.af)) (.list ((t.slots.map pv).set i (pv v)))=ai at aE ah ⊢
  generalize jT M t i v=Mf at *
  refine FW.up (RS G hz fun aH dx=>?_) (by decide)
  induction hp:(b8 v).isEmpty with
  | true =>
   rw [stop (.inr (List.isEmpty_iff.mp hp))] at q
   show rE _ (.bool false) _
   wtm_at "w"
   exact q aH (aE.gr dx) (ah.trans (aL.gr dx))
  | false =>
   show rE _ (.bool true) _
   have bu:b8 v≠[]:=List.isEmpty_eq_false_iff.mp hp
   have bc:=aE.gr dx
   rw [go (by lia) bu] at q
   generalize lO M t i v=cE at *
   have hl:(cx cE.bv).length<1000000:=by unfold cx;refine U (List.length_map ..) ?_;lia
   wtm_at "w"
   have o3:aH[pos (.aR t.af)]?=some (eO t.addr 12 (pos (.bj t.af)) t.gen t.size t.af):=mH bc I3 (t:=CZ t i v) I2
   refine FW.up (CS G o3 ?_) (by decide)
   wtm_at "w"
   refine FW.up (CX G bc ?_) (by decide)
   wtm_at "w"
   refine U rM ?_
   (refine ay ?_ (bc.I1 (cV cE.bv ((t.addr+2+i) / 2 ^ cE.bits)));intro bg aV)
   exact q _ bg (ah.trans ((aL.gr dx).trans aV))
 ·wtm_at "w"
  refine U e1 ?_
  rw [stop (.inl (by lia))] at q
  exact q _ aE ah
noncomputable def fJ (M:Mo) (w:Int) (p:List Int) (v:Pv):Mo:=match iE M.ac w with
 | some (t,i)=>(match t.slots[i]? with
  | some u=>if (dw u p).isSome then jT M t i (gk u p v) else M
  | none=>M)
 | none=>M
noncomputable def jU (M:Mo) (w:Int) (p:List Int):Bool:=((fw M.ac w).bind fun u=>dw u p).isSome
theorem I4 {w:Int} {p:List Int} {v:Pv} (q:∀ V,Wd (fJ M w p v) pos V->aL M pos σ (fJ M w p v) pos V->Q (.bool (jU M w p)) V) (W:Wd M pos σ) (h:jU M w p=false):Q (.bool false) σ:=by
 have e:fJ M w p v=M:=by
  unfold fJ
  unfold jU fw at h
  induction es:iE M.ac w with
  | none=>rfl
  | some x =>
   obtain ⟨t,i⟩:=x
   rw [es] at h
   simp only at h ⊢
   induction eu:t.slots[i]? with
   | none=>rfl
   | some u=>rw [eu] at h;simp only [Option.bind_some] at h;simp [h]
 rw [e,h] at q
 exact q σ W aL.refl
theorem C3 {w:Int} {p:List Int} (h:fw M.ac w=none):jU M w p=false:=by unfold jU;refine U h ?_;rfl
theorem C4 {w:Int} {p:List Int} {u:Pv} (h:fw M.ac w=some u):jU M w p=(dw u p).isSome:=by unfold jU;refine U h ?_;rfl
theorem I5 {w:Int} (h:iE M.ac w=none):fw M.ac w=none:=by unfold fw;exact U h rfl
theorem I6 (G:Good C) (W:Wd M pos σ) (H:bR M) (hc:M.bv.length<=500000) {w:Int} {p:List Int} {v:Pv} (hl:p.length<=100000) (hz:∀ u,fw M.ac w=some u->ch (gk u p v)<=100000)
  (q:∀ V,Wd (fJ M w p v) pos V->aL M pos σ (fJ M w p v) pos V->Q (.bool (jU M w p)) V):FW C 4 .yG [.ref (pos .heap),.int w,ej p,pv v] Q σ:=by
 refine bo G (b:=AF) (ps:=BE) rfl rfl rfl rfl ?_
 delta BE AF
 wtm_at "w"
 refine FW.up (t6 G W H ?_) (by decide)
 have fl:=I4 q W
 induction e:gJ M.ac w with
 | none =>
  have e':iE M.ac w=none:=by unfold iE;exact U e rfl
  wtm_at "w"
  exact fl (C3 (I5 e'))
 | some t =>
  have hm:=(mL e).1
  have nd:=H.nd
  wtm_at "w"
  refine FW.up (IY G (mH W nd hm) (tZ W nd hm) ?_) (by decide)
  refine U (List.length_map ..) ?_
  by_cases kJ:0<=w - t.addr - 2/\w - t.addr - 2<t.slots.length
  ·have es:iE M.ac w=some (t,(w - t.addr - 2).toNat):=by unfold iE;refine U e ?_;simp only [if_pos kJ]
   obtain ⟨i,hi⟩:∃ i:Nat,w - t.addr - 2=i:=(aQ (w - t.addr - 2).toNat (by lia))
   refine U (if_pos kJ ..) ?_
   rw [hi] at es kJ ⊢
   rw [Int.toNat_natCast] at es
   have aS:i<t.slots.length:=by lia
   obtain ⟨u,iS⟩:∃ u,t.slots[i]?=some u:=(aQ _ (List.getElem?_eq_getElem aS))
   have C5:fw M.ac w=some u:=by unfold fw;refine U (es ..) ?_;exact iS
   have hc0:=kJ.1
   wtm_at "w"
   refine FW.up (CR G ?_) (by decide)
   induction hp:dw u p with
   | none =>
    wtm_at "w"
    exact fl (by refine U (C4 C5 ..) (U hp ?_);rfl)
   | some u' =>
    have ew:fJ M w p v=jT M t i (gk u p v):=by unfold fJ;refine U (es ..) ?_;simp only [iS,hp];rfl
    rw [C4 C5,hp,ew] at q
    wtm_at "w"
    refine FW.up (RK G (by refine U hp ?_;exact fun h=>nomatch h) hl fun ai bA=>?_) (by decide)
    have aE:=W.gr bA
    wtm_at "w"
    refine FW.up (R7 G aE H.nd hc hm aS (hz _ C5) fun aH bc av=>?_) (by decide)
    wtm_at "w"
    exact q aH bc ((aL.gr bA).trans av)
  ·have es:iE M.ac w=none:=by unfold iE;refine U e ?_;simp only [if_neg kJ]
   refine U (if_neg kJ ..) ?_
   wtm_at "w"
   exact fl (C3 (I5 es))
noncomputable def wX (w:Int) (p:List Int):AV:=.tup [.int 3,.int w,ej p]
theorem I7 (G:Good C) (W:Wd M pos σ) (H:bR M) {w:Int} {p:List Int} (q:Q (oP (fw M.ac w)) σ):FW C 3 .yK [.ref (pos .ph),wX w p] Q σ:=by
 refine bo G (b:=A9) (ps:=B6) rfl rfl rfl rfl ?_
 delta B6 A9
 wtm_at "w"
 exact t8 G W H q
theorem I8 (G:Good C) {w:Int} {p:List Int} (q:Q (ej p) σ):FW C 1 .yJ [wX w p] Q σ:=by
 refine bo G (b:=A8) (ps:=B5) rfl rfl rfl rfl ?_
 delta B5 A8
 wtm_at "w"
 exact q
theorem wY (G:Good C) (W:Wd M pos σ) (H:bR M) {w:Int} {p:List Int} (q:Q (oP ((fw M.ac w).bind fun u=>dw u p)) σ):FW C 4 .F4 [.ref (pos .ph),wX w p] Q σ:=by
 refine bo G (b:=Ba) (ps:=B7) rfl rfl rfl rfl ?_
 delta B7 Ba
 wtm_at "w"
 refine I7 G W H ?_
 induction hv:fw M.ac w with
 | none=>rw [hv] at q;wtm_at "w";exact q
 | some u =>
  rw [hv] at q
  wtm_at "w"
  refine FW.up (I8 G ?_) (by decide)
  wtm_at "w"
  exact FW.up (CR G q) (by decide)
theorem R8 (G:Good C) (W:Wd M pos σ) (H:bR M) (hc:M.bv.length<=500000) {w:Int} {p:List Int} {v:Pv} (hl:p.length<=100000) (hz:∀ u,fw M.ac w=some u->ch (gk u p v)<=100000)
  (q:∀ V,Wd (fJ M w p v) pos V->aL M pos σ (fJ M w p v) pos V->Q (.bool (jU M w p)) V):FW C 5 .F5 [.ref (pos .ph),wX w p,pv v] Q σ:=by
 refine bo G (b:=Bb) (ps:=B8) rfl rfl rfl rfl ?_
 delta B8 Bb
 wtm_at "w"
 refine FW.up (I7 G W H ?_) (by decide)
 have fl:=I4 q W
 induction hv:fw M.ac w with
 | none=>wtm_at "w";exact fl (C3 hv)
 | some u =>
  wtm_at "w"
  refine FW.up (I8 G ?_) (by decide)
  wtm_at "w"
  refine FW.up (CR G ?_) (by decide)
  induction hp:dw u p with
  | none=>wtm_at "w";exact fl (by refine U (C4 hv ..) (U hp ?_);rfl)
  | some u' =>
   wtm_at "w"
   exact FW.up (I6 G W H hc hl hz q) (by decide)
end
theorem C6 {α:Type} [DecidableEq α]:∀ {K L:List α},K.Nodup->(∀ a∈K,a∈L)->K.length<=L.length
 | [],L,_,_=>Nat.zero_le _
 | a::K,L,hn,hs=>by
  rw [List.nodup_cons] at hn
  have ha:=hs a (.head _)
  have:K.length<=(L.erase a).length:=C6 hn.2 fun b hb=>by
   have zl:=hs b (.tail _ hb)
   have bu:b≠a:=fun e=>hn.1 (e ▸ hb)
   exact (List.mem_erase_of_ne bu).mpr zl
  rw [List.length_erase_of_mem ha] at this
  have:0<L.length:=List.length_pos_of_mem ha
  simp only [List.length_cons]
  lia
noncomputable def hit (l:List Th) (g:Nat) (w:Int) (u:Th):Prop:=w≠0/\gJ l w=some u/\u.gen<=g
structure dM (l:List Th) (g:Nat) (W:Int->Prop) (K:List Int) (wk:List Nat) (K':List Int) (cZ:List Nat):Prop where
 sub:∀ a∈K,a∈K'
 rN:∀ s∈wk,s∈cZ
 hit:∀ w,W w->∀ u,hit l g w u->u.addr∈K'
 new:∀ a∈K',a∈K∨∃ w u,W w/\Internal.hit l g w u/\u.addr=a/\u.af∈cZ
 t9:∀ s∈cZ,s∈wk∨∃ w u,W w/\Internal.hit l g w u/\u.af=s/\u.addr∈K'
 ua:K'.length+wk.length=K.length+cZ.length
 le:K.length<=K'.length
theorem dM.none {l:List Th} {g:Nat} {W:Int->Prop} {K:List Int} {wk:List Nat} (h:∀ w,W w->∀ u,Internal.hit l g w u->u.addr∈K):dM l g W K wk K wk :=
 ⟨fun Y h=>h,fun Y h=>h,h,fun Y h=>.inl h,fun Y h=>.inl h,rfl,Nat.le_refl _⟩
theorem dM.trans {l:List Th} {g:Nat} {aE bc W:Int->Prop} {K lP dC:List Int} {wk lQ eo:List Nat} (x:dM l g aE K wk lP lQ) (y:dM l g bc lP lQ dC eo) (h:∀ w,W w->aE w∨bc w) (h':∀ w,aE w∨bc w->W w):dM l g W K wk dC eo where
 sub:=fun a ha=>y.sub a (x.sub a ha)
 rN:=fun a ha=>y.rN a (x.rN a ha)
 hit:=fun w hw u hu=>by
  rcases h w hw with h | h
  ·exact y.sub _ (x.hit w h u hu)
  ·exact y.hit w h u hu
 new:=fun a ha=>by
  rcases y.new a ha with h1 | ⟨w,u,h1,h2⟩
  ·rcases x.new a h1 with h3 | ⟨w,u,h3,h4,h5,h6⟩
   ·exact .inl h3
   ·exact .inr (iL w u (h' w (.inl h3)) h4 h5 (y.rN _ h6))
  ·exact .inr (jb w u (h' w (.inr h1)) h2)
 t9:=fun s hs=>by
  rcases y.t9 s hs with h1 | ⟨w,u,h1,h2⟩
  ·rcases x.t9 s h1 with h3 | ⟨w,u,h3,h4,h5,h6⟩
   ·exact .inl h3
   ·exact .inr (iL w u (h' w (.inl h3)) h4 h5 (y.sub _ h6))
  ·exact .inr (jb w u (h' w (.inr h1)) h2)
 ua:=by have:=x.ua;have:=y.ua;lia
 le:=Nat.le_trans x.le y.le
noncomputable def Gx (a b:Nat) (σ V:AH):Prop:=∀ (r:Nat) (o:AO),r≠a->r≠b->σ[r]?=some o->V[r]?=some o
theorem Gx.refl {a b:Nat} {σ:AH}:Gx a b σ σ:=fun Y Y Y Y e=>e
theorem Gx.trans {a b:Nat} {σ V ar:AH} (x:Gx a b σ V) (y:Gx a b V ar):Gx a b σ ar:=fun r o h1 h2 e=>y r o h1 h2 (x r o h1 h2 e)
theorem Gr.gx {a b:Nat} {σ V:AH} (x:Gr σ V):Gx a b σ V:=fun r o Y Y e=>x r o e
structure dX (M:Mo) (pos:Tg->Nat) (rm rk:Nat) (K:List Int) (wk:List Nat) (σ:AH):Prop where
 W:Wd M pos σ
 om:cm M pos rm
 ok:cm M pos rk
 hm:σ[rm]?=some (.an (cx K))
 hk:σ[rk]?=some (.list (wk.map fun s=>.ref (pos (.aR s))))
 nd:K.Nodup
 ka:∀ a∈K,∃ t∈M.ac,t.addr=a
 wl:wk.length<=K.length
 wt:∀ s∈wk,∃ t∈M.ac,t.af=s
section
variable {C:Cx} {M:Mo} {pos:Tg->Nat} {σ:AH} {Q:AV->AH->Prop} {rm rk:Nat} {K:List Int} {wk:List Nat}
theorem dX.len (S:dX M pos rm rk K wk σ) (H:bR M):K.length<=100000/\K.length<=M.ac.length:=by
 have:K.length<=(M.ac.map (·.addr)).length:=C6 S.nd fun a ha=>let ⟨t,h1,h2⟩:=S.ka a ha;List.mem_map.mpr (aB t h1 h2)
 simp only [List.length_map] at this
 have:=H.len
 lia
theorem dX.ne (S:dX M pos rm rk K wk σ):rm≠rk:=Co S.hm S.hk (by intro h;exact (noConfusion_of_Nat AO.ctorIdx h).elim)
theorem dX.gr {V:AH} (S:dX M pos rm rk K wk σ) (g:Gr σ V):dX M pos rm rk K wk V:=⟨S.W.gr g,S.om,S.ok,g _ _ S.hm,g _ _ S.hk,S.nd,S.ka,S.wl,S.wt⟩
theorem dX.add (S:dX M pos rm rk K wk σ) {t:Th} (hm:t∈M.ac) (hk:t.addr∉K) :
  dX M pos rm rk (K++[t.addr]) (wk++[t.af]) ((σ.set rm (.an (ee (cx K) t.addr (.int 1)))).set rk (.list (wk.map (fun s=>.ref (pos (.aR s)))++[.ref (pos (.aR t.af))]))) /\
  Gx rm rk σ ((σ.set rm (.an (ee (cx K) t.addr (.int 1)))).set rk (.list (wk.map (fun s=>.ref (pos (.aR s)))++[.ref (pos (.aR t.af))]))):=by
 have ec:cV K t.addr=K++[t.addr]:=by unfold cV;exact U (if_neg hk ..) rfl
 have gc:(σ.set rm (.an (ee (cx K) t.addr (.int 1))))[rk]?=some (.list (wk.map fun s=>.ref (pos (.aR s)))):=by refine U (gn S.ne ..) ?_;exact S.hk
 rw [rM,ec] at gc ⊢
 refine ⟨⟨(S.W.other S.om).other S.ok,S.om,S.ok,?_,?_,?_,?_,?_,?_⟩,fun r o h1 h2 er=>?_⟩
 ·rw [gn S.ne.symm];exact gs S.hm
 ·rw [gs gc,List.map_append];rfl
 ·rw [List.nodup_append];exact ⟨S.nd,by simp,by rintro a ha b hb rfl;rw [List.mem_singleton] at hb;subst hb;exact hk ha⟩
 ·intro a ha
  rcases List.mem_append.mp ha with ha | ha
  ·exact S.ka a ha
  ·exact (aB t hm (List.mem_singleton.mp ha).symm)
 ·refine U List.length_append (U List.length_append ?_);exact Nat.add_le_add_right S.wl 1
 ·intro s hs
  rcases List.mem_append.mp hs with hs | hs
  ·exact S.wt s hs
  ·exact (aB t hm (List.mem_singleton.mp hs).symm)
 ·refine U (gn h2.symm ..) (U (gn h1.symm ..) ?_);exact er
theorem dM.add {l:List Th} {g:Nat} {w:Int} {t:Th} (h:Internal.hit l g w t):dM l g (fun x=>x=w) K wk (K++[t.addr]) (wk++[t.af]):=by
 have ma:t.addr∈K++[t.addr]:=List.mem_append_right _ (List.mem_singleton_self _)
 have ms:t.af∈wk++[t.af]:=List.mem_append_right _ (List.mem_singleton_self _)
 refine ⟨fun a ha=>List.mem_append_left _ ha,fun a ha=>List.mem_append_left _ ha,?_,fun a ha=>?_,fun s hs=>?_,?_,?_⟩
 ·rintro x rfl u hu
  have:=hu.2.1;rw [h.2.1] at this;(revert this;refine si ?_;rintro rfl);exact ma
 ·rcases List.mem_append.mp ha with ha | ha
  ·exact .inl ha
  ·exact .inr (iL w t rfl h (List.mem_singleton.mp ha).symm ms)
 ·rcases List.mem_append.mp hs with hs | hs
  ·exact .inl hs
  ·exact .inr (iL w t rfl h (List.mem_singleton.mp hs).symm ma)
 ·rw [List.length_append,List.length_append,List.length_singleton,List.length_singleton];lia
 ·refine U List.length_append ?_;exact Nat.le_add_right _ _
theorem C7 {l:List Int} {k:Int} (h:k∈l):(bL (cx l) k).isSome=true:=by refine U wW ?_;exact decide_eq_true h
theorem C8 {l:List Int} {k:Int} (h:¬ k∈l):(bL (cx l) k).isSome=false:=by refine U wW ?_;exact decide_eq_false h
theorem wZ {l:List Int}:(cx l).length=l.length:=List.length_map _
theorem R9 (G:Good C) (H:bR M) (S:dX M pos rm rk K wk σ) {g:Nat} {w:Int} (q:∀ V K' cZ,dX M pos rm rk K' cZ V->dM M.ac g (fun x=>x=w) K wk K' cZ->Gx rm rk σ V->Q .none V) :
  FW C 2 .yH [.ref (pos .heap),.int w,.int g,.ref rm,.ref rk] Q σ:=by
 refine bo G (b:=AI) (ps:=BG) rfl rfl rfl rfl ?_
 delta BG AI
 have same:(∀ u,hit M.ac g w u->u.addr∈K)->Q .none σ:=fun h=>q σ K wk S (dM.none (by rintro x rfl;exact h)) Gx.refl
 by_cases h0:w=0
 ·subst h0
  wtm_at "w"
  exact same fun u hu=>absurd rfl hu.1
 ·wtm_at "w"
  have W:=S.W
  refine t6 G W H ?_
  induction e:gJ M.ac w with
  | none =>
   wtm_at "w"
   exact same fun u hu=>by have:=hu.2.1;rw [e] at this;exact aZ this
  | some t =>
   have hm:=(mL e).1
   have nd:=H.nd
   have mk:=S.hm
   by_cases hg:(g:Int)<(t.gen:Int)
   ·wtm_at "w"
    exact same fun u hu=>by
     have:=hu.2.1;rw [e] at this;(revert this;refine si ?_;rintro rfl)
     have:=hu.2.2;lia
   ·by_cases hk:t.addr∈K
    ·have hc:=C7 hk
     wtm_at "w"
     exact same fun u hu=>by have:=hu.2.1;rw [e] at this;(revert this;refine si ?_;rintro rfl);exact hk
    ·have hc:=C8 hk
     have bC:=(S.len H).1
     have w0:=S.wl
     have l1:(cx K).length<1000000:=by refine U wZ ?_;lia
     have mw:=S.hk
     have bu:=S.ne
     (refine ay ?_ (S.add hm hk);intro ah cf)
     wtm_at "w"
     exact q _ _ _ ah (dM.add ⟨h0,e,by lia⟩) cf
theorem dM.snoc {l:List Th} {g i:Nat} {w:Int} {L:List Int} {lP dC:List Int} {lQ eo:List Nat} (hw:L[i]?=some w) (n8:dM l g (fun x=>x∈L.take i) K wk lP lQ) (jV:dM l g (fun x=>x=w) lP lQ dC eo) :
  dM l g (fun x=>x∈L.take (i+1)) K wk dC eo:=by
 have ht:L.take (i+1)=L.take i++[w]:=by refine U List.take_add_one (U hw ?_);rfl
 refine n8.trans jV (fun x hx=>?_) (fun x hx=>?_)
 ·rw [ht] at hx;simpa using hx
 ·refine U ht ?_;simpa using hx
theorem dX.off (S:dX M pos rm rk K wk σ) {r:Nat} (h:σ[r]?=none):r≠rm/\r≠rk :=
 ⟨fun e=>by (rw [e,S.hm] at h;exact dQ h),fun e=>by (rw [e,S.hk] at h;exact dQ h)⟩
theorem C9 (G:Good C) (H:bR M) (S:dX M pos rm rk K wk σ) {g:Nat} {v:Pv} (hz:ch v<=100000) (q:∀ V K' cZ,dX M pos rm rk K' cZ V->dM M.ac g (fun x=>x∈fv v) K wk K' cZ->Gx rm rk σ V->Q .none V) :
  FW C 3 .vy [.ref (pos .heap),pv v,.int g,.ref rm,.ref rk] Q σ:=by
 refine bo G (b:=AJ) (ps:=BH) rfl rfl rfl rfl ?_
 delta BH AJ
 wtm_at "w"
 refine RT G hz fun ai hG bA bD n₁=>?_
 have off:=S.off n₁
 refine e9 (fun i ae V=>∃ K' cZ,dX M pos rm rk K' cZ V/\dM M.ac g (fun x=>x∈(fv v).take i) K wk K' cZ/\Gx rm rk σ V/\V[hG]?=some (.list ((fv v).map AV.int)) /\
   ae .aF=some (.ref (pos .heap))/\ae .aW=some (.int g)/\ae .dA=some (.ref rm)/\ae .f8=some (.ref rk))
  bD (Fi K wk (S.gr bA) (dM.none (fun w hw=>nomatch hw)) bA.gx bD rfl rfl rfl rfl) ?_ ?_
 ·(intro i w ae V K' hw;refine MB ?_;intro lP lQ ah n8 cf hl e1 e2 e3 e4;intro k)
  wtm_at "w"
  refine R9 G H ah fun aH dC eo av jV bd=>?_
  have w3:=bd _ _ off.1 off.2 hl
  wtm_at "w"
  exact k _ _ w3 (Fi dC eo av (n8.snoc hw jV) (cf.trans bd) w3 e1 e2 e3 e4)
 ·(intro ae V;refine lq ?_;intro lP lQ ah n8 cf hl _)
  rw [List.take_length] at n8
  wtm_at "w"
  exact q _ _ _ ah n8 cf
end
noncomputable def Sa (l:List Th) (g:Nat) (K:List Int) (t:Th):Prop:=∀ v∈t.slots,∀ w∈fv v,∀ u,hit l g w u->u.addr∈K
inductive Rc (l:List Th) (g:Nat) (S:Int->Prop):Th->Prop
 | base {w:Int} {t:Th}:S w->hit l g w t->Rc l g S t
 | step {u t:Th} {v:Pv} {w:Int}:Rc l g S u->v∈u.slots->w∈fv v->hit l g w t->Rc l g S t
noncomputable def mN (M:Mo):Prop:=∀ t∈M.ac,∀ v∈t.slots,ch v<=100000
theorem w4 {M:Mo} (H:bR M) {t u:Th} (ht:t∈M.ac) (hu:u∈M.ac) (h:t.addr=u.addr):t=u:=by
 have e1:=t5 H ht (w:=t.addr) (by have:=H.pos t ht;simp [jS];lia)
 have e2:=t5 H hu (w:=t.addr) (by have:=H.pos u hu;simp [jS,h];lia)
 rw [e1] at e2;exact Option.some.inj e2
theorem I9 {M:Mo} (H:bR M) {t u:Th} (ht:t∈M.ac) (hu:u∈M.ac) (h:t.af=u.af):t=u:=by
 have e1:=fu H.nd ht
 have e2:=fu H.nd hu
 rw [h,e2] at e1;exact (Option.some.inj e1).symm
structure iY (M:Mo) (g:Nat) (S:Int->Prop) (K:List Int) (wk:List Nat) (X:Th->Prop):Prop where
 rc:∀ t∈M.ac,t.addr∈K->Rc M.ac g S t
 ub:∀ t∈M.ac,t.af∈wk->t.addr∈K
 cl:∀ t∈M.ac,t.addr∈K->t.af∉wk->¬ X t->Sa M.ac g K t
theorem iY.push {M:Mo} {g:Nat} {S W:Int->Prop} {K K':List Int} {wk cZ:List Nat} {X:Th->Prop} (H:bR M) (I:iY M g S K wk X) (P:dM M.ac g W K wk K' cZ)
  (hW:∀ w,W w->∀ u,hit M.ac g w u->Rc M.ac g S u):iY M g S K' cZ X where
 rc:=fun t ht hk=>by
  rcases P.new _ hk with h | ⟨w,u,h1,h2,h3,h4⟩
  ·exact I.rc t ht h
  ·have:=w4 H (mL h2.2.1).1 ht h3
   subst this
   exact hW w h1 _ h2
 ub:=fun t ht hs=>by
  rcases P.t9 _ hs with h | ⟨w,u,h1,h2,h3,h4⟩
  ·exact P.sub _ (I.ub t ht h)
  ·have:=I9 H (mL h2.2.1).1 ht h3
   subst this;exact h4
 cl:=fun t ht hk hs hx=>by
  rcases P.new _ hk with h | ⟨w,u,h1,h2,h3,h4⟩
  ·have:=I.cl t ht h (fun hh=>hs (P.rN _ hh)) hx
   exact fun v hv w hw u hu=>P.sub _ (this v hv w hw u hu)
  ·have:=w4 H (mL h2.2.1).1 ht h3
   subst this
   exact absurd h4 hs
section
variable {C:Cx} {M:Mo} {pos:Tg->Nat} {σ:AH} {Q:AV->AH->Prop} {rm rk:Nat} {K:List Int} {wk:List Nat}
structure Sb (M:Mo) (pos:Tg->Nat) (rm rk g:Nat) (Sd:Int->Prop) (K:List Int) (σ:AH) (m:Nat) (ae:Loc) (V:AH) (K':List Int) (cZ:List Nat):Prop where
 hm:m=2*(M.ac.length - K'.length)+cZ.length
 S:dX M pos rm rk K' cZ V
 I:iY M g Sd K' cZ (fun Y=>False)
 hs:∀ a∈K,a∈K'
 hX:Gx rm rk σ V
 e1:ae .aF=some (.ref (pos .heap))
 e2:ae .aW=some (.int g)
 e3:ae .dA=some (.ref rm)
 e4:ae .f8=some (.ref rk)
structure Sc (M:Mo) (pos:Tg->Nat) (rm rk g:Nat) (Sd:Int->Prop) (K':List Int) (wr:List Nat) (t:Th) (ai:AH) (i:Nat) (ρ'':Loc) (ar:AH) (dC:List Int) (eo:List Nat):Prop where
 S:dX M pos rm rk dC eo ar
 I:iY M g Sd dC eo (fun u=>u=t)
 X:Gx rm rk ai ar
 hs:∀ a∈K',a∈dC
 hm:dC.length+wr.length=K'.length+eo.length
 hle:K'.length<=dC.length
 hc:∀ v∈t.slots.take i,∀ w∈fv v,∀ u,hit M.ac g w u->u.addr∈dC
 e1:ρ'' .aF=some (.ref (pos .heap))
 e2:ρ'' .aW=some (.int g)
 e3:ρ'' .dA=some (.ref rm)
 e4:ρ'' .f8=some (.ref rk)
theorem Ja {M:Mo} {pos:Tg->Nat} (nd:(M.ac.map (·.af)).Nodup) {t:Th} (ht:t∈M.ac) {r:Nat} (h:cm M pos r):pos (.bj t.af)≠r :=
 h _ (by refine U (show aO M pos (.bj t.af)=_ from congrArg (Option.map fun u:Th=>AO.list (u.slots.map pv)) (fu nd ht)) ?_;exact fun e=>nomatch e)
theorem dX.pop {s:Nat} {wr:List Nat} (S:dX M pos rm rk K (wr++[s]) σ):dX M pos rm rk K wr (σ.set rk (.list (wr.map fun s=>.ref (pos (.aR s)))))/\Gx rm rk σ (σ.set rk (.list (wr.map fun s=>.ref (pos (.aR s))))):=by
 have w0:=S.wl
 rw [List.length_append,List.length_singleton] at w0
 exact ⟨⟨S.W.other S.ok,S.om,S.ok,by refine U (gn S.ne.symm ..) ?_;exact S.hm,gs S.hk,S.nd,S.ka,by lia,fun a ha=>S.wt a (List.mem_append_left _ ha)⟩,fun r o h1 h2 e=>by refine U (gn h2.symm ..) ?_;exact e⟩
theorem iY.pop (H:bR M) {g:Nat} {Sd:Int->Prop} {t:Th} {wr:List Nat} (ht:t∈M.ac) (I:iY M g Sd K (wr++[t.af]) (fun Y=>False)):iY M g Sd K wr (fun u=>u=t) :=
 ⟨I.rc,fun u hu hh=>I.ub u hu (List.mem_append_left _ hh),fun u hu hk hn hx=>I.cl u hu hk (by
   rw [List.mem_append,not_or]
   exact ⟨hn,fun hh=>hx (I9 H hu ht (List.mem_singleton.mp hh))⟩) (fun f=>f)⟩
theorem Se {l:List Th} {g i:Nat} {t:Th} {dC lR:List Int} {v:Pv} (hv:t.slots[i]?=some v) (hc:∀ v∈t.slots.take i,∀ w∈fv v,∀ u,hit l g w u->u.addr∈dC) (hs:∀ a∈dC,a∈lR) (hn:∀ w,w∈fv v->∀ u,hit l g w u->u.addr∈lR) :
  ∀ v∈t.slots.take (i+1),∀ w∈fv v,∀ u,hit l g w u->u.addr∈lR:=by
 have kz:t.slots.take (i+1)=t.slots.take i++[v]:=by refine U List.take_add_one (U hv ?_);rfl
 intro v' gj w hw u hu
 rw [kz,List.mem_append] at gj
 rcases gj with h | h
 ·exact hs _ (hc v' h w hw u hu)
 ·rw [List.mem_singleton] at h;subst h;exact hn w hw u hu
theorem Sf (G:Good C) (H:bR M) (Z:mN M) (S:dX M pos rm rk K wk σ) {g:Nat} {Sd:Int->Prop} (I:iY M g Sd K wk (fun Y=>False))
  (q:∀ V K',dX M pos rm rk K' [] V->iY M g Sd K' [] (fun Y=>False)->(∀ a∈K,a∈K')->Gx rm rk σ V->Q .none V):FW C 4 .vz [.ref (pos .heap),.ref rk,.int g,.ref rm] Q σ:=by
 refine bo G (b:=tF) (ps:=tL) rfl rfl rfl rfl ?_
 delta tL tF
 refine rF _ (fun m ae V=>∃ K' cZ,Sb M pos rm rk g Sd K σ m ae V K' cZ) ⟨K,wk,rfl,S,I,fun Y h=>h,Gx.refl,rfl,rfl,rfl,rfl⟩ ?_
 (intro m ae V K0;refine gA ?_;rintro K' cZ ⟨rfl,S',I',hs,hX,e1,e2,e3,e4⟩;intro k)
 have hk:=S'.hk
 rcases List.eq_nil_or_concat cZ with rfl | ⟨wr,s,hT⟩
 ·wtm_at "w"
  exact q V K' S' I' hs hX
 ·rw [List.concat_eq_append] at hT
  subst hT
  (refine au ?_ (S'.wt s (List.mem_append_right _ (List.mem_singleton_self _)));rintro t ht rfl)
  rw [List.map_append] at hk
  change V[rk]?=some (.list (wr.map (fun s=>AV.ref (pos (.aR s)))++[.ref (pos (.aR t.af))])) at hk
  (refine ay ?_ (S'.pop);intro ah cf)
  have jo:=I'.pop H ht
  have Sg:t.addr∈K':=I'.ub t ht (List.mem_append_right _ (List.mem_singleton_self _))
  have aE:=ah.W
  have nd:=H.nd
  have ls:=tZ aE nd ht
  have n1:=Ja nd ht S'.om
  have n2:=Ja nd ht S'.ok
  have bC:=(S'.len H).2
  wtm_at "w"
  generalize V.set rk (.list (wr.map fun s=>AV.ref (pos (.aR s))))=ai at aE ah cf ls ⊢
  refine e9 (fun i ρ'' ar=>∃ dC eo,Sc M pos rm rk g Sd K' wr t ai i ρ'' ar dC eo) ls
   ⟨K',wr,ah,jo,Gx.refl,fun Y h=>h,rfl,Nat.le_refl _,(fun v hv=>nomatch hv),e1,e2,e3,e4⟩ ?_ ?_
  ·(intro i v ρ'' ar K1 hv;refine gA ?_;rintro dC eo ⟨av,gp,bd,qd,uc,Sh,w5,d1,d2,d3,d4⟩;intro k')
   have jp:=List.mem_of_getElem? hv
   wtm_at "w"
   refine C9 G H av (Z t ht v jp) fun bn lR ud aV rO ct=>?_
   have nY:=ct _ _ n1 n2 (bd _ _ n1 n2 ls)
   have abS:=rO.ua
   have hle:=rO.le
   wtm_at "w"
   exact k' _ _ nY ⟨lR,ud,aV,gp.push H rO (fun w hw u hu=>.step (gp.rc t ht (qd _ Sg)) jp hw hu),bd.trans ct,fun a ha=>rO.sub _ (qd a ha),by lia,by lia,Se hv w5 rO.sub rO.hit,d1,d2,d3,d4⟩
  ·(intro ρ'' ar;refine gA ?_;rintro dC eo ⟨av,gp,bd,qd,uc,Sh,w5,d1,d2,d3,d4⟩)
   rw [List.take_length] at w5
   have abT:=(av.len H).2
   wtm_at "w"
   refine k _ _ _ ?_ ⟨dC,eo,rfl,av,⟨gp.rc,gp.ub,fun u hu hk hn Y=>?_⟩,fun a ha=>qd a (hs a ha),hX.trans (cf.trans bd),d1,d2,d3,d4⟩
   ·refine U List.length_append (U List.length_singleton ?_)
    lia
   ·by_cases Jb:u=t
    ·subst Jb;exact w5
    ·exact gp.cl u hu hk hn Jb
noncomputable def cP (a:Int) (i b:Nat):Int:=(a+2+(i:Int)) / 2 ^ b
noncomputable def iZ (l:List Th) (cards:List Int) (bits g:Nat):List (Th × Nat):=l.flatMap fun t=>if t.gen>g then ((List.range t.slots.length).filter fun i:Nat=>decide (cP t.addr i bits∈cards)).map fun i=>(t,i) else []
@[reducible] noncomputable def kQ (pos:Tg->Nat) (x:Th × Nat):AV:=.tup [.ref (pos (.aR x.1.af)),.int x.2]
theorem Jc (Z:∀ t∈M.ac,t.slots.length<=3) {l:List Th} (hl:∀ t∈l,t∈M.ac) {f:Th->List (Th × Nat)} (hf:∀ t∈l,(f t).length<=t.slots.length):(l.flatMap f).length<=3*l.length:=by
 induction l with
 | nil=>simp
 | cons a l ih =>
  have:=ih (fun t ht=>hl t (.tail _ ht)) fun t ht=>hf t (.tail _ ht)
  have h1:=hf a (.head _)
  have h2:=Z a (hl a (.head _))
  simp only [List.flatMap_cons,List.length_append,List.length_cons]
  lia
noncomputable def lS (t:Th) (cards:List Int) (bits j:Nat):List (Th × Nat):=((List.range j).filter fun i:Nat=>decide (cP t.addr i bits∈cards)).map fun i=>(t,i)
theorem Si {t:Th} {cards:List Int} {bits j:Nat}:lS t cards bits (j+1)=lS t cards bits j++if cP t.addr j bits∈cards then [(t,j)] else []:=by
 unfold lS
 refine U List.range_succ (U (List.filter_append ..) ?_)
 by_cases hh:cP t.addr j bits∈cards <;> simp [hh]
theorem Sj {l:List Th} {cards:List Int} {bits g i:Nat} {t:Th} (h:l[i]?=some t):iZ (l.take (i+1)) cards bits g=iZ (l.take i) cards bits g++if t.gen>g then lS t cards bits t.slots.length else []:=by
 have kz:l.take (i+1)=l.take i++[t]:=by refine U List.take_add_one (U h ?_);rfl
 refine U kz ?_;unfold iZ;refine U List.flatMap_append ?_;simp [lS]
theorem Sk (H:bR M) (Z:∀ t∈M.ac,t.slots.length<=3) {i j:Nat} {t:Th} (hj:j<=3) {cards:List Int} {bits g:Nat}:(iZ (M.ac.take i) cards bits g++lS t cards bits j).length<=300003:=by
 have bC:(iZ (M.ac.take i) cards bits g).length<=3*(M.ac.take i).length:=Jc Z (fun t ht=>List.mem_of_mem_take ht) fun t ht=>by
  split
  ·refine U (List.length_map ..) ?_;exact Nat.le_trans (List.length_filter_le ..) (by simp)
  ·simp
 have Sl:(M.ac.take i).length<=100000:=by have:=H.len;simp;lia
 have:(lS t cards bits j).length<=j:=by unfold lS;refine U (List.length_map ..) ?_;exact Nat.le_trans (List.length_filter_le ..) (by simp)
 refine U List.length_append ?_;lia
theorem Sn (G:Good C) (H:bR M) (Z:∀ t∈M.ac,t.slots.length<=3) (W:Wd M pos σ) {g:Nat} (q:∀ V r,Gr σ V->σ[r]?=none->V[r]?=some (.list ((iZ M.ac M.bv M.bits g).map (kQ pos)))->Q (.ref r) V) :
  FW C 2 .FA [.ref (pos .heap),.int g] Q σ:=by
 refine bo G (b:=AK) (ps:=BI) rfl rfl rfl rfl ?_
 delta BI AK
 have aE:=W.app (.list [])
 have hn:σ[σ.length]?=Option.none:=cL
 have hl:(σ++[AO.list []])[σ.length]?=some (.list ((iZ (M.ac.take 0) M.bv M.bits g).map (kQ pos))):=gl
 have hg:Gr σ (σ++[.list []]):=Gr.app _ _
 have h2:=n6 W H
 have h3:=hg _ _ h2
 have nd:=H.nd
 wtm_at "w"
 generalize σ++[AO.list []]=ai at hl hg h3 aE ⊢
 generalize σ.length=ro at hl hn ⊢
 refine e9 (fun i ae V=>Gr σ V/\ae .aF=some (.ref (pos .heap))/\ae .aW=some (.int g)/\ae .eb=some (.ref ro)/\V[ro]?=some (.list ((iZ (M.ac.take i) M.bv M.bits g).map (kQ pos))))
  h3 ⟨hg,rfl,rfl,rfl,hl⟩ ?_ ?_
 ·(intro i t ae V K0 c5;refine nb ?_;intro hg e1 e2 e3 e4;intro k)
  have dG:=List.mem_of_getElem? c5
  have hO:=Sj (cards:=M.bv) (bits:=M.bits) (g:=g) c5
  have k:=fun ρ'' ar (a:Gr σ ar)=>k ρ'' ar (a _ _ h2)
  have W':=W.gr hg
  by_cases qe:(g:Int)<t.gen
  ·rw [if_pos (by lia)] at hO
   have ls:=tZ W' nd dG
   wtm_at "w"
   refine jQ t.slots.length (fun j ρ'' ar=>Gr σ ar/\ρ'' .aF=some (.ref (pos .heap))/\ρ'' .aW=some (.int g)/\ρ'' .aP=some (.ref (pos (.aR t.af)))/\ρ'' .eb=some (.ref ro) /\
     ar[ro]?=some (.list ((iZ (M.ac.take i) M.bv M.bits g++lS t M.bv M.bits j).map (kQ pos)))) rfl (by have:=Z t dG;lia)
    ⟨hg,e1,e2,rfl,e3,by refine U (show lS t M.bv M.bits 0=[] from rfl) (U (List.append_nil ..) ?_);exact e4⟩ ?_ ?_
   ·(intro j ρ'' ar K1 hj;refine qF ?_;intro g1 d1 d2 d3 d4 d5;intro k')
    have w6:=W.gr g1
    have hs:=Si (t:=t) (cards:=M.bv) (bits:=M.bits) (j:=j)
    have hz:=Z t dG
    have bC:=Sk H Z (i:=i) (t:=t) (j:=j) (by lia) (cards:=M.bv) (bits:=M.bits) (g:=g)
    wtm_at "w"
    refine CS G (mH w6 nd dG) ?_
    wtm_at "w"
    refine CX G w6 ?_
    by_cases hh:cP t.addr j M.bits∈M.bv
    ·rw [if_pos hh] at hs
     have hc:(bL (cx M.bv) ((t.addr+2+(j:Int)) / 2 ^ M.bits)).isSome=true:=C7 hh
     rw [<- List.length_map (f:=kQ pos)] at bC
     wtm_at "w"
     exact k' _ _ ⟨g1.set hn,d1,d2,d3,d4,by refine U (gs d5 ..) (U hs (aT (List.append_assoc ..) (U (List.map_append (l₂:=[(t,j)]) ..) ?_)));rfl⟩
    ·rw [if_neg hh,List.append_nil] at hs
     have hc:(bL (cx M.bv) ((t.addr+2+(j:Int)) / 2 ^ M.bits)).isSome=false:=C8 hh
     wtm_at "w"
     exact k' _ _ ⟨g1,d1,d2,d3,d4,by refine U hs ?_;exact d5⟩
   ·(intro ρ'' ar;refine qF ?_;intro g1 d1 d2 d3 d4 d5)
    wtm_at "w"
    exact k _ _ g1 ⟨g1,d1,d2,d4,by refine U hO ?_;exact d5⟩
  ·rw [if_neg (by lia),List.append_nil] at hO
   wtm_at "w"
   exact k _ _ hg ⟨hg,e1,e2,e3,by refine U hO ?_;exact e4⟩
 ·(intro ae V;refine nb ?_;intro hg e1 e2 e3 e4)
  rw [List.take_length] at e4
  wtm_at "w"
  exact q _ _ hg hn e4
end
noncomputable def n9 (M:Mo) (g:Nat) (w:Int):Prop:=(∃ v∈M.cells,w∈fv v)∨(g<2/\∃ x∈iZ M.ac M.bv M.bits g,∃ v,x.1.slots[x.2]?=some v/\w∈fv v)
structure mP (M:Mo) (g:Nat) (K:List Int):Prop where
 iff:∀ t∈M.ac,t.addr∈K↔Rc M.ac g (n9 M g) t
 nd:K.Nodup
 ka:∀ a∈K,∃ t∈M.ac,t.addr=a
theorem Jd {l:List Th} {cards:List Int} {b g:Nat} {x:Th × Nat} (h:x∈iZ l cards b g):x.1∈l/\x.2<x.1.slots.length/\g<x.1.gen/\cP x.1.addr x.2 b∈cards:=by
 unfold iZ at h
 (refine au ?_ (List.mem_flatMap.mp h);intro t ht h)
 split at h
 ·(refine au ?_ (List.mem_map.mp h);rintro i hi rfl)
  rw [List.mem_filter] at hi
  exact ⟨ht,by simpa using hi.1,by assumption,by simpa using hi.2⟩
 ·cases h
theorem Rc.mem {l:List Th} {g:Nat} {S:Int->Prop} {t:Th} (h:Rc l g S t):t∈l:=by
 cases h with
 | base _ h=>exact (mL h.2.1).1
 | step _ _ _ h=>exact (mL h.2.1).1
theorem So {M:Mo} {g:Nat} {K:List Int} (I:iY M g (n9 M g) K [] (fun Y=>False)) (hs:∀ w,n9 M g w->∀ u,hit M.ac g w u->u.addr∈K) (nd:K.Nodup) (ka:∀ a∈K,∃ t∈M.ac,t.addr=a):mP M g K where
 nd:=nd
 ka:=ka
 iff:=fun t ht=>by
  refine ⟨I.rc t ht,fun h=>?_⟩
  clear ht
  induction h with
  | base h1 h2=>exact hs _ h1 _ h2
  | step h1 h2 h3 h4 ih=>exact I.cl _ h1.mem ih (by simp) (fun f=>f) _ h2 _ h3 _ h4
section
variable {C:Cx} {M:Mo} {pos:Tg->Nat} {σ:AH} {Q:AV->AH->Prop} {rm rk:Nat} {K:List Int} {wk:List Nat}
theorem dM.weak {l:List Th} {g:Nat} {W W':Int->Prop} {K K':List Int} {wk cZ:List Nat} (P:dM l g W K wk K' cZ) (h:∀ w,W' w↔W w):dM l g W' K wk K' cZ :=
 ⟨P.sub,P.rN,fun w hw=>P.hit w ((h w).mp hw),fun a ha=>(P.new a ha).imp id fun ⟨w,u,h1,h2⟩=>(jb w u ((h w).mpr h1) h2),fun a ha=>(P.t9 a ha).imp id fun ⟨w,u,h1,h2⟩=>(jb w u ((h w).mpr h1) h2),P.ua,P.le⟩
theorem dM.Je {α:Type} {f:α->Int->Prop} {l:List Th} {g i:Nat} {v:α} {L:List α} {lP dC:List Int} {lQ eo:List Nat} (hv:L[i]?=some v) (n8:dM l g (fun w=>∃ v∈L.take i,f v w) K wk lP lQ) (jV:dM l g (fun w=>f v w) lP lQ dC eo) :
  dM l g (fun w=>∃ v∈L.take (i+1),f v w) K wk dC eo:=by
 have kz:L.take (i+1)=L.take i++[v]:=by refine U List.take_add_one (U hv ?_);rfl
 refine n8.trans jV (fun w hw=>?_) (fun w hw=>?_)
 ·rw [kz] at hw
  (revert hw;refine au ?_;intro v' gj hw)
  rcases List.mem_append.mp gj with h | h
  ·exact .inl (aB v' h hw)
  ·rw [List.mem_singleton] at h;subst h;exact .inr hw
 ·refine U kz ?_
  rcases hw with ⟨v',h,hw⟩ | hw
  ·exact (aB v' (List.mem_append_left _ h) hw)
  ·exact (aB v (List.mem_append_right _ (List.mem_singleton_self _)) hw)
structure Jf (M:Mo) (pos:Tg->Nat) (rm rk g:Nat) (W:Int->Prop) (K:List Int) (wk:List Nat) (ai:AH) (ae:Loc) (V:AH) (K':List Int) (cZ:List Nat):Prop where
 S:dX M pos rm rk K' cZ V
 P:dM M.ac g W K wk K' cZ
 X:Gx rm rk ai V
 e1:ae .aF=some (.ref (pos .heap))
 e2:ae .aW=some (.int g)
 e3:ae .dA=some (.ref rm)
 e4:ae .f8=some (.ref rk)
theorem Sp (G:Good C) (H:bR M) (Z:mN M) (Zs:∀ t∈M.ac,t.slots.length<=3) (Zc:∀ v∈M.cells,ch v<=100000) (W:Wd M pos σ) {g rl:Nat} (hl:σ[rl]?=some (.list [.ref (pos .cells),.ref (pos .ready)]))
  (q:∀ V rm K,Wd M pos V->Gr σ V->σ[rm]?=none->cm M pos rm->V[rm]?=some (.an (cx K))->mP M g K->Q (.ref rm) V):FW C 5 .FC [.ref (pos .heap),.ref rl,.int g] Q σ:=by
 refine bo G (b:=AL) (ps:=BJ) rfl rfl rfl rfl ?_
 delta BJ AL
 have bA:Gr σ (σ++[AO.an []]++[AO.list []]):=(Gr.app _ _).mK _
 have nm:σ[σ.length]?=none:=cL
 have nk:σ[(σ++[AO.an []]).length]?=none:=mJ (by simp)
 have aE:=W.gr bA
 have om:cm M pos σ.length:=W.fresh (Nat.le_refl _)
 have ok:cm M pos (σ++[AO.an []]).length:=W.fresh (by simp)
 have ah:dX M pos σ.length (σ++[AO.an []]).length [] [] (σ++[AO.an []]++[AO.list []]):=⟨aE,om,ok,by refine U (ga gl ..) ?_;rfl,by refine U gl ?_;rfl,List.nodup_nil,(fun a h=>nomatch h),Nat.le_refl _,(fun a h=>nomatch h)⟩
 have kS:=bA _ _ hl
 wtm_at "w"
 generalize σ++[AO.an []]++[AO.list []]=ai at bA aE ah kS ⊢
 generalize (σ++[AO.an []]).length=rk at nk ok ah ⊢
 generalize σ.length=rm at nm om ah ⊢
 have Jg:rl≠rm/\rl≠rk:=⟨fun e=>by (rw [<- e,hl] at nm;exact dQ nm),fun e=>by (rw [<- e,hl] at nk;exact dQ nk)⟩
 have C0:ai[pos .cells]?=some (.list (M.cells.map pv)):=wg aE rfl
 have gx:∀ {V},Gx rm rk ai V->Gr σ V:=fun x r o e=>x r o (by rintro rfl;rw [nm] at e;exact aZ e) (by rintro rfl;rw [nk] at e;exact aZ e) (bA r o e)
 have Sq:pos .cells≠rm:=om _ (fun e=>nomatch e)
 have Sr:pos .cells≠rk:=ok _ (fun e=>nomatch e)
 refine p7 kS ?_
 wtm_at "w"
 refine e9 (fun i ae V=>∃ K' cZ,Jf M pos rm rk g (fun w=>∃ v∈M.cells.take i,w∈fv v) [] [] ai ae V K' cZ) C0
  ⟨[],[],ah,dM.none (fun w ⟨v,hv,_⟩=>nomatch hv),Gx.refl,rfl,rfl,rfl,rfl⟩ ?_ ?_
 ·(intro i v ae V K0 hv;refine gA ?_;rintro K' cZ ⟨S',P',X',e1,e2,e3,e4⟩;intro k)
  wtm_at "w"
  refine FW.up (C9 G H S' (Zc v (List.mem_of_getElem? hv)) fun aH dC eo av jV bd=>?_) (by decide)
  have X:=X'.trans bd
  wtm_at "w"
  exact k _ _ (X _ _ Sq Sr C0) ⟨dC,eo,av,P'.Je (f:=fun v w=>w∈fv v) hv jV,X,e1,e2,e3,e4⟩
 ·(intro ae aH;refine gA ?_;rintro dC eo ⟨av,jV,bd,e1,e2,e3,e4⟩)
  rw [List.take_length] at jV
  have w3:=bd _ _ Jg.1 Jg.2 kS
  have bc:=av.W
  wtm_at "w"
  refine p7 (wg bc (t:=.ready) rfl) ?_
  have gp:iY M g (n9 M g) dC eo (fun Y=>False) :=
   iY.push (K:=[]) (wk:=[]) (X:=fun Y=>False) H ⟨(fun Y Y h=>nomatch h),(fun Y Y h=>nomatch h),(fun Y Y h=>nomatch h)⟩ jV fun w hw u hu=>.base (.inl hw) hu
  have final:∀ bn lR ud,dX M pos rm rk lR ud bn->iY M g (n9 M g) lR ud (fun Y=>False)->(∀ w,n9 M g w->∀ u,hit M.ac g w u->u.addr∈lR)->Gx rm rk ai bn->FW C 4 .vz [.ref (pos .heap),.ref rk,.int g,.ref rm] (fun Y V=>Q (.ref rm) V) bn:=by
   intro bn lR ud aV gq nS ct
   refine Sf G H Z aV gq fun cg ue bK nV Ss fG=>?_
   exact q cg rm ue bK.W (gx (ct.trans fG)) nm om bK.hm (So nV (fun w hw u hu=>Ss _ (nS w hw u hu)) bK.nd bK.ka)
  by_cases hg:(g:Int)<2
  ·wtm_at "w"
   refine FW.up (Sn G H Zs av.W fun bn ro hM no ho=>?_) (by decide)
   have aV:=av.gr hM
   have on:=av.off no
   refine e9 (fun i ae V=>∃ K' cZ,Jf M pos rm rk g (fun w=>∃ x∈(iZ M.ac M.bv M.bits g).take i,∃ v,x.1.slots[x.2]?=some v/\w∈fv v) dC eo bn ae V K' cZ) ho
    ⟨dC,eo,aV,dM.none (fun w ⟨v,hv,_⟩=>nomatch hv),Gx.refl,e1,e2,e3,e4⟩ ?_ ?_
   ·(intro i x ρ'' V K0 hv;refine gA ?_;rintro K' cZ ⟨S',P',X',d1,d2,d3,d4⟩;intro k)
    (refine jw ?_ (Jd (List.mem_of_getElem? hv));intro m1 m2 m3 m4)
    obtain ⟨v,iS⟩:∃ v,x.1.slots[x.2]?=some v:=(aQ _ (List.getElem?_eq_getElem m2))
    have W':=S'.W
    have nd:=H.nd
    wtm_at "w"
    refine FW.up (C9 G H S' (Z _ m1 _ (List.mem_of_getElem? iS)) fun cg ue Db bK rP fG=>?_) (by decide)
    have X:=X'.trans fG
    wtm_at "w"
    exact k _ _ (X _ _ on.1 on.2 ho) ⟨ue,Db,bK,P'.Je (f:=fun (x:Th × Nat) w=>∃ v,x.1.slots[x.2]?=some v/\w∈fv v) hv (rP.weak fun w=>⟨fun ⟨v',h,hw⟩=>by rw [iS] at h;(revert h;refine si ?_;rintro rfl);exact hw,fun hw=>(aB v iS hw)⟩),X,d1,d2,d3,d4⟩
   ·(intro ρ'' cg;refine gA ?_;rintro ue Db ⟨bK,rP,fG,d1,d2,d3,d4⟩)
    rw [List.take_length] at rP
    wtm_at "w"
    refine (final cg ue Db bK (gp.push H rP fun w hw u hu=>.base (.inr ⟨by lia,hw⟩) hu) (fun w hw u hu=>?_) (bd.trans ((hM.gx).trans fG))).mono fun v V q=>?_
    ·rcases hw with hw | hw
     ·exact rP.sub _ (jV.hit w hw u hu)
     ·exact rP.hit w hw.2 u hu
    ·wtm_at "w";exact q
  ·wtm_at "w"
   refine (final aH dC eo av gp (fun w hw u hu=>?_) bd).mono fun v V q=>?_
   ·rcases hw with hw | hw
    ·exact jV.hit w hw u hu
    ·exact absurd hw.1 (by lia)
   ·wtm_at "w";exact q
theorem Su (G:Good C) (W:Wd M pos σ) {rl:Nat} (hl:σ[rl]?=some (.list [.ref (pos .cells)])) (q:Q (.ref σ.length) (σ++[.list [.ref (pos .cells),.ref (pos .ready)]])):FW C 1 .FX [.ref (pos .heap),.ref rl,.none] Q σ:=by
 refine bo G (b:=A5) (ps:=B2) rfl rfl rfl rfl ?_
 delta B2 A5
 wtm_at "w"
 have g:∀ l,Gr σ (σ++[AO.list l]):=fun l=>Gr.app _ _
 have e:∀ l l',(σ++[AO.list l]).set σ.length (.list l')=σ++[.list l']:=fun l l'=>by simp
 have aE:=W.gr (g [.ref (pos .cells)])
 have kS:=g [.ref (pos .cells)] _ _ hl
 refine p7 (ga hl) ?_
 wtm_at "w"
 rw [e]
 wtm_at "w"
 rw [e]
 exact q
theorem Sv (G:Good C) (W:Wd M pos σ) {rm g:Nat} (q:∀ V pos' r,Wd M pos' V->(∀ aX,Gr aX σ->aL M pos aX M pos' V)->(∀ t,t≠.fZ->pos' t=pos t)->V[r]?=some (.list [])->σ[r]?=none->Q (.ref r) V) :
  FW C 1 .FK [.ref (pos .heap),.ref rm,.int g] Q σ:=by
 refine bo G (b:=AS) (ps:=BP) rfl rfl rfl rfl ?_
 delta BP AS
 wtm_at "w"
 have aE:=(W.app (.list [])).app (.list [])
 have hm:=aE.move (M':=M) (t:=.fZ) (k:=.heap) (r:=σ.length) (o':=.list []) (by decide) (W.fresh (Nat.le_refl _)) (by exact U (ga gl ..) rfl) rfl rfl rfl (fun t' h1 h2=>by
  induction t' <;> first | rfl | exact absurd rfl h1 | exact absurd rfl h2)
 (revert hm;refine ay ?_;intro bc av)
 have bA:Gr σ (σ++[AO.list []]++[AO.list []]):=(Gr.app _ _).mK _
 have e3:(σ++[AO.list []]++[AO.list []])[(σ++[AO.list []]).length]?=some (.list []):=gl
 have bu:pos .heap≠(σ++[AO.list []]).length:=fun e=>by have:=jN (W.get .heap _ rfl);rw [e,List.length_append] at this;exact absurd (Nat.le_add_right _ _) (Nat.not_le.mpr this)
 have hn:σ[(σ++[AO.list []]).length]?=none:=mJ (by simp)
 have h1:(σ++[AO.list []]++[AO.list []])[pos .heap]?=some (.inst .dR (em M pos)):=aE.get .heap _ rfl
 refine p7 (wg aE (t:=.fZ) rfl) ?_
 wtm_at "w"
 exact q _ _ _ bc (fun aX g0=>av aX (g0.trans bA) (g0.none cL)) (fun t ht=>ft ht) (jO bu e3) hn
theorem Sw (G:Good C) (H:bR M) (Z:mN M) (W:Wd M pos σ) {g rm ra:Nat} {K:List Int} (hm:σ[rm]?=some (.an (cx K))) (om:cm M pos rm) (ha:σ[ra]?=some (.list [])) (q:∀ V,Gr σ V->Q .none V) :
  FW C 5 .FD [.ref (pos .heap),.ref rm,.ref ra,.int g] Q σ:=by
 refine bo G (b:=AM) (ps:=BK) rfl rfl rfl rfl ?_
 delta BK AM
 wtm_at "w"
 refine p7 (ga ha) ?_
 wtm_at "w"
 refine FW.up (m:=4) (n:=1) (bo G (b:=tF) (ps:=tL) rfl rfl rfl rfl ?_) (by decide)
 delta tL tF
 refine IA 1 ?_
 wtm_at "w"
 exact q _ (Gr.app _ _)
end
noncomputable def et (l:List (Int × Int)):List (Int × AV):=l.map fun x=>(x.1,.int x.2)
noncomputable def lk (l:List (Int × Int)) (a:Int):Option Int:=(l.find? fun x=>x.1=a).map (·.2)
theorem uf {l:List (Int × Int)} {a:Int}:bL (et l) a=(lk l a).map AV.int:=by
 unfold et lk
 refine U (wU (f:=fun x:Int × Int=>x.1) (g:=fun x=>AV.int x.2) ..) (U (Option.map_map ..) ?_);rfl
theorem Sx {l:List (Int × Int)} {a b:Int} (h:a∉l.map (·.1)):ee (et l) a (.int b)=et (l++[(a,b)]):=by
 unfold ee et
 rw [if_neg]
 ·simp
 ·intro hh
  (refine au ?_ (List.any_eq_true.mp hh);intro x hx e)
  (refine au ?_ (List.mem_map.mp hx);rintro y hy rfl)
  simp at e
  exact h (List.mem_map.mpr (aB y hy e))
noncomputable def mw (l:List Th) (mv:List (Int × Int)) (w:Int):Int:=match gJ l w with
 | some t=>(match lk mv t.addr with | some b=>w - t.addr+b | none=>w)
 | none=>w
noncomputable def cQ (l:List Th) (mv:List (Int × Int)):Pv->Pv
 | .dat c=>.dat c
 | .ref a=>.ref ((lk mv a).getD a)
 | .str a b=>.str (cQ l mv a) (cQ l mv b)
 | .bQ w p=>.bQ (mw l mv w) p
noncomputable def f0 (l:List Th) (g:Nat) (e:Int):Int:=l.foldl (fun e t=>if t.gen>g/\t.addr+t.size>e then t.addr+t.size else e) e
noncomputable def fK (g:Nat) (K:List Int):Int->List Th->List (Int × Int)
 | _,[]=>[]
 | b,t::r=>if t.gen<=g/\t.addr∈K then (t.addr,b)::fK g K (b+t.size) r else fK g K b r
section
variable {C:Cx} {M:Mo} {pos:Tg->Nat} {σ:AH} {Q:AV->AH->Prop}
noncomputable abbrev kT (pos:Tg->Nat) (rm:Nat):AO:=.inst .jd [(.aF,.ref (pos .heap)),(.cB,.ref rm)]
theorem Sy {l:List (Int × Int)} {a b:Int} (h:lk l a=some b):(bL (et l) a).isSome=true:=by refine U uf (U h ?_);rfl
theorem Sz {l:List (Int × Int)} {a:Int} (h:lk l a=none):(bL (et l) a).isSome=false:=by refine U uf (U h ?_);rfl
theorem Jh {l:List (Int × Int)} {a b:Int} (h:lk l a=some b):bL (et l) a=some (.int b):=by refine U uf (U h ?_);rfl
theorem SA {l:List (Int × Int)} {a:Int}:(bL (et l) a).getD (.int a)=.int ((lk l a).getD a):=by
 refine U uf ?_;induction lk l a <;> rfl
theorem SD (G:Good C) (H:bR M) (W:Wd M pos σ) {rm:Nat} {mv:List (Int × Int)} {w:Int} (hm:σ[rm]?=some (.an (et mv))) (q:Q (.int (mw M.ac mv w)) σ):FW C 2 .FN [.ref (pos .heap),.ref rm,.int w] Q σ:=by
 refine bo G (b:=AW) (ps:=BS) rfl rfl rfl rfl ?_
 delta BS AW
 wtm_at "w"
 refine t6 G W H ?_
 unfold mw at q
 induction e:gJ M.ac w with
 | none=>rw [e] at q;wtm_at "w";exact q
 | some t =>
  have dG:=(mL e).1
  have nd:=H.nd
  simp only [e] at q
  induction hl:lk mv t.addr with
  | none=>have h1:=Sz hl;rw [hl] at q;wtm_at "w";exact q
  | some b=>have h1:=Sy hl;have h2:=Jh hl;rw [hl] at q;wtm_at "w";exact q
theorem SE (G:Good C) (H:bR M) (W:Wd M pos σ) {rm dr:Nat} {mv:List (Int × Int)} {w:Int} (hm:σ[rm]?=some (.an (et mv))) (hw:σ[dr]?=some (kT pos rm)) (q:Q (.int (mw M.ac mv w)) σ):FW C 3 .pi [.ref dr,.int w] Q σ:=by
 refine bo G (b:=Bm) (ps:=Cm) rfl rfl rfl rfl ?_
 delta Cm Bm
 wtm_at "w"
 exact SD G H W hm q
theorem ug (G:Good C) (H:bR M) (W:Wd M pos σ) {rm dr:Nat} {mv:List (Int × Int)} {v:Pv} (hv:∀ a b,v≠.str a b) (hm:σ[rm]?=some (.an (et mv))) (hw:σ[dr]?=some (kT pos rm)) (q:Q (pv (cQ M.ac mv v)) σ) :
  FW C 4 .sy [pv v,.ref rm,.ref dr] Q σ:=by
 refine bo G (b:=At) (ps:=Bs) rfl rfl rfl rfl ?_
 delta Bs At
 induction v using Pv.casesOn with
 | dat c=>wtm_at "w";exact q
 | ref a =>
  have hd:=SA (l:=mv) (a:=a)
  wtm_at "w"
  exact q
 | str a b=>exact absurd rfl (hv a b)
 | bQ w p =>
  wtm_at "w"
  refine SE G H W hm hw ?_
  wtm_at "w"
  exact q
abbrev fP:=Pv × Pv × List Pv × Nat
noncomputable def mu:Pv->Nat
 | .str a b=>2+mu a+mu b
 | _=>1
theorem w7 (v:Pv):0<mu v:=by induction v using Pv.casesOn <;> simp [mu];lia
noncomputable def hU (e:fP):Nat:=match e.2.2.1 with
 | []=>mu e.1+mu e.2.1+1
 | [_]=>mu e.2.1+1
 | _=>1
noncomputable def hV (e:fP):Nat:=match e.2.2.1 with
 | []=>mu e.2.1+1
 | _=>1
noncomputable def w8:List fP->Nat
 | []=>0
 | e::r=>hU e+(r.map hV).sum
noncomputable def Ji (m:Pv->Pv) (a b:Pv):List Pv->Pv
 | []=>.str (m a) (m b)
 | [x]=>.str x (m b)
 | x::y::_=>.str x y
noncomputable def Jj (m:Pv->Pv):Pv->List fP->Pv
 | v,[]=>v
 | v,f::r=>Jj m (Ji m f.1 f.2.1 (f.2.2.1++[v])) r
noncomputable def SF (m:Pv->Pv):List fP->Pv->Pv
 | [],r=>r
 | e::r,_=>Jj m (Ji m e.1 e.2.1 e.2.2.1) r
@[reducible] noncomputable def gu (e:fP):AV:=.tup [pv (.str e.1 e.2.1),.ref e.2.2.2]
structure gW (σ V:AH) (rt:Nat) (T:List fP):Prop where
 gr:Gr σ V
 nt:σ[rt]?=none
 todo:V[rt]?=some (.list (T.reverse.map gu))
 items:∀ e∈T,V[e.2.2.2]?=some (.list (e.2.2.1.map pv))/\e.2.2.2≠rt/\σ[e.2.2.2]?=none
 nd:(T.map (·.2.2.2)).Nodup
 top:∀ e r,T=e::r->e.2.2.1.length<=2
 rest:∀ e r,T=e::r->∀ f∈r,f.2.2.1.length<=1
theorem SG (e:fP):0<hV e:=by unfold hV;split <;> lia
theorem Jk:∀ r:List fP,r.length<=(r.map hV).sum
 | []=>Nat.zero_le _
 | e::r=>by have:=SG e;have:=Jk r;simp only [List.map_cons,List.sum_cons,List.length_cons];lia
theorem Jl {α:Type} {l:List α} {a:α}:(l++[a])[(((l++[a]).length:Int) - 1).toNat]?=some a:=by
 refine U (show (((l++[a]).length:Int) - 1).toNat=l.length by rw [List.length_append,List.length_singleton];lia) ?_
 exact List.getElem?_concat_length
theorem Jm {α:Type} {l:List α} {a:α}:(0:Int)<=((l++[a]).length:Int) - 1:=by refine U List.length_append (U List.length_singleton ?_);lia
theorem Jn {α:Type} {l:List α} {a:α}:(0:Int)<((l++[a]).length:Int):=by refine U List.length_append (U List.length_singleton ?_);lia
theorem qf {e:fP} {r:List fP}:(e::r).reverse.map gu=r.reverse.map gu++[gu e]:=by refine U List.reverse_cons (U List.map_append ?_);rfl
section
variable {V:AH} {rt ri:Nat} {c d:Pv} {dn:List Pv} {rest:List fP}
theorem gW.td (S:gW σ V rt ((c,d,dn,ri)::rest)):V[rt]?=some (.list (rest.reverse.map gu++[.tup [pv (.str c d),.ref ri]])):=by exact U S.todo (U qf rfl)
theorem gW.push (S:gW σ V rt ((c,d,dn,ri)::rest)) {c' d':Pv} (hl:dn.length<=1) :
  gW σ ((V++[AO.list []]).set rt (.list (rest.reverse.map gu++[.tup [pv (.str c d),.ref ri]]++[.tup [pv (.str c' d'),.ref V.length]]))) rt ((c',d',[],V.length)::(c,d,dn,ri)::rest):=by
 have abU:rt<V.length:=jN S.todo
 have SH:=S.rest _ _ rfl
 refine ⟨(S.gr.mK _).set S.nt,S.nt,?_,?_,?_,?_,?_⟩
 ·exact U (gs (ga S.todo) ..) (U qf (U qf rfl))
 ·intro e he
  rcases List.mem_cons.mp he with rfl | he
  ·exact ⟨by dsimp only;rw [gn (by lia)];exact gl,by dsimp only;lia,S.gr.len⟩
  ·(refine bS ?_ (S.items e he);intro j1 j2 j3)
   exact ⟨by rw [gn j2.symm];exact ga j1,j2,j3⟩
 ·rw [List.map_cons,List.nodup_cons]
  refine ⟨fun hh=>?_,S.nd⟩
  (refine au ?_ (List.mem_map.mp hh);intro e he h)
  have:=jN (S.items e he).1
  dsimp only at h
  lia
 ·intro e r he;(revert he;refine ij List.cons.inj (ay ?_);rintro rfl rfl);exact Nat.zero_le _
 ·intro e r he;(revert he;refine ij List.cons.inj (ay ?_);rintro rfl rfl)
  intro f hf
  rcases List.mem_cons.mp hf with rfl | hf
  ·exact hl
  ·exact SH f hf
theorem gW.ne (S:gW σ V rt ((c,d,dn,ri)::rest)) {e:fP} (he:e∈rest):e.2.2.2≠ri:=fun h=>by
 have bP:=S.nd
 rw [List.map_cons,List.nodup_cons] at bP
 have hq:=List.mem_map_of_mem (f:=fun x:fP=>x.2.2.2) he
 rw [h] at hq;exact bP.1 hq
theorem gW.leaf (S:gW σ V rt ((c,d,dn,ri)::rest)) {x:Pv} (hl:dn.length<=1):gW σ (V.set ri (.list (dn.map pv++[pv x]))) rt ((c,d,dn++[x],ri)::rest):=by
 (refine bS ?_ (S.items _ (.head _));intro i1 i2 i3)
 refine ⟨S.gr.set i3,S.nt,?_,?_,?_,?_,?_⟩
 ·exact U (gn i2 ..) (U S.todo (U qf (U qf rfl)))
 ·intro e he
  rcases List.mem_cons.mp he with rfl | he
  ·exact ⟨by refine U (gs i1 ..) (U List.map_append ?_);rfl,i2,i3⟩
  ·(refine bS ?_ (S.items e (.tail _ he));intro j1 j2 j3)
   exact ⟨by refine U (gn (S.ne he).symm ..) ?_;exact j1,j2,j3⟩
 ·exact S.nd
 ·intro e r he;(revert he;refine ij List.cons.inj (ay ?_);rintro rfl rfl);show (dn++[x]).length<=2;refine U List.length_append (U List.length_singleton ?_);lia
 ·intro e r he;(revert he;refine ij List.cons.inj (ay ?_);rintro rfl rfl);exact S.rest _ _ rfl
theorem gW.last (S:gW σ V rt [(c,d,dn,ri)]):gW σ (V.set rt (.list [])) rt [] :=
 ⟨S.gr.set S.nt,S.nt,gs S.todo,(fun e h=>nomatch h),List.nodup_nil,(fun e r h=>nomatch h),(fun e r h=>nomatch h)⟩
theorem gW.done {x:Pv} {fa fb:Pv} {fd:List Pv} {fr:Nat} {r':List fP} (S:gW σ V rt ((c,d,dn,ri)::(fa,fb,fd,fr)::r')) :
  gW σ ((V.set rt (.list (r'.reverse.map gu++[.tup [pv (.str fa fb),.ref fr]]))).set fr (.list (fd.map pv++[pv x]))) rt ((fa,fb,fd++[x],fr)::r') /\
  (V.set rt (.list (r'.reverse.map gu++[.tup [pv (.str fa fb),.ref fr]])))[fr]?=some (.list (fd.map pv)):=by
 (refine bS ?_ (S.items (fa,fb,fd,fr) (.tail _ (.head _)));intro j1 j2 j3)
 have bP:=S.nd
 rw [List.map_cons,List.nodup_cons,List.map_cons,List.nodup_cons] at bP
 have gX:=S.rest _ _ rfl (fa,fb,fd,fr) (.head _)
 dsimp only at j1 j2 j3 gX
 have hf:(V.set rt (.list (r'.reverse.map gu++[.tup [pv (.str fa fb),.ref fr]])))[fr]?=some (.list (fd.map pv)):=by refine U (gn j2.symm ..) ?_;exact j1
 refine ⟨⟨(S.gr.set S.nt).set j3,S.nt,?_,?_,?_,?_,?_⟩,hf⟩
 ·exact U (gn j2 ..) (U (gs S.todo ..) (U qf rfl))
 ·intro e he
  rcases List.mem_cons.mp he with rfl | he
  ·exact ⟨by refine U (gs hf ..) (U List.map_append ?_);rfl,j2,j3⟩
  ·(refine bS ?_ (S.items e (.tail _ (.tail _ he)));intro l1 l2 l3)
   have:e.2.2.2≠fr:=fun h=>bP.2.1 (by have hq:=List.mem_map_of_mem (f:=fun x:fP=>x.2.2.2) he;rw [h] at hq;exact hq)
   exact ⟨by rw [gn this.symm,gn l2.symm];exact l1,l2,l3⟩
 ·rw [List.map_cons,List.nodup_cons];exact bP.2
 ·intro e r he;(revert he;refine ij List.cons.inj (ay ?_);rintro rfl rfl);show (fd++[x]).length<=2;refine U List.length_append (U List.length_singleton ?_);lia
 ·intro e r he;(revert he;refine ij List.cons.inj (ay ?_);rintro rfl rfl)
  exact fun f hf=>S.rest _ _ rfl f (.tail _ hf)
end
structure SI (M:Mo) (rm dr rt:Nat) (mv:List (Int × Int)) (v:Pv) (σ:AH) (m:Nat) (ae:Loc) (V:AH) (T:List fP) (r:Pv):Prop where
 hm:m=w8 T
 Dc:w8 T<=100000
 S:gW σ V rt T
 hf:SF (cQ M.ac mv) T r=cQ M.ac mv v
 e1:ae .sw=some (pv r)
 e2:ae .eA=some (.ref rt)
 e3:ae .ni=some (.ref rm)
 e4:ae .cT=some (.ref dr)
theorem i4 {e:fP} {r:List fP}:w8 (e::r)=hU e+(r.map hV).sum:=rfl
theorem sum_cons {e:fP} {r:List fP}:((e::r).map hV).sum=hV e+(r.map hV).sum:=List.sum_cons
theorem SJ (G:Good C) (H:bR M) (W:Wd M pos σ) {rm dr:Nat} {mv:List (Int × Int)} {a b:Pv} (qg:mu (.str a b)<=100000) (hm:σ[rm]?=some (.an (et mv))) (hw:σ[dr]?=some (kT pos rm))
  (q:∀ V,Gr σ V->Q (pv (cQ M.ac mv (.str a b))) V):FW C 5 .Ft [pv (.str a b),.ref rm,.ref dr] Q σ:=by
 refine bo G (b:=Au) (ps:=Bt) rfl rfl rfl rfl ?_
 delta Bt Au
 wtm_at "w"
 have bA:Gr σ (σ++[AO.list []]++[AO.list [.tup [pv (.str a b),.ref σ.length]]]):=(Gr.app _ _).mK _
 refine rF _ (fun m ae V=>∃ T r,SI M rm dr (σ++[AO.list []]).length mv (.str a b) σ m ae V T r)
  ⟨[(a,b,[],σ.length)],.str a b,rfl,by simp [mu] at qg;simp [w8,hU];lia,⟨bA,mJ (by simp),gl,?_,by simp,?_,?_⟩,rfl,rfl,rfl,rfl,rfl⟩ ?_
 ·intro e he
  rw [List.mem_singleton] at he;subst he
  exact ⟨by refine U (ga gl ..) ?_;rfl,by simp,cL⟩
 ·intro e r he;(revert he;refine ij List.cons.inj (ay ?_);rintro rfl rfl);exact Nat.zero_le _
 ·intro e r he;(revert he;refine ij List.cons.inj (ay ?_);rintro rfl rfl);exact fun f hf=>nomatch hf
 generalize (σ++[AO.list []]).length=rt
 clear bA
 (intro m ae V K;refine gA ?_;rintro T r ⟨rfl,Dc,S,mQ,e1,e2,e3,e4⟩;intro k)
 induction T using List.casesOn with
 | nil =>
  have td:=S.todo
  replace mQ:r=_:=mQ
  rw [mQ] at e1
  have:=q V S.gr
  wtm_at "w"
  exact this
 | cons e rest =>
  obtain ⟨c,d,dn,ri⟩:=e
  (refine bS ?_ (S.items _ (.head _));intro i1 i2 i3)
  dsimp only at i1 i2 i3
  have SK:dn.length<=2:=S.top _ _ rfl
  have td:=S.td
  have lg:=Jl (l:=rest.reverse.map gu) (a:=.tup [pv (.str c d),.ref ri])
  have lp:=Jn (l:=rest.reverse.map gu) (a:=.tup [pv (.str c d),.ref ri])
  have ln:=Jm (l:=rest.reverse.map gu) (a:=.tup [pv (.str c d),.ref ri])
  have lt:(rest.reverse.map gu++[AV.tup [pv (.str c d),.ref ri]]).length<1000000:=by
   refine U List.length_append (U (List.length_map ..) (U List.length_reverse (U List.length_singleton ?_)))
   have:=Jk rest
   rw [i4] at Dc
   lia
  have fq:=S.gr _ _ hm
  have im:=S.gr _ _ hw
  have W':=W.gr S.gr
  rw [i4] at Dc k
  rcases dn with _ | ⟨x,_ | ⟨y,_ | ⟨z,dn⟩⟩⟩
  ·-- the first item is next
   have leaf:(∀ a b,c≠.str a b)->FW C 4 .sy [pv c,.ref rm,.ref dr] (tT ri (wE C 5 [] K Q (co (co (co ae .qL (pv (.str c d))) .pa (.ref ri)) .qI (pv c)))) V:=fun hc=>by
    refine ug G H W' hc fq im ?_
    wtm_at "w"
    refine k _ _ _ ?_ ⟨_,r,rfl,?_,S.leaf (Nat.zero_le _),?_,e1,e2,e3,e4⟩
    ·have:=w7 c;simp only [i4,hU,List.nil_append];lia
    ·have:=w7 c;simp only [i4,hU,List.nil_append] at *;lia
    ·exact mQ
   induction c using Pv.casesOn with
   | str c' d' =>
    wtm_at "w"
    refine k _ _ _ ?_ ⟨_,r,rfl,?_,S.push (Nat.zero_le _),?_,e1,e2,e3,e4⟩
    ·simp only [i4,sum_cons,hU,hV,mu];lia
    ·simp only [i4,sum_cons,hU,hV,mu] at *;lia
    ·exact mQ
   | _=>wtm_at "w";exact FW.up (leaf (fun a b h=>nomatch h)) (by decide)
  ·have leaf:(∀ a b,d≠.str a b)->FW C 4 .sy [pv d,.ref rm,.ref dr] (tT ri (wE C 5 [] K Q (co (co (co ae .qL (pv (.str c d))) .pa (.ref ri)) .qI (pv d)))) V:=fun hc=>by
    refine ug G H W' hc fq im ?_
    wtm_at "w"
    refine k _ _ _ ?_ ⟨_,r,rfl,?_,S.leaf (Nat.le_refl _),?_,e1,e2,e3,e4⟩
    ·have:=w7 d;simp only [i4,hU,List.cons_append,List.nil_append];lia
    ·have:=w7 d;simp only [i4,hU,List.cons_append,List.nil_append] at *;lia
    ·exact mQ
   induction d using Pv.casesOn with
   | str c' d' =>
    wtm_at "w"
    refine k _ _ _ ?_ ⟨_,r,rfl,?_,S.push (Nat.le_refl _),?_,e1,e2,e3,e4⟩
    ·simp only [i4,sum_cons,hU,hV,mu];lia
    ·simp only [i4,sum_cons,hU,hV,mu] at *;lia
    ·exact mQ
   | _=>wtm_at "w";exact FW.up (leaf (fun a b h=>nomatch h)) (by decide)
  ·induction rest using List.casesOn with
   | nil =>
    have S':=S.last
    have SM:=gs (o':=AO.list []) td
    wtm_at "w"
    refine k 0 _ _ (by simp only [hU];decide) ⟨[],.str x y,rfl,Nat.zero_le _,S',?_,rfl,e2,e3,e4⟩
    exact mQ
   | cons f rQ =>
    obtain ⟨fa,fb,fd,fr⟩:=f
    have gX:fd.length<=1:=S.rest _ _ rfl (fa,fb,fd,fr) (.head _)
    (refine ay ?_ (S.done (x:=.str x y));intro S' hf)
    have er:((fa,fb,fd,fr)::rQ).reverse.map gu=rQ.reverse.map gu++[.tup [pv (.str fa fb),.ref fr]]:=qf
    rw [er] at td lg lp ln lt
    have lg':=Jl (l:=rQ.reverse.map gu) (a:=.tup [pv (.str fa fb),.ref fr])
    have lp':=Jn (l:=rQ.reverse.map gu) (a:=.tup [pv (.str fa fb),.ref fr])
    have ln':=Jm (l:=rQ.reverse.map gu) (a:=.tup [pv (.str fa fb),.ref fr])
    have SM:=gs (o':=AO.list (rQ.reverse.map gu++[.tup [pv (.str fa fb),.ref fr]])) td
    have lf:(fd.map pv).length<1000000:=by refine U (List.length_map ..) ?_;lia
    wtm_at "w"
    refine k _ _ _ ?_ ⟨_,.str x y,rfl,?_,S',?_,rfl,e2,e3,e4⟩
    ·rcases fd with _ | ⟨u,_ | ⟨u',fd⟩⟩
     ·simp only [i4,sum_cons,hU,hV,List.nil_append];lia
     ·simp only [i4,sum_cons,hU,hV,List.cons_append,List.nil_append];lia
     ·exact absurd gX (by simp)
    ·rcases fd with _ | ⟨u,_ | ⟨u',fd⟩⟩
     ·simp only [i4,sum_cons,hU,hV,List.nil_append] at *;lia
     ·simp only [i4,sum_cons,hU,hV,List.cons_append,List.nil_append] at *;lia
     ·exact absurd gX (by simp)
    ·exact mQ
  ·exact absurd SK (by simp)
end
section
variable {C:Cx} {M:Mo} {pos:Tg->Nat} {σ:AH} {Q:AV->AH->Prop} {rm dr:Nat} {mv:List (Int × Int)}
theorem SN (G:Good C) (H:bR M) (W:Wd M pos σ) {v:Pv} (qg:mu v<=100000) (hm:σ[rm]?=some (.an (et mv))) (hw:σ[dr]?=some (kT pos rm)) (q:∀ V,Gr σ V->Q (pv (cQ M.ac mv v)) V) :
  FW C 6 .Fs [pv v,.ref rm,.ref dr] Q σ:=by
 refine bo G (b:=As) (ps:=Br) rfl rfl rfl rfl ?_
 delta Br As
 induction v using Pv.casesOn with
 | str a b=>wtm_at "w";exact SJ G H W qg hm hw q
 | dat c=>wtm_at "w";exact FW.up (ug (v:=.dat c) G H W (fun a b h=>nomatch h) hm hw (q σ (Gr.refl σ))) (by decide)
 | ref c=>wtm_at "w";exact FW.up (ug (v:=.ref c) G H W (fun a b h=>nomatch h) hm hw (q σ (Gr.refl σ))) (by decide)
 | bQ w p=>wtm_at "w";exact FW.up (ug (v:=.bQ w p) G H W (fun a b h=>nomatch h) hm hw (q σ (Gr.refl σ))) (by decide)
theorem uh {α β:Type} {f:α->β} {l:List α} {i:Nat} {a:α} (h:l[i]?=some a):(l.take (i+1)).map f=(l.take i).map f++[f a]:=by
 refine U List.take_add_one (U h (U List.map_append ?_));rfl
theorem oa {σ:AH} {r r':Nat} {o:AO} (h:σ[r]?=some o) (h':σ[r']?=none):r'≠r:=fun e=>by rw [e,h] at h';exact dQ h'
theorem w9 {α β:Type} {f:α->β} {l:List α} {i k:Nat} (h:l.length<=k):((l.take i).map f).length<=k:=by
 refine U (List.length_map ..) (U (List.length_take ..) ?_);exact Nat.le_trans (Nat.min_le_right _ _) h
theorem SO (G:Good C) (H:bR M) (W:Wd M pos σ) {vs:List Pv} {rv:Nat} (mx:σ[rv]?=some (.list (vs.map pv))) (bC:vs.length<=500000) (qg:∀ v∈vs,mu v<=100000) (hm:σ[rm]?=some (.an (et mv))) (hw:σ[dr]?=some (kT pos rm))
  (q:∀ V r,Gr σ V->σ[r]?=none->V[r]?=some (.list ((vs.map (cQ M.ac mv)).map pv))->Q (.ref r) V):FW C 7 .FO [.ref rv,.ref rm,.ref dr] Q σ:=by
 refine bo G (b:=AY) (ps:=BV) rfl rfl rfl rfl ?_
 delta BV AY
 wtm_at "w"
 have bA:Gr σ (σ++[AO.list []]):=Gr.app _ _
 have hn:σ[σ.length]?=none:=cL
 have hl:(σ++[AO.list []])[σ.length]?=some (.list ((vs.take 0).map fun v=>pv (cQ M.ac mv v))):=gl
 generalize σ++[AO.list []]=ai at bA hl ⊢
 generalize σ.length=ro at hn hl ⊢
 have bu:=oa mx hn
 refine e9 (fun i ae V=>Gr σ V/\ae .eb=some (.ref ro)/\ae .cB=some (.ref rm)/\ae .cT=some (.ref dr)/\V[ro]?=some (.list ((vs.take i).map fun v=>pv (cQ M.ac mv v))))
  (bA _ _ mx) ⟨bA,rfl,rfl,rfl,hl⟩ ?_ ?_
 ·(intro i v ae V K hv;refine nb ?_;intro hg e1 e2 e3 e4;intro k)
  have hl:=w9 (f:=fun v=>pv (cQ M.ac mv v)) (i:=i) bC
  have ht:=uh (f:=fun v=>pv (cQ M.ac mv v)) hv
  wtm_at "w"
  refine SN G H (W.gr hg) (qg v (List.mem_of_getElem? hv)) (hg _ _ hm) (hg _ _ hw) fun aH dx=>?_
  have e5:=dx _ _ e4
  wtm_at "w"
  exact k _ _ (jO bu (dx _ _ (hg _ _ mx))) ⟨(hg.trans dx).set hn,e1,e2,e3,by exact U (gs e5 ..) (U ht rfl)⟩
 ·(intro ae V;refine nb ?_;intro hg e1 e2 e3 e4)
  rw [List.take_length] at e4
  wtm_at "w"
  exact q _ _ hg hn (by refine U List.map_map ?_;exact e4)
theorem Jo (G:Good C) (W:Wd M pos σ) (H:(M.ac.map (·.af)).Nodup) {t:Th} (ht:t∈M.ac) {g:Nat} (hm:σ[rm]?=some (.an (et mv))) (q:Q (.bool (decide (g<t.gen)||(lk mv t.addr).isSome)) σ) :
  FW C 1 .yI [.ref (pos (.aR t.af)),.ref rm,.int g] Q σ:=by
 refine bo G (b:=AX) (ps:=BU) rfl rfl rfl rfl ?_
 delta BU AX
 by_cases h:(g:Int)<t.gen
 ·rw [decide_eq_true (show g<t.gen by lia),Bool.true_or] at q
  wtm_at "w"
  exact q
 ·rw [decide_eq_false (show ¬ g<t.gen by lia),Bool.false_or] at q
  have hd:(bL (et mv) t.addr).isSome=(lk mv t.addr).isSome:=by refine U uf ?_;induction lk mv t.addr <;> rfl
  wtm_at "w"
  exact q
noncomputable def dH (M:Mo):Tg->List Pv
 | .cells=>M.cells
 | .bj s=>((M.ac.find? fun t=>t.af=s).map (·.slots)).getD []
 | _=>[]
noncomputable def setC (M:Mo) (l:List Pv):Tg->Mo
 | .cells=>{ M with cells:=l }
 | .bj s=>{ M with ac:=b0 M.ac s fun t=>{ t with slots:=l } }
 | _=>M
noncomputable def jq (M:Mo):Tg->Prop
 | .cells=>True
 | .ready=>True
 | .bj s=>∃ t∈M.ac,t.af=s
 | _=>False
theorem Jp (H:(M.ac.map (·.af)).Nodup) {t:Tg} (h:jq M t):aO M pos t=some (.list ((dH M t).map pv)):=by
 induction t with
 | cells=>rfl
 | ready=>rfl
 | bj s =>
  (revert h;refine au ?_;rintro t ht rfl)
  (delta aO dH;simp [fu H ht])
 | _=>exact h.elim
noncomputable def xa (M:Mo) (mv:List (Int × Int)) (σ:AH) (ro:Nat) (L:List Tg) (fr:List Nat) (V:AH):Prop :=
 ∀ (k:Nat) t x,L[k]?=some t->fr[k]?=some x->σ[x]?=none/\x≠ro/\V[x]?=some (.list (((dH M t).map (cQ M.ac mv)).map pv))
theorem xa.snoc {V aH:AH} {ro iX i:Nat} {L:List Tg} {fr:List Nat} {t:Tg} {o:AO} (I:xa M mv σ ro L fr V) (hv:L[i]?=some t) (hf:fr.length=i) (dx:Gr V aH) (rK:σ[iX]?=none) (hr:iX≠ro)
  (bI:aH[iX]?=some (.list (((dH M t).map (cQ M.ac mv)).map pv))):xa M mv σ ro L (fr++[iX]) (aH.set ro o):=by
 intro k' t' x' h1 h2
 rcases Nat.lt_or_ge k' fr.length with aS | jB
 ·rw [List.getElem?_append_left aS] at h2
  (refine bS ?_ (I k' t' x' h1 h2);intro a b c)
  exact ⟨a,b,by refine U (gn b.symm ..) ?_;exact dx _ _ c⟩
 ·rw [List.getElem?_append_right jB] at h2
  have:k' - fr.length=0:=by
   rcases Nat.eq_zero_or_pos (k' - fr.length) with h0 | h0
   ·exact h0
   ·rw [List.getElem?_eq_none (by refine U List.length_singleton ?_;lia)] at h2;exact aZ h2
  rw [this] at h2
  (revert h2;refine si ?_;rintro rfl)
  have hk:k'=i:=by lia
  subst hk
  rw [hv] at h1;(revert h1;refine si ?_;rintro rfl)
  exact ⟨rK,hr,by refine U (gn hr.symm ..) ?_;exact bI⟩
theorem SP (G:Good C) (H:bR M) (W:Wd M pos σ) {L:List Tg} (hL:∀ t∈L,jq M t) {rl:Nat} (hl:σ[rl]?=some (.list (L.map fun t=>.ref (pos t)))) (bC:L.length<=500000) (fY:∀ t∈L,(dH M t).length<=500000)
  (qg:∀ t∈L,∀ v∈dH M t,mu v<=100000) (hm:σ[rm]?=some (.an (et mv))) (hw:σ[dr]?=some (kT pos rm))
  (q:∀ V r (fr:List Nat),Gr σ V->σ[r]?=none->fr.length=L.length->V[r]?=some (.list (fr.map AV.ref))->(∀ (k:Nat) t x,L[k]?=some t->fr[k]?=some x->σ[x]?=none/\V[x]?=some (.list (((dH M t).map (cQ M.ac mv)).map pv)))->Q (.ref r) V) :
  FW C 8 .FP [.ref rl,.ref rm,.ref dr] Q σ:=by
 refine bo G (b:=AZ) (ps:=BW) rfl rfl rfl rfl ?_
 delta BW AZ
 wtm_at "w"
 have bA:Gr σ (σ++[AO.list []]):=Gr.app _ _
 have hn:σ[σ.length]?=none:=cL
 have Dd:(σ++[AO.list []])[σ.length]?=some (.list (([]:List Nat).map AV.ref)):=gl
 generalize σ++[AO.list []]=ai at bA Dd ⊢
 generalize σ.length=ro at hn Dd ⊢
 have bu:=oa hl hn
 refine e9 (fun i ae V=>Gr σ V/\ae .eb=some (.ref ro)/\ae .cB=some (.ref rm)/\ae .cT=some (.ref dr)/\∃ fr:List Nat,fr.length=i/\V[ro]?=some (.list (fr.map AV.ref))/\xa M mv σ ro L fr V)
  (bA _ _ hl) (Ff bA rfl rfl rfl ([]) rfl Dd (fun k t x Y h=>nomatch h)) ?_ ?_
 ·(intro i t ae V K hv;refine EV ?_;intro hg e1 e2 e3 fr gX e4 e5;intro k)
  have dG:=List.mem_of_getElem? hv
  have hi:=(List.getElem?_eq_some_iff.mp hv).1
  have ky:=W.get t _ (Jp H.nd (hL t dG))
  wtm_at "w"
  refine SO G H (W.gr hg) (hg _ _ ky) (fY t dG) (qg t dG) (hg _ _ hm) (hg _ _ hw) fun aH iX dx rK bI=>?_
  have e6:=dx _ _ e4
  have iP:=(oa e4 rK)
  wtm_at "w"
  exact k _ _ (jO bu (dx _ _ (hg _ _ hl))) (Ff ((hg.trans dx).set hn) e1 e2 e3 (fr++[iX]) (by refine U List.length_append (U gX ?_);rfl) (by refine U (gs e6 ..) (U List.map_append ?_);rfl) (e5.snoc hv gX dx (hg.none rK) iP bI))
 ·(intro ae V;refine EV ?_;intro hg e1 e2 e3 fr gX e4 e5)
  wtm_at "w"
  exact q _ _ fr hg hn gX e4 fun k t x h1 h2=>let ⟨a,_,c⟩:=e5 k t x h1 h2;⟨a,c⟩
theorem SQ {l:List Th} {g i:Nat} {t:Th} {e:Int} (h:l[i]?=some t):f0 (l.take (i+1)) g e=(if t.gen>g/\t.addr+t.size>f0 (l.take i) g e then t.addr+t.size else f0 (l.take i) g e):=by
 refine U List.take_add_one (U h ?_);unfold f0;refine U List.foldl_append ?_;rfl
theorem SR (G:Good C) (H:bR M) (W:Wd M pos σ) {g:Nat} (q:Q (.int (f0 M.ac g 16)) σ):FW C 1 .FL [.ref (pos .heap),.int g] Q σ:=by
 refine bo G (b:=AT) (ps:=BQ) rfl rfl rfl rfl ?_
 delta BQ AT
 have h2:=n6 W H
 have nd:=H.nd
 wtm_at "w"
 refine e9 (fun i ae V=>V=σ/\ae .aW=some (.int g)/\ae .so=some (.int (f0 (M.ac.take i) g 16))) h2 ⟨rfl,rfl,rfl⟩ ?_ ?_
 ·(intro i t ae V K c5;refine bS ?_;rintro rfl e1 e2;intro k)
  have dG:=List.mem_of_getElem? c5
  have hs:=SQ (g:=g) (e:=16) c5
  by_cases h1:(g:Int)<(t.gen:Int)
  ·by_cases h3:f0 (M.ac.take i) g 16<t.addr+t.size
   ·rw [if_pos ⟨by lia,h3⟩] at hs
    wtm_at "w"
    exact k _ _ h2 ⟨rfl,e1,by refine U hs ?_;rfl⟩
   ·rw [if_neg (fun h=>h3 h.2)] at hs
    wtm_at "w"
    exact k _ _ h2 ⟨rfl,e1,by refine U hs ?_;exact e2⟩
  ·rw [if_neg (fun h=>h1 (by have:=h.1;lia))] at hs
   wtm_at "w"
   exact k _ _ h2 ⟨rfl,e1,by refine U hs ?_;exact e2⟩
 ·(intro ae V;refine bS ?_;rintro rfl e1 e2)
  rw [List.take_length] at e2
  wtm_at "w"
  exact q
noncomputable def jW (g:Nat) (K:List Int) (b:Int) (l:List Th):Int:=l.foldl (fun (b:Int) (t:Th)=>if t.gen<=g/\t.addr∈K then b+(t.size:Int) else b) b
theorem xb {g:Nat} {K:List Int}:∀ (l m:List Th) (b:Int),fK g K b (l++m)=fK g K b l++fK g K (jW g K b l) m
 | [],m,b=>rfl
 | t::l,m,b=>by
  simp only [List.cons_append,fK,jW,List.foldl_cons]
  split
  ·refine U (xb l m ..) ?_;rfl
  ·refine U (xb l m ..) ?_;rfl
theorem De {g:Nat} {K:List Int}:∀ (l:List Th) (b:Int),(fK g K b l).length<=l.length
 | [],b=>Nat.le_refl _
 | t::l,b=>by
  simp only [fK]
  split
  ·have:=De (g:=g) (K:=K) l (b+t.size);simp;lia
  ·have:=De (g:=g) (K:=K) l b;simp;lia
theorem rR {g:Nat} {K:List Int}:∀ (l:List Th) (b:Int),∀ a∈(fK g K b l).map (·.1),∃ t∈l,t.addr=a/\t.gen<=g/\a∈K
 | [],b,a,h=>by simp [fK] at h
 | t::l,b,a,h=>by
  simp only [fK] at h
  split at h
  ·rename_i hc
   rcases List.mem_cons.mp h with rfl | h
   ·exact (ff t (.head _) rfl hc)
   ·(refine au ?_ (rR l _ a h);intro u h1 h2);exact (aB u (.tail _ h1) h2)
  ·(refine au ?_ (rR l _ a h);intro u h1 h2);exact (aB u (.tail _ h1) h2)
theorem SU {l:List Th} {g i:Nat} {K:List Int} {t:Th} {e:Int} (h:l[i]?=some t):jW g K e (l.take (i+1))=(if t.gen<=g/\t.addr∈K then jW g K e (l.take i)+t.size else jW g K e (l.take i)):=by
 refine U List.take_add_one (U h ?_);unfold jW;refine U List.foldl_append ?_;rfl
theorem SV {l:List Th} {g i:Nat} {K:List Int} {t:Th} {e:Int} (h:l[i]?=some t):fK g K e (l.take (i+1))=fK g K e (l.take i)++(if t.gen<=g/\t.addr∈K then [(t.addr,jW g K e (l.take i))] else []):=by
 refine U List.take_add_one (U h ?_);exact xb _ _ _
theorem SW (H:bR M) {g i:Nat} {K:List Int} {t:Th} {e:Int} (c5:M.ac[i]?=some t):t.addr∉(fK g K e (M.ac.take i)).map (·.1):=fun hh=>by
 (refine bO ?_ (rR _ _ _ hh);intro u hu h3 _)
 have dG:=List.mem_of_getElem? c5
 have:=w4 H (List.mem_of_mem_take hu) dG h3
 subst this
 (refine aM ?_ (List.mem_iff_getElem?.mp hu);intro j hj)
 have xc:M.ac[j]?=some u/\j<i:=by
  rw [List.getElem?_take] at hj
  split at hj
  ·exact ⟨hj,by assumption⟩
  ·exact aZ hj
 have:=H.lt xc.1 c5 xc.2
 lia
structure SX (M:Mo) (g rk ro:Nat) (K:List Int) (b:Int) (σ:AH) (i:Nat) (ae:Loc) (V:AH):Prop where
 hg:Gr σ V
 e1:ae .aW=some (.int g)
 e2:ae .dA=some (.ref rk)
 e3:ae .cB=some (.ref ro)
 e4:ae .l7=some (.int (jW g K b (M.ac.take i)))
 e5:V[ro]?=some (.an (et (fK g K b (M.ac.take i))))
theorem SY (G:Good C) (H:bR M) (W:Wd M pos σ) {g rk:Nat} {K:List Int} (hk:σ[rk]?=some (.an (cx K))) (q:∀ V r,Gr σ V->σ[r]?=none->V[r]?=some (.an (et (fK g K (f0 M.ac g 16) M.ac)))->Q (.ref r) V) :
  FW C 2 .FM [.ref (pos .heap),.ref rk,.int g] Q σ:=by
 refine bo G (b:=AU) (ps:=BR) rfl rfl rfl rfl ?_
 delta BR AU
 wtm_at "w"
 have bA:Gr σ (σ++[AO.an []]):=Gr.app _ _
 have hn:σ[σ.length]?=none:=cL
 have aE:=W.gr bA
 have h2:=n6 W H
 have h3:=bA _ _ h2
 have nd:=H.nd
 refine SR G H aE ?_
 generalize f0 M.ac g 16=b at q ⊢
 have hl:(σ++[AO.an []])[σ.length]?=some (.an (et (fK g K b (M.ac.take 0)))):=gl
 wtm_at "w"
 generalize σ++[AO.an []]=ai at bA hl aE h3 ⊢
 generalize σ.length=ro at hn hl ⊢
 refine e9 (fun i ae V=>SX M g rk ro K b σ i ae V) h3 ⟨bA,rfl,rfl,rfl,rfl,hl⟩ ?_ ?_
 ·rintro i t ae V K0 c5 ⟨hg,e1,e2,e3,e4,e5⟩ k
  have dG:=List.mem_of_getElem? c5
  have W':=W.gr hg
  have gc:=hg _ _ hk
  have qh:=SU (g:=g) (K:=K) (e:=b) c5
  have qi:=SV (g:=g) (K:=K) (e:=b) c5
  by_cases h1:(t.gen:Int)<=(g:Int)
  ·by_cases h4:t.addr∈K
   ·rw [if_pos ⟨by wtm_at "o",h4⟩] at qh qi
    have hc:=C7 h4
    have S0:=SW H (g:=g) (K:=K) (e:=b) c5
    have bC:(et (fK g K b (M.ac.take i))).length<1000000:=by
     have:=De (g:=g) (K:=K) (M.ac.take i) b
     have:=H.len
     unfold et
     rw [List.length_take] at *
     refine U (List.length_map ..) ?_;lia
    have bu:ro≠pos (.aR t.af):=oa (mH W nd dG) hn
    wtm_at "w"
    refine U (Sx S0 ..) (aT qi ?_)
    exact k _ _ (jO (oa h2 hn) (hg _ _ h2)) ⟨hg.set hn,e1,e2,e3,by refine U qh ?_;rfl,gs e5⟩
   ·rw [if_neg (fun h=>h4 h.2)] at qh qi
    have hc:=C8 h4
    wtm_at "w"
    exact k _ _ (hg _ _ h2) ⟨hg,e1,e2,e3,by refine U qh ?_;exact e4,by refine U qi (U (List.append_nil ..) ?_);exact e5⟩
  ·rw [if_neg (fun h=>h1 (by have:=h.1;wtm_at "o"))] at qh qi
   wtm_at "w"
   exact k _ _ (hg _ _ h2) ⟨hg,e1,e2,e3,by refine U qh ?_;exact e4,by refine U qi (U (List.append_nil ..) ?_);exact e5⟩
 ·rintro ae V ⟨hg,e1,e2,e3,e4,e5⟩
  rw [List.take_length] at e5
  wtm_at "w"
  exact q _ _ hg hn e5
theorem S1 (G:Good C) {ra:Nat} (h:σ[ra]?=some (.list [])) (q:Q (.ref σ.length) (σ++[.list []])):FW C 1 .FS [.ref ra,.ref rm] Q σ:=by
 refine bo G (b:=A1) (ps:=BY) rfl rfl rfl rfl ?_
 delta BY A1
 wtm_at "w"
 refine p7 (ga h) ?_
 wtm_at "w"
 exact q
end
section
variable {C:Cx} {M M':Mo} {pos:Tg->Nat} {σ:AH} {Q:AV->AH->Prop} {rm dr:Nat} {mv:List (Int × Int)}
theorem Wd.drop (W:Wd M pos σ) (h:∀ t o,aO M' pos t=some o->aO M pos t=some o):Wd M' pos σ/\aL M pos σ M' pos σ:=by
 have lv:∀ t,aO M' pos t≠none->aO M pos t≠none:=fun t ht=>by
  induction e:aO M' pos t with
  | none=>exact absurd e ht
  | some o=>refine U (h t o e ..) ?_;simp
 exact ⟨⟨fun a b ha hb e=>W.inj a b (lv a ha) (lv b hb) e,fun t o e=>W.get t o (h t o e)⟩,⟨fun r o Y e=>e,fun t ht=>.inl (aB t (lv t ht) rfl)⟩⟩
theorem Jq {l:List Pv} {t t':Tg} (h:t'≠t):aO (setC M l t) pos t'=aO M pos t':=by
 induction t with
 | cells=>induction t' <;> first | rfl | exact absurd rfl h
 | bj s =>
  induction t' with
  | aR n=>(delta aO setC;dsimp only);refine U (qc (f:=fun t=>{ t with slots:=l }) (fun Y=>rfl) ..) ?_;induction M.ac.find? (fun t=>decide (t.af=n)) with
   | none=>rfl
   | some u=>by_cases h:u.af=s <;> simp [h]
  | bj n =>
   (delta aO setC;dsimp only)
   refine U (qc (f:=fun t=>{ t with slots:=l }) (fun Y=>rfl) ..) ?_
   induction e:M.ac.find? (fun t=>decide (t.af=n)) with
   | none=>rfl
   | some u =>
    have hu:u.af=n:=by simpa using List.find?_some e
    have:u.af≠s:=fun hh=>h (by exact aT hu (U hh rfl))
    simp [this]
  | _=>rfl
 | _=>rfl
theorem Df (H:(M.ac.map (·.af)).Nodup) {l:List Pv} {t:Tg} (h:jq M t) (hr:t=.ready->l=[]):aO (setC M l t) pos t=some (.list (l.map pv)):=by
 induction t with
 | cells=>rfl
 | ready=>refine U (hr rfl ..) ?_;rfl
 | bj s =>
  (revert h;refine au ?_;rintro t ht rfl)
  (delta aO setC;simp [qc,fu H ht])
 | _=>exact h.elim
theorem Jr {l:List Pv} {t:Tg}:(setC M l t).ac.map (·.af)=M.ac.map (·.af):=by
 induction t with
 | bj s=>exact IZ (f:=fun t=>{ t with slots:=l }) (fun Y=>rfl) (fun n=>n)
 | _=>rfl
theorem S3 {l:List Pv} {t t':Tg} (h:jq M t'):jq (setC M l t) t':=by
 induction t' with
 | bj s =>
  (revert h;refine au ?_;rintro u hu rfl)
  have:u.af∈(setC M l t).ac.map (·.af):=by refine U Jr ?_;exact List.mem_map_of_mem (f:=(·.af)) hu
  (refine au ?_ (List.mem_map.mp this);intro x hx e)
  exact (aB x hx e)
 | _=>exact h
theorem S4 (H:(M.ac.map (·.af)).Nodup) {t:Tg} (h:jq M t):setC M (dH M t) t=M:=by
 induction t with
 | bj s =>
  (revert h;refine au ?_;rintro u hu rfl)
  have e:b0 M.ac u.af (fun t=>{ t with slots:=dH M (.bj u.af) })=M.ac:=by
   unfold b0
   have:∀ t∈M.ac,(if t.af=u.af then { t with slots:=dH M (.bj u.af) } else t)=t:=by
    intro t ht
    by_cases hs:t.af=u.af
    ·have e1:=fu H ht
     rw [hs] at e1
     (delta dH;dsimp only;refine U (if_pos hs) ?_)
     refine U e1 ?_;rfl
    ·exact U (if_neg hs ..) rfl
   refine U (List.map_congr_left this ..) ?_;simp
  delta setC;dsimp only;rw [e]
 | cells=>rfl
 | _=>rfl
theorem S5 {l:List Pv} {t t':Tg} (h:t'≠t):dH (setC M l t) t'=dH M t':=by
 induction t with
 | cells=>induction t' <;> first | rfl | exact absurd rfl h
 | bj s =>
  induction t' with
  | bj n =>
   (delta dH setC;dsimp only)
   refine U (qc (f:=fun t=>{ t with slots:=l }) (fun Y=>rfl) ..) ?_
   induction e:M.ac.find? (fun t=>decide (t.af=n)) with
   | none=>rfl
   | some u =>
    have hu:u.af=n:=by simpa using List.find?_some e
    have:u.af≠s:=fun hh=>h (by exact aT hu (U hh rfl))
    simp [this]
  | _=>rfl
 | _=>rfl
noncomputable def fc (M:Mo) (L:List Tg) (N:Tg->List Pv):Mo:=L.foldl (fun M t=>setC M (N t) t) M
theorem S6 {L L':List Tg} {N:Tg->List Pv}:fc M (L++L') N=fc (fc M L N) L' N:=List.foldl_append ..
theorem Js {N:Tg->List Pv}:∀ (L:List Tg) (M:Mo),(fc M L N).ac.map (·.af)=M.ac.map (·.af)
 | [],M=>rfl
 | t::L,M=>by
  show (fc (setC M (N t) t) L N).ac.map _=_
  exact U (Js L ..) (U Jr rfl)
theorem Jt {N:Tg->List Pv} {t':Tg}:∀ (L:List Tg) (M:Mo),jq M t'->jq (fc M L N) t'
 | [],M,h=>h
 | t::L,M,h=>Jt L _ (S3 h)
theorem Ju {N:Tg->List Pv} {t':Tg}:∀ (L:List Tg) (M:Mo),t'∉L->dH (fc M L N) t'=dH M t'
 | [],M,h=>rfl
 | t::L,M,h=>by
  rw [List.mem_cons,not_or] at h
  show dH (fc (setC M (N t) t) L N) t'=_
  exact U (Ju L _ h.2 ..) (U (S5 h.1 ..) rfl)
theorem S7 (H:(M.ac.map (·.af)).Nodup) {t:Tg} (h:jq M t) {l l':List Pv} (hr:t=.ready->l=[]/\l'=[]) (W':Wd (Internal.setC M l t) pos σ) :
  Wd (Internal.setC M l' t) pos (σ.set (pos t) (.list (l'.map pv)))/\aL (Internal.setC M l t) pos σ (Internal.setC M l' t) pos (σ.set (pos t) (.list (l'.map pv))) :=
 W'.upd (Df H h fun e=>(hr e).1) (Df H h fun e=>(hr e).2) fun t' ht=>by exact U (Jq ht ..) (U (Jq ht ..) rfl)
theorem Jv {α:Type}:∀ {a b:List α} {j:Nat} (h:a.length=b.length) (hj:j<b.length),(a.take j++b.drop j).set j (a[j]'(h ▸ hj))=a.take (j+1)++b.drop (j+1)
 | [],_,_,h,hj=>by simp at h;lia
 | _::_,[],_,h,hj=>by simp at hj
 | x::a,y::b,0,h,hj=>by simp
 | x::a,y::b,j+1,h,hj=>by
  have:=Jv (a:=a) (b:=b) (j:=j) (by simpa using h) (by simpa using hj)
  simpa using this
theorem S8 {L:List Tg} {N:Tg->List Pv} {i:Nat} {t:Tg} (h:L[i]?=some t):fc M (L.take (i+1)) N=setC (fc M (L.take i) N) (N t) t:=by
 refine U List.take_add_one (U h ?_)
 show fc M (L.take i++[t]) N=_
 refine U S6 ?_;rfl
theorem S9 {L:List Tg} {N:Tg->List Pv} {i:Nat} {t:Tg} (bP:L.Nodup) (h:L[i]?=some t):dH (fc M (L.take i) N) t=dH M t:=Ju _ _ fun hh=>by
 (refine aM ?_ (List.mem_iff_getElem?.mp hh);intro j hj)
 rw [List.getElem?_take] at hj
 split at hj
 ·rename_i Ta
  (refine aM ?_ (List.getElem?_eq_some_iff.mp h);rintro hi rfl)
  (refine aM ?_ (List.getElem?_eq_some_iff.mp hj);intro Tb e)
  exact (List.pairwise_iff_getElem.mp bP) j i Tb hi Ta e
 ·exact aZ hj
theorem Tc {a b:List Pv} {j:Nat} {v:Pv} (h:a.length=b.length) (hv:a[j]?=some v):((a.take j++b.drop j).map pv).set j (pv v)=(a.take (j+1)++b.drop (j+1)).map pv:=by
 (refine aM ?_ (List.getElem?_eq_some_iff.mp hv);rintro hj rfl)
 exact aT List.map_set (U (Jv h (h ▸ hj) ..) rfl)
structure xd (cE M:Mo) (pos:Tg->Nat) (σ:AH) (rl rf i:Nat) (t:Tg) (a b:List Pv) (j:Nat) (ρ'':Loc) (ar:AH):Prop where
 W:Wd (setC cE (a.take j++b.drop j) t) pos ar
 S:aL M pos σ (setC cE (a.take j++b.drop j) t) pos ar
 e1:ρ'' .f7=some (.ref rl)
 e2:ρ'' .fj=some (.ref rf)
 e3:ρ'' .cC=some (.int i)
 e4:ρ'' .ii=some (.ref (pos t))
theorem xd.h0 {cE:Mo} {rl rf i:Nat} {t:Tg} {a b:List Pv} {ρ'':Loc} (jM:(cE.ac.map (·.af)).Nodup) (mR:jq cE t) (hc:dH cE t=b) (W:Wd cE pos σ) {aX:AH} (S:aL M pos aX cE pos σ)
  (e1:ρ'' .f7=some (.ref rl)) (e2:ρ'' .fj=some (.ref rf)) (e3:ρ'' .cC=some (.int i)) (e4:ρ'' .ii=some (.ref (pos t))):xd cE M pos aX rl rf i t a b 0 ρ'' σ:=by
 have e:setC cE (a.take 0++b.drop 0) t=cE:=by refine U List.take_zero (U List.drop_zero (U (List.nil_append ..) (aT hc ?_)));exact S4 jM mR
 exact ⟨by refine U e ?_;exact W,by refine U e ?_;exact S,e1,e2,e3,e4⟩
theorem Td (G:Good C) (H:(M.ac.map (·.af)).Nodup) (W:Wd M pos σ) {L:List Tg} {N:Tg->List Pv} (bP:L.Nodup) (hL:∀ t∈L,jq M t) (hN:∀ t∈L,(N t).length=(dH M t).length) (bC:L.length<=500000) (fY:∀ t∈L,(dH M t).length<=500000)
  {rl rf:Nat} {fr:List Nat} (ol:cm M pos rl) (of:cm M pos rf) (gX:fr.length=L.length) (hl:σ[rl]?=some (.list (L.map fun t=>.ref (pos t)))) (hf:σ[rf]?=some (.list (fr.map AV.ref)))
  (Dg:∀ (k:Nat) t x,L[k]?=some t->fr[k]?=some x->cm M pos x/\σ[x]?=some (.list ((N t).map pv)))
  (q:∀ V,Wd (fc M L N) pos V->aL M pos σ (fc M L N) pos V->Q .none V):FW C 1 .FQ [.ref rl,.ref rf] Q σ:=by
 refine bo G (b:=A0) (ps:=BX) rfl rfl rfl rfl ?_
 delta BX A0
 wtm_at "w"
 refine jQ L.length (fun i ae V=>Wd (fc M (L.take i) N) pos V/\aL M pos σ (fc M (L.take i) N) pos V/\ae .f7=some (.ref rl)/\ae .fj=some (.ref rf)) rfl (by lia) ⟨W,aL.refl,rfl,rfl⟩ ?_ ?_
 ·(intro i ae V K hi;refine jw ?_;intro aE ah e1 e2;intro k)
  obtain ⟨t,ht⟩:∃ t,L[i]?=some t:=(aQ _ (List.getElem?_eq_getElem hi))
  obtain ⟨x,hx⟩:∃ x,fr[i]?=some x:=(aQ _ (List.getElem?_eq_getElem (by lia)))
  have dG:=List.mem_of_getElem? ht
  (refine ay ?_ (Dg i _ _ ht hx);intro ox Te)
  have kS:=ah.keep _ _ ol hl
  have jM:((fc M (L.take i) N).ac.map (·.af)).Nodup:=by refine U (Js ..) ?_;exact H
  have mR:jq (fc M (L.take i) N) t:=Jt _ _ (hL _ dG)
  have Dh:=S9 (M:=M) (N:=N) bP ht
  have ky:=aE.get _ _ (Jp jM mR)
  rw [Dh] at ky
  have aS:=fY _ dG
  have Di:=hN _ dG
  have Jw:=S8 (M:=M) (N:=N) ht
  have hr:t=.ready->dH M t=[]:=fun e=>by refine U e ?_;rfl
  wtm_at "w"
  generalize fc M (L.take i) N=cE at aE ah jM mR Dh Jw
  rw [Jw] at k
  have p0:=fun ρ'' e1 e2 e3 e4=>xd.h0 (a:=N t) (rl:=rl) (rf:=rf) (i:=i) (ρ'':=ρ'') jM mR Dh aE ah e1 e2 e3 e4
  generalize N t=a at *
  generalize dH M t=b at *
  refine jQ b.length (fun j ρ'' ar=>xd cE M pos σ rl rf i t a b j ρ'' ar) rfl (by lia) (p0 _ e1 e2 rfl rfl) ?_ ?_
  ·rintro j ρ'' ar K1 hj ⟨bc,av,d1,d2,d3,d4⟩ k'
   obtain ⟨v,hv⟩:∃ v,a[j]?=some v:=(aQ _ (List.getElem?_eq_getElem (by lia)))
   have abV:=av.keep _ _ of hf
   have abW:=av.keep _ _ ox Te
   have bu:t≠.ready:=fun e=>by have:=hr e;rw [this] at hj;exact absurd hj (Nat.not_lt_zero _)
   have abX:=bc.get _ _ (Df jM mR (fun e=>absurd e bu))
   have Tf:=Tc Di hv
   have ti:(j:Int)<(((a.take j++b.drop j).map pv).length:Int):=by refine U (List.length_map ..) (U List.length_append (U List.length_take (U List.length_drop ?_)));lia
   (refine ay ?_ (S7 jM mR (l':=a.take (j+1)++b.drop (j+1)) (fun e=>absurd e bu) bc);intro bg aV)
   wtm_at "w"
   refine U (Int.toNat_natCast ..) (U Tf ?_)
   exact k' _ _ ⟨bg,av.trans aV,d1,d2,d3,d4⟩
  ·rintro ρ'' ar ⟨bc,av,d1,d2,d3,d4⟩
   rw [<- Di,List.take_length,Di,List.drop_length,List.append_nil] at bc av
   wtm_at "w"
   exact k _ _ ⟨bc,av,d1,d2⟩
 ·(intro ae V;refine jw ?_;intro aE ah e1 e2)
  rw [List.take_length] at aE ah
  wtm_at "w"
  exact q _ aE ah
end
noncomputable def bE (g:Nat) (mv:List (Int × Int)) (t:Th):Th:=if t.gen>g then t else { t with addr:=(lk mv t.addr).getD t.addr,gen:=if t.gen<2 then t.gen+1 else t.gen }
theorem ui {g:Nat} {mv:List (Int × Int)} {t:Th}:(bE g mv t).af=t.af:=by unfold bE;split <;> rfl
section
variable {C:Cx} {M M':Mo} {pos:Tg->Nat} {σ:AH} {Q:AV->AH->Prop} {rm dr:Nat} {mv:List (Int × Int)}
noncomputable def Mo.lT (M:Mo) (top limit fresh young moved:Int) (hmade:Nat):Mo:={ M with top:=top,limit:=limit,fresh:=fresh,young:=young,moved:=moved,hmade:=hmade }
theorem oe (W:Wd M pos σ) {top limit fresh young moved:Int} {hmade:Nat} {fs:List (Nm × AV)} (e:fs=em (M.lT top limit fresh young moved hmade) pos) :
  Wd (M.lT top limit fresh young moved hmade) pos (σ.set (pos .heap) (.inst .dR fs))/\aL M pos σ (M.lT top limit fresh young moved hmade) pos (σ.set (pos .heap) (.inst .dR fs)):=by
 subst e
 exact W.upd (t:=.heap) rfl rfl fun t' ht=>by induction t' <;> first | rfl | exact absurd rfl ht
theorem jX (W:Wd M pos σ):σ[pos .heap]?=some (.inst .dR (em M pos)):=W.get .heap _ rfl
noncomputable def Mo.iF (M:Mo) (t t':Th):Mo:={ M with ac:=b0 M.ac t.af fun Y=>t' }
theorem Jx (W:Wd M pos σ) (H:(M.ac.map (·.af)).Nodup) {t t':Th} (ht:t∈M.ac) (hs:t'.af=t.af) (fD:t'.slots=t.slots) {fs:List (Nm × AV)} (e:fs=lN pos t') :
  Wd (M.iF t t') pos (σ.set (pos (.aR t.af)) (.inst .gB fs))/\aL M pos σ (M.iF t t') pos (σ.set (pos (.aR t.af)) (.inst .gB fs)):=by
 subst e
 have i5:∀ n,(b0 M.ac t.af fun Y=>t').find? (fun u=>decide (u.af=n))=(M.ac.find? fun u=>decide (u.af=n)).map fun u=>if u.af=t.af then t' else u:=by
  intro n
  unfold b0
  refine U List.find?_map ?_
  congr 1
  congr 1
  funext u
  by_cases h:u.af=t.af <;> simp [h,hs]
 refine W.upd (M':=M.iF t t') (t:=.aR t.af) (o:=eO t.addr 12 (pos (.bj t.af)) t.gen t.size t.af) (congrArg (Option.map fun u:Th=>eO u.addr 12 (pos (.bj t.af)) u.gen u.size u.af) (fu H ht)) ?_ ?_
 ·(delta aO;simp only [Mo.iF,i5,fu H ht,Option.map_some,if_true,lN,hs])
 ·intro a ha
  induction a with
  | aR n =>
   (delta aO;simp only [Mo.iF,i5])
   induction e:M.ac.find? (fun u=>decide (u.af=n)) with
   | none=>rfl
   | some u =>
    have hu:u.af=n:=by simpa using List.find?_some e
    have:u.af≠t.af:=fun h=>ha (by exact aT hu (U h rfl))
    simp [this]
  | bj n =>
   (delta aO;simp only [Mo.iF,i5])
   induction e:M.ac.find? (fun u=>decide (u.af=n)) with
   | none=>rfl
   | some u =>
    by_cases h:u.af=t.af
    ·have hu:u.af=n:=by simpa using List.find?_some e
     have e1:=fu H ht
     rw [<- h,hu,e] at e1
     (revert e1;refine si ?_;rintro rfl)
     simp [fD]
    ·simp [h]
  | _=>rfl
theorem Jy {l:List Th} {t:Th} {f:Th->Th} (H:(l.map (·.af)).Nodup) (ht:t∈l):b0 l t.af (fun Y=>f t)=b0 l t.af f:=by
 unfold b0
 apply List.map_congr_left
 intro u hu
 by_cases h:u.af=t.af
 ·have e1:=wO H hu
  rw [h,wO H ht] at e1
  exact U (if_pos h ..) (U (if_pos h ..) (U (Option.some.inj e1 ..) rfl))
 ·simp [h]
theorem Ti {l:List Th} {t t':Th} (ht:t∈l):t'∈b0 l t.af fun Y=>t':=by
 unfold b0
 exact List.mem_map.mpr (aB t ht (by simp))
theorem Tj {l:List Th} {s:Nat} {t':Th} (H:(l.map (·.af)).Nodup) (hs:t'.af=s):((b0 l s fun Y=>t').map (·.af)).Nodup:=by
 have:(b0 l s fun Y=>t').map (·.af)=l.map (·.af):=by
  unfold b0
  refine U List.map_map ?_
  apply List.map_congr_left
  intro u _
  by_cases h:u.af=s
  ·simp [h,hs]
  ·simp only [Function.comp_apply,if_neg h]
 refine U this ?_;exact H
noncomputable def Th.sA (t:Th) (b:Int):Th:={ t with addr:=b }
noncomputable def Th.Jz (t:Th) (b:Int):Th:={ t with addr:=b,gen:=t.gen+1 }
theorem Tk {t t':Th} (ht:t∈M.ac):t'∈(M.iF t t').ac:=Ti ht
theorem Tl (H:(M.ac.map (·.af)).Nodup) {t t':Th} (hs:t'.af=t.af):((M.iF t t').ac.map (·.af)).Nodup:=Tj H hs
theorem Tm {t u v:Th} (hu:u.af=t.af):(M.iF t u).iF u v=M.iF t v:=by
 have e:b0 (b0 M.ac t.af fun Y=>u) u.af (fun Y=>v)=b0 M.ac t.af fun Y=>v:=by
  unfold b0
  refine U List.map_map ?_
  apply List.map_congr_left
  intro w _
  by_cases hh:w.af=t.af
  ·simp only [Function.comp_apply,if_pos hh,hu];rfl
  ·simp only [Function.comp_apply,if_neg hh,hu]
 exact congrArg (fun l=>({ M with ac:=l }:Mo)) e
theorem JA {ρ:Loc} (W:Wd M pos σ) (H:(M.ac.map (·.af)).Nodup) {t:Th} (ht:t∈M.ac) {g:Nat} {b:Int} (uj:bE g mv t={ t with addr:=b,gen:=if t.gen<2 then t.gen+1 else t.gen })
  (r1:ρ .l7=some (.int b)) (r2:ρ .aP=some (.ref (pos (.aR t.af))))
  (q:∀ V,Wd (M.iF t (bE g mv t)) pos V->aL M pos σ (M.iF t (bE g mv t)) pos V->Q .none V) :
  ax C 0 [.aa (.nm .aP) .bM (.nm .l7),.iff (.cmp .lt (.ba (.nm .aP) .aW) (.gi .vj 2)) [.kC (.nm .aP) .aW .add (.int 1)] []] (fun Y V=>Q .none V) Q ρ σ:=by
 (refine ay ?_ (Jx W H ht (t':=t.sA b) (fs:=bp (lN pos t) .bM (.int b)) rfl rfl rfl);intro bc av)
 have uc:t.sA b∈(M.iF t (t.sA b)).ac:=Tk ht
 have tg:((M.iF t (t.sA b)).ac.map (·.af)).Nodup:=Tl H rfl
 have a2:=t3 bc tg uc (f:=.aW) rfl
 change gD _ (.ref (pos (.aR t.af))) _=some (.int t.gen) at a2
 have o1:=mH W H ht
 wtm_at "s"
 generalize σ.set (pos (.aR t.af)) (.inst .gB (bp (lN pos t) .bM (.int b)))=aH at bc av a2 ⊢
 have o2:aH[pos (.aR t.af)]?=some (.inst .gB (lN pos (t.sA b))):=mH bc tg uc
 by_cases h2:(t.gen:Int)<2
 ·(refine ay ?_ (Jx bc tg uc (t':=t.Jz b) (fs:=bp (lN pos (t.sA b)) .aW (.int ((t.gen:Int)+1))) rfl rfl rfl);intro bg aV)
  rw [Tm (t:=t) (u:=t.sA b) (v:=t.Jz b) rfl] at bg aV
  rw [uj,if_pos (by lia)] at q
  wtm_at "w"
  exact q _ bg (av.trans aV)
 ·rw [uj,if_neg (by lia)] at q
  wtm_at "w"
  exact q _ bc av
theorem Tn (G:Good C) (W:Wd M pos σ) (H:(M.ac.map (·.af)).Nodup) {t:Th} (ht:t∈M.ac) {g:Nat} (hm:σ[rm]?=some (.an (et mv))) (om:cm M pos rm) (nT:g<t.gen∨(lk mv t.addr).isSome)
  (q:∀ V bX,Wd { M with ac:=b0 M.ac t.af (bE g mv),moved:=bX } pos V->aL M pos σ { M with ac:=b0 M.ac t.af (bE g mv),moved:=bX } pos V->Q .none V) :
  FW C 1 .FT [.ref (pos .heap),.ref (pos (.aR t.af)),.ref rm,.int g] Q σ:=by
 refine bo G (b:=A2) (ps:=BZ) rfl rfl rfl rfl ?_
 delta BZ A2
 rw [<- Jy H ht] at q
 by_cases h:(g:Int)<t.gen
 ·have h':g<t.gen:=by lia
  have e:b0 M.ac t.af (fun Y=>bE g mv t)=M.ac:=by
   have:bE g mv t=t:=by unfold bE;exact U (if_pos h' ..) rfl
   refine U this (U (Jy (f:=fun u=>u) H ht ..) ?_)
   unfold b0;simp
  have:=q σ M.moved
  rw [e] at this
  wtm_at "w"
  exact this W aL.refl
 ·have h':¬ g<t.gen:=by lia
  (refine aM ?_ (Option.isSome_iff_exists.mp (nT.resolve_left h'));intro b hb)
  have uj:bE g mv t={ t with addr:=b,gen:=if t.gen<2 then t.gen+1 else t.gen }:=by unfold bE;refine U (if_neg h' ..) (U hb ?_);rfl
  have hg:=Jh hb
  have o1:=jX W
  by_cases zm:b=t.addr
  ·wtm_at "s";wtm_at "k";wtm_at "s";wtm_at "s";wtm_at "k"
   exact JA W H ht uj rfl rfl fun V W' S'=>q V M.moved W' S'
  ·(refine ay ?_ (oe W (top:=M.top) (limit:=M.limit) (fresh:=M.fresh) (young:=M.young) (moved:=M.moved+1) (hmade:=M.hmade) (fs:=bp (em M pos) .qJ (.int (M.moved+1))) rfl);intro aE ah)
   wtm_at "s";wtm_at "k";wtm_at "s";wtm_at "s";wtm_at "k";wtm_at "s";wtm_at "s"
   exact JA aE H ht uj rfl rfl fun V W' S'=>q V _ W' (ah.trans S')
end
noncomputable def bB (g:Nat) (mv:List (Int × Int)) (t:Th):Bool:=decide (g<t.gen)||(lk mv t.addr).isSome
noncomputable def og (l:List Th):Int:=l.foldl (fun Y t=>t.addr+t.size) 16
theorem xe {l:List (Int × AV)} {a:Int} {v:AV} (h:a∉l.map (·.1)):ee l a v=l++[(a,v)]:=by
 unfold ee
 rw [if_neg]
 intro hh
 (refine au ?_ (List.any_eq_true.mp hh);intro x hx e)
 simp at e
 exact h (List.mem_map.mpr (aB x hx e))
theorem To {a b:List Th} {t:Th} {f:Th->Th} (H:((a++t::b).map (·.af)).Nodup):b0 (a++t::b) t.af f=a++f t::b:=by
 have hn:∀ u∈a++b,u.af≠t.af:=by
  rw [List.map_append,List.map_cons] at H
  have H':=List.nodup_append.mp H
  have H2:=List.nodup_cons.mp H'.2.1
  intro u hu e
  rcases List.mem_append.mp hu with h | h
  ·exact H'.2.2 u.af (List.mem_map_of_mem (f:=(·.af)) h) t.af (.head _) e
  ·exact H2.1 (by refine aT e ?_;exact List.mem_map_of_mem (f:=(·.af)) h)
 have same:∀ l:List Th,(∀ u∈l,u.af≠t.af)->l.map (fun u=>if u.af=t.af then f u else u)=l:=by
  intro l hl
  have:l.map (fun u=>if u.af=t.af then f u else u)=l.map id:=List.map_congr_left fun u hu=>by refine U (if_neg (hl u hu) ..) ?_;rfl
  exact U this (U (List.map_id ..) rfl)
 unfold b0
 rw [List.map_append,List.map_cons,if_pos rfl,same a fun u hu=>hn u (List.mem_append_left _ hu),same b fun u hu=>hn u (List.mem_append_right _ hu)]
section
variable {C:Cx} {M M':Mo} {pos:Tg->Nat} {σ:AH} {Q:AV->AH->Prop} {rm dr:Nat} {mv:List (Int × Int)}
noncomputable def Mo.jr (M:Mo) (ac:List Th) (tl:List Nat) (idx:List (Int × Nat)) (top moved:Int):Mo:={ M with ac:=ac,tl:=tl,idx:=idx,top:=top,moved:=moved }
noncomputable def qj (l:List Th):List (Int × Nat):=l.map fun t=>(t.addr,t.af)
noncomputable def Mo.ql (M:Mo) (tl:List Nat):Mo:={ M with tl:=tl }
noncomputable def Mo.qm (M:Mo) (idx:List (Int × Nat)):Mo:={ M with idx:=idx }
noncomputable def Mo.rS (M:Mo) (l:List Th):Mo:={ M with ac:=l }
noncomputable def fy (g:Nat) (mv:List (Int × Int)) (L:List Th) (i:Nat):List Th:=(L.take i).map (bE g mv)++L.drop i
noncomputable def stI (g:Nat) (mv:List (Int × Int)) (L:List Th) (i:Nat):List (Int × Nat):=qj ((L.take i).map (bE g mv))
noncomputable def i6 (g:Nat) (mv:List (Int × Int)) (L:List Th) (i:Nat):Int:=og ((L.take i).map (bE g mv))
section
variable {g:Nat} {L:List Th} {i:Nat} {t:Th}
theorem take_snoc (h:L[i]?=some t):L.take (i+1)=L.take i++[t]:=by refine U List.take_add_one (U h ?_);rfl
theorem ET (h:L[i]?=some t):L.drop i=t::L.drop (i+1):=by
 (refine aM ?_ (List.getElem?_eq_some_iff.mp h);rintro hi rfl)
 exact List.drop_eq_getElem_cons hi
theorem Tp (h:L[i]?=some t):fy g mv L i=(L.take i).map (bE g mv)++t::L.drop (i+1):=by unfold fy;exact U (ET h ..) rfl
theorem Dj (h:L[i]?=some t):(L.take i).map (bE g mv)++bE g mv t::L.drop (i+1)=fy g mv L (i+1):=by unfold fy;refine U (take_snoc h ..) ?_;simp
theorem Dk (h:L[i]?=some t) (n:Th) (hn:n.af=t.af):(((L.take i).map (bE g mv)++n::L.drop (i+1)).map (·.af))=L.map (·.af):=by
 have:((L.take i).map (bE g mv)).map (·.af)=(L.take i).map (·.af):=by
  refine U List.map_map ?_;exact List.map_congr_left fun u Y=>ui
 refine U List.map_append (U this (U List.map_cons (U hn ?_)))
 conv=>rhs;rw [<- List.take_append_drop i L,ET h,List.map_append,List.map_cons]
theorem Tq (hA:((L.map (bE g mv)).map (·.addr)).Nodup) (h:L[i]?=some t) {p:Tg->Nat}:(bE g mv t).addr∉((stI g mv L i).map fun x=>(x.1,AV.ref (p (.aR x.2)))).map (·.1):=by
 intro hh
 have h3:(bE g mv t).addr∈((L.take i).map (bE g mv)).map (·.addr):=by
  simpa [stI,qj,List.map_map,Function.comp_def] using hh
 have h4:((L.take i).map (bE g mv)++(bE g mv t)::(L.drop (i+1)).map (bE g mv)).map (·.addr)=(L.map (bE g mv)).map (·.addr):=by
  conv=>rhs;rw [<- List.take_append_drop i L,ET h]
  simp
 rw [<- h4,List.map_append,List.map_cons] at hA
 exact (List.nodup_append.mp hA).2.2 _ h3 _ (.head _) rfl
theorem Tr (h:L[i]?=some t) {p:Tg->Nat}:(stI g mv L (i+1)).map (fun x=>(x.1,AV.ref (p (.aR x.2))))=(stI g mv L i).map (fun x=>(x.1,AV.ref (p (.aR x.2))))++[((bE g mv t).addr,.ref (p (.aR t.af)))]:=by
 unfold stI qj;refine U (take_snoc h ..) ?_;simp [ui]
theorem Ts (h:L[i]?=some t):i6 g mv L (i+1)=(bE g mv t).addr+(bE g mv t).size:=by
 unfold i6 og;refine U (take_snoc h ..) (U List.map_append (U List.foldl_append ?_));rfl
end
structure JB (M:Mo) (pos p:Tg->Nat) (σ:AH) (g rm:Nat) (mv:List (Int × Int)) (L:List Th) (i:Nat) (ρ:Loc) (V:AH) (bX:Int):Prop where
 W:Wd (M.jr (fy g mv L i) (L.map (·.af)) (stI g mv L i) (i6 g mv L i) bX) p V
 S:∀ aX,Gr aX σ->aL M pos aX (M.jr (fy g mv L i) (L.map (·.af)) (stI g mv L i) (i6 g mv L i) bX) p V
 d1:ρ .aF=some (.ref (p .heap))
 d2:ρ .aW=some (.int g)
 d3:ρ .cB=some (.ref rm)
theorem Tt (W:Wd M pos σ) (H:(M.ac.map (·.af)).Nodup) {L:List Th} (hL:∀ t∈L,t∈M.ac):Wd (M.rS L) pos σ/\aL M pos σ (M.rS L) pos σ:=by
 have fL:∀ n u,L.find? (fun t=>decide (t.af=n))=some u->M.ac.find? (fun t=>decide (t.af=n))=some u:=fun n u hu=>by
  have h1:=hL u (List.mem_of_find?_eq_some hu)
  have h2:u.af=n:=by simpa using List.find?_some hu
  refine aT h2 ?_;exact fu H h1
 refine W.drop fun t o e=>?_
 induction t with
 | aR n =>
  delta aO at e ⊢;dsimp only [Mo.rS] at e ⊢
  induction hf:L.find? (fun t=>decide (t.af=n)) with
  | none=>rw [hf] at e;exact aZ e
  | some u=>refine U (fL n u hf ..) (aT hf ?_);exact e
 | bj n =>
  delta aO at e ⊢;dsimp only [Mo.rS] at e ⊢
  induction hf:L.find? (fun t=>decide (t.af=n)) with
  | none=>rw [hf] at e;exact aZ e
  | some u=>refine U (fL n u hf ..) (aT hf ?_);exact e
 | _=>exact e
theorem JC (W:Wd M pos σ) {idx:List (Int × Nat)} {o:AO} (e:aO (M.qm idx) pos .idx=some o):Wd (M.qm idx) pos (σ.set (pos .idx) o)/\aL M pos σ (M.qm idx) pos (σ.set (pos .idx) o) :=
 W.upd (t:=.idx) rfl e fun t' ht=>by induction t' <;> first | rfl | exact absurd rfl ht
theorem Tu (G:Good C) (W:Wd M pos σ) (Tv:M.tl=M.ac.map (·.af)) (H:(M.ac.map (·.af)).Nodup) (bC:M.ac.length<=100000) {g:Nat} (hm:σ[rm]?=some (.an (et mv))) (om:cm M pos rm)
  (hA:(((M.ac.filter (bB g mv)).map (bE g mv)).map (·.addr)).Nodup)
  (q:∀ V pos' bX,Wd (M.jr ((M.ac.filter (bB g mv)).map (bE g mv)) ((M.ac.filter (bB g mv)).map (·.af)) (qj ((M.ac.filter (bB g mv)).map (bE g mv))) (og ((M.ac.filter (bB g mv)).map (bE g mv))) bX) pos' V ->
   (∀ aX,Gr aX σ->aL M pos aX (M.jr ((M.ac.filter (bB g mv)).map (bE g mv)) ((M.ac.filter (bB g mv)).map (·.af)) (qj ((M.ac.filter (bB g mv)).map (bE g mv))) (og ((M.ac.filter (bB g mv)).map (bE g mv))) bX) pos' V) ->
   (∀ t,t≠.things->t≠.idx->pos' t=pos t)->Q .none V):FW C 2 .FU [.ref (pos .heap),.ref rm,.int g] Q σ:=by
 refine bo G (b:=A3) (ps:=B0) rfl rfl rfl rfl ?_
 delta B0 A3
 have bA:Gr σ (σ++[AO.list []]):=Gr.app _ _
 have aE:=W.gr bA
 have h2:σ[pos .things]?=some (.list (M.ac.map fun t=>.ref (pos (.aR t.af)))):=by
  refine U (W.get .things _ rfl ..) (U Tv (U List.map_map ?_));rfl
 have h3:=bA _ _ h2
 have hn:σ[σ.length]?=none:=cL
 have of:cm M pos σ.length:=W.fresh (Nat.le_refl _)
 have hl:(σ++[AO.list []])[σ.length]?=some (.list (((M.ac.take 0).filter (bB g mv)).map fun t=>.ref (pos (.aR t.af)))):=gl
 wtm_at "w"
 generalize σ++[AO.list []]=ai at bA aE h3 hl ⊢
 generalize σ.length=ro at hn hl of ⊢
 have bu:=oa h2 hn
 refine e9 (fun i ae V=>Gr σ V/\ae .aF=some (.ref (pos .heap))/\ae .aW=some (.int g)/\ae .cB=some (.ref rm)/\ae .sq=some (.ref ro)/\V[ro]?=some (.list (((M.ac.take i).filter (bB g mv)).map fun t=>.ref (pos (.aR t.af)))))
  h3 ⟨bA,rfl,rfl,rfl,rfl,hl⟩ ?_ ?_
 ·(intro i t ae V K c5;refine qF ?_;intro hg e1 e2 e3 e4 e5;intro k)
  have dG:=List.mem_of_getElem? c5
  have W':=W.gr hg
  have tC:(((M.ac.take i).filter (bB g mv)).map fun t=>AV.ref (pos (.aR t.af))).length<1000000:=by
   have:=List.length_filter_le (bB g mv) (M.ac.take i)
   rw [List.length_take] at this
   refine U (List.length_map ..) ?_;lia
  have mU:(M.ac.take (i+1)).filter (bB g mv)=(M.ac.take i).filter (bB g mv)++if bB g mv t then [t] else []:=by
   refine U (take_snoc c5 ..) (U (List.filter_append ..) ?_);induction h:bB g mv t <;> simp [h]
  wtm_at "w"
  refine Jo G W' H dG (hg _ _ hm) ?_
  induction hs:(decide (g<t.gen)||(lk mv t.addr).isSome) with
  | true =>
   rw [show bB g mv t=true from hs,if_pos rfl] at mU
   wtm_at "w"
   exact k _ _ (jO bu (hg _ _ h2)) ⟨hg.set hn,e1,e2,e3,e4,by refine U (gs e5 ..) (U mU (U List.map_append ?_));rfl⟩
  | false =>
   rw [show bB g mv t=false from hs,if_neg (fun h=>nomatch h),List.append_nil] at mU
   wtm_at "w"
   exact k _ _ (hg _ _ h2) ⟨hg,e1,e2,e3,e4,by refine U mU ?_;exact e5⟩
 ·(intro ae ai;refine qF ?_;intro hg e1 e2 e3 e4 e5)
  rw [List.take_length] at e5
  have Tw:∀ t∈M.ac.filter (bB g mv),t∈M.ac:=fun t ht=>(List.mem_filter.mp ht).1
  have Tx:∀ t∈M.ac.filter (bB g mv),bB g mv t=true:=fun t ht=>(List.mem_filter.mp ht).2
  have Dl:((M.ac.filter (bB g mv)).map (·.af)).Nodup:=H.sublist (List.filter_sublist.map _)
  have Dm:(M.ac.filter (bB g mv)).length<=100000:=Nat.le_trans (List.length_filter_le ..) bC
  generalize M.ac.filter (bB g mv)=L at *
  have aE:=W.gr hg
  have o1:=jX aE
  wtm_at "s"
  obtain ⟨bc,av⟩:=aE.move (M':=M.ql (L.map (·.af))) (t:=.things) (k:=.heap) (r:=ro) (o':=.list (L.map fun t=>.ref (pos (.aR t.af)))) (ok':=.inst .dR (bp (em M pos) .fk (.ref ro))) (by decide) of e5 rfl
   (by show some (AO.list ((L.map (·.af)).map _))=_;refine U List.map_map ?_;rfl) rfl (fun t' h1 h2=>by induction t' <;> first | rfl | exact absurd rfl h1 | exact absurd rfl h2)
  replace av:=fun aX g0=>av aX (Gr.trans g0 hg) (Gr.none g0 hn)
  have o2:(ai.set (pos .heap) (.inst .dR (bp (em M pos) .fk (.ref ro))))[pos .heap]?=some (.inst .dR (em (M.ql (L.map (·.af))) (cn pos .things ro))):=jX bc
  generalize ai.set (pos .heap) (.inst .dR (bp (em M pos) .fk (.ref ro)))=aH at bc av o2 ⊢
  have Tz:=ga (o':=.an []) o2
  wtm_at "x";wtm_at "x";wtm_at "k"
  obtain ⟨bg,aV⟩:=(bc.app (.an [])).move (M':=(M.ql (L.map (·.af))).qm []) (t:=.idx) (k:=.heap) (r:=aH.length) (o':=.an []) (ok':=.inst .dR (bp (em (M.ql (L.map (·.af))) (cn pos .things ro)) .bz (.ref aH.length))) (by decide) (bc.fresh (Nat.le_refl _)) gl rfl
   rfl rfl (fun t' h1 h2=>by induction t' <;> first | rfl | exact absurd rfl h1 | exact absurd rfl h2)
  replace aV:=fun aX g0=>(av aX g0).trans (aV aH (Gr.app _ _) cL)
  have kp:∀ t,t≠.things->t≠.idx->cn (cn pos .things ro) .idx aH.length t=pos t:=fun t h h'=>by exact U (ft h' ..) (U (ft h ..) rfl)
  have kt:cn (cn pos .things ro) .idx aH.length .things=ro:=by exact U (ft (by decide) ..) (U iW rfl)
  have kh:=kp .heap (by decide) (by decide)
  have o3:=jX bg
  generalize cn (cn pos .things ro) .idx aH.length=p at bg aV kp kt kh o3 ⊢
  change Wd _ p ((aH++[AO.an []]).set (pos .heap) _) at bg
  change ∀ aX,_->aL _ _ _ _ p ((aH++[AO.an []]).set (pos .heap) _) at aV
  change ((aH++[AO.an []]).set (pos .heap) _)[_]?=_ at o3
  generalize (aH++[AO.an []]).set (pos .heap) (.inst .dR (bp (em (M.ql (L.map (·.af))) (cn pos .things ro)) .bz (.ref aH.length)))=bn at bg aV o3 ⊢
  rw [<- kh] at e1
  wtm_at "s"
  (refine ay ?_ (oe bg (top:=16) (limit:=M.limit) (fresh:=M.fresh) (young:=M.young) (moved:=M.moved) (hmade:=M.hmade) (fs:=bp (em ((M.ql (L.map (·.af))).qm []) p) .eY (.int 16)) rfl);intro bT bK)
  (refine ay ?_ (Tt bT H Tw);intro cR dk)
  generalize bn.set (p .heap) (.inst .dR (bp (em ((M.ql (L.map (·.af))).qm []) p) .eY (.int 16)))=cg at bT bK cR dk ⊢
  have JD:∀ {l idx top bX} {σ:AH},Wd (M.jr l (L.map (·.af)) idx top bX) p σ->σ[ro]?=some (.list (L.map fun t=>.ref (p (.aR t.af)))):=fun {l idx top bX σ} W=>by
   have:σ[p .things]?=some (.list ((L.map (·.af)).map fun n=>.ref (p (.aR n)))):=W.get .things _ rfl
   rw [kt,List.map_map] at this
   exact this
  have I0:JB M pos p σ g rm mv L 0 ae cg M.moved:=⟨cR,fun aX g0=>(aV aX g0).trans (bK.trans dk),e1,e2,e3⟩
  clear cR dk bT bK bg aV o3 bc av o2 Tz o1 aE
  wtm_at "w"
  refine e9 (fun i ρ'' ar=>∃ bX,JB M pos p σ g rm mv L i ρ'' ar bX) (JD I0.W) (aQ _ I0) ?_ ?_
  ·(intro i t ρ'' ar K c5;refine aM ?_;rintro bX ⟨cJ,dm,d1,d2,d3⟩;intro k)
   have dG:=List.mem_of_getElem? c5
   have nN:=dm σ (Gr.refl σ)
   have eL:=Tp (g:=g) (mv:=mv) c5
   have TA:((M.jr (fy g mv L i) (L.map (·.af)) (stI g mv L i) (i6 g mv L i) bX).ac.map (·.af)).Nodup:=by
    show ((fy g mv L i).map (·.af)).Nodup
    refine U eL (U (Dk c5 t rfl ..) ?_);exact Dl
   have TB:t∈(M.jr (fy g mv L i) (L.map (·.af)) (stI g mv L i) (i6 g mv L i) bX).ac:=by
    show t∈fy g mv L i
    refine U eL ?_;exact List.mem_append_right _ (.head _)
   have nT:g<t.gen∨(lk mv t.addr).isSome:=by
    have:=Tx t dG
    simpa [bB] using this
   wtm_at "w"
   refine FW.up (Tn G cJ TA TB (nN.keep _ _ om hm) (nN.out om hm) nT fun mV qn gK xf=>?_) (by decide)
   have eU:b0 (fy g mv L i) t.af (bE g mv)=fy g mv L (i+1):=by
    exact U eL (U (To (by rw [Dk c5 t rfl];exact Dl) ..) (U (Dj c5 ..) rfl))
   have xg:Wd (M.jr (b0 (fy g mv L i) t.af (bE g mv)) (L.map (·.af)) (stI g mv L i) (i6 g mv L i) qn) p mV:=gK
   have JE:aL (M.jr (fy g mv L i) (L.map (·.af)) (stI g mv L i) (i6 g mv L i) bX) p ar (M.jr (b0 (fy g mv L i) t.af (bE g mv)) (L.map (·.af)) (stI g mv L i) (i6 g mv L i) qn) p mV:=xf
   rw [eU] at xg JE
   clear gK xf eU
   have Dn:((M.jr (fy g mv L (i+1)) (L.map (·.af)) (stI g mv L i) (i6 g mv L i) qn).ac.map (·.af)).Nodup:=by
    show ((fy g mv L (i+1)).map (·.af)).Nodup
    refine aT (Dj c5 ..) (U (Dk c5 _ ui ..) ?_);exact Dl
   have Do:bE g mv t∈(M.jr (fy g mv L (i+1)) (L.map (·.af)) (stI g mv L i) (i6 g mv L i) qn).ac:=by
    show bE g mv t∈fy g mv L (i+1)
    refine aT (Dj c5 ..) ?_;exact List.mem_append_right _ (.head _)
   have a1:=t3 xg Dn Do (f:=.bM) rfl
   rw [ui] at a1
   have hx:mV[p .idx]?=some (.an ((stI g mv L i).map fun x=>(x.1,AV.ref (p (.aR x.2))))):=xg.get .idx _ rfl
   have hxl:((stI g mv L i).map fun x=>(x.1,AV.ref (p (.aR x.2)))).length<1000000:=by
    refine U (List.length_map ..) ?_;unfold stI qj;refine U (List.length_map ..) (U (List.length_map ..) (U List.length_take ?_));lia
   obtain ⟨fA,kU⟩:=JC xg (idx:=stI g mv L (i+1)) (o:=.an (ee ((stI g mv L i).map fun x=>(x.1,AV.ref (p (.aR x.2)))) (bE g mv t).addr (.ref (p (.aR t.af))))) (by
    refine U (xe (Tq hA c5) ..) (aT (Tr c5 ..) ?_);rfl)
   have a2:=t3 fA Dn Do (f:=.bM) rfl
   have a3:=t3 fA Dn Do (f:=.eI) rfl
   rw [ui] at a2 a3
   have o8:=jX fA
   wtm_at "k";wtm_at "s"
   generalize mV.set (p .idx) _=xh at fA kU a2 a3 o8 ⊢
   (refine ay ?_ (oe fA (top:=(bE g mv t).addr+(bE g mv t).size) (limit:=M.limit) (fresh:=M.fresh) (young:=M.young) (moved:=qn) (hmade:=M.hmade) (fs:=bp (em ((M.jr (fy g mv L (i+1)) (L.map (·.af)) (stI g mv L i) (i6 g mv L i) qn).qm (stI g mv L (i+1))) p) .eY (.int ((bE g mv t).addr+(bE g mv t).size))) rfl);intro i7 uk)
   wtm_at "w"
   have T:=JE.trans (kU.trans uk)
   generalize xh.set (p .heap) _=jY at i7 uk T ⊢
   rw [<- Ts c5] at i7 T
   exact k _ _ (JD i7) ⟨qn,i7,fun aX g0=>(dm aX g0).trans T,d1,d2,d3⟩
  ·(intro ρ'' ar;refine aM ?_;rintro bX ⟨cJ,dm,_⟩)
   have e1:fy g mv L L.length=L.map (bE g mv):=by unfold fy;exact U List.take_length (U List.drop_length (U (List.append_nil ..) rfl))
   have e2:stI g mv L L.length=qj (L.map (bE g mv)):=by unfold stI;exact U List.take_length rfl
   have e3:i6 g mv L L.length=og (L.map (bE g mv)):=by unfold i6;exact U List.take_length rfl
   rw [e1,e2,e3] at cJ dm
   wtm_at "w"
   exact q _ _ bX cJ dm kp
end
section
variable {C:Cx} {M M':Mo} {pos:Tg->Nat} {σ:AH} {Q:AV->AH->Prop} {rm dr:Nat} {mv:List (Int × Int)}
theorem TC (G:Good C) {r a b:Nat} (h:σ[r]?=some (.inst .jd [])) (q:Q .none (σ.set r (.inst .jd [(.aF,.ref a),(.cB,.ref b)]))):FW C 1 .F8 [.ref r,.ref a,.ref b] Q σ:=by
 refine bo G (b:=Bl) (ps:=Ck) rfl rfl rfl rfl ?_
 delta Ck Bl
 wtm_at "w"
 exact q
theorem JF {N:Tg->List Pv}:∀ (S:List Nat) (M:Mo),fc M (S.map Tg.bj) N=M.rS (M.ac.map fun t=>if t.af∈S then { t with slots:=N (.bj t.af) } else t)
 | [],M=>by
  have e:(M.ac.map fun t=>if t.af∈([]:List Nat) then { t with slots:=N (.bj t.af) } else t)=M.ac:=by simp
  refine U e ?_;rfl
 | s::S,M=>by
  show fc (setC M (N (.bj s)) (.bj s)) (S.map Tg.bj) N=_
  refine U (JF S ..) ?_
  have e:((b0 M.ac s fun t=>{ t with slots:=N (.bj s) }).map fun t=>if t.af∈S then { t with slots:=N (.bj t.af) } else t)=M.ac.map fun t=>if t.af∈s::S then { t with slots:=N (.bj t.af) } else t:=by
   unfold b0
   refine U List.map_map ?_
   apply List.map_congr_left
   intro t _
   by_cases h:t.af=s
   ·by_cases h2:s∈S <;> simp [h,h2]
   ·by_cases h2:t.af∈S <;> simp [h,h2]
  exact congrArg M.rS e
noncomputable def Mo.JG (M:Mo) (cells:List Pv) (ac:List Th):Mo:={ M with cells:=cells,ac:=ac }
noncomputable def rT (M:Mo) (g:Nat) (mv:List (Int × Int)):Mo :=
 M.JG (M.cells.map (cQ M.ac mv)) (M.ac.map fun t=>if bB g mv t then { t with slots:=t.slots.map (cQ M.ac mv) } else t)
theorem JH (H:(M.ac.map (·.af)).Nodup) {t:Th} (ht:t∈M.ac):dH M (.bj t.af)=t.slots:=congrArg (fun o:Option Th=>(o.map Th.slots).getD []) (fu H ht)
noncomputable def mW (M:Mo) (g:Nat) (mv:List (Int × Int)):List Tg:=.cells::.ready::((M.ac.filter (bB g mv)).map (·.af)).map Tg.bj
theorem TD (H:(M.ac.map (·.af)).Nodup) {g:Nat}:fc M (mW M g mv) (fun t=>(dH M t).map (cQ M.ac mv))=rT M g mv:=by
 show fc (setC (setC M (M.cells.map (cQ M.ac mv)) .cells) [] .ready) (((M.ac.filter (bB g mv)).map (·.af)).map Tg.bj) (fun t=>(dH M t).map (cQ M.ac mv))=_
 refine U (JF ..) ?_
 refine congrArg (M.JG (M.cells.map (cQ M.ac mv))) (List.map_congr_left fun t ht=>?_)
 have JI:t.af∈(M.ac.filter (bB g mv)).map (·.af)↔bB g mv t=true:=by
  constructor
  ·intro h
   (refine au ?_ (List.mem_map.mp h);intro u hu e)
   rw [List.mem_filter] at hu
   have e1:=fu H hu.1
   rw [e,fu H ht] at e1
   refine U (Option.some.inj e1 ..) ?_;exact hu.2
  ·intro h
   exact List.mem_map_of_mem (f:=(·.af)) (List.mem_filter.mpr ⟨ht,h⟩)
 by_cases hs:bB g mv t=true
 ·exact U (if_pos (JI.mpr hs) ..) (U (if_pos hs ..) (U (JH H ht ..) rfl))
 ·exact U (if_neg (fun h=>hs (JI.mp h)) ..) (U (if_neg hs ..) rfl)
theorem Dp {g:Nat}:∀ t∈mW M g mv,jq M t:=by
 intro t ht
 unfold mW at ht
 rcases List.mem_cons.mp ht with rfl | ht
 ·trivial
 ·rcases List.mem_cons.mp ht with rfl | ht
  ·trivial
  ·(refine au ?_ (List.mem_map.mp ht);rintro n hn rfl)
   (refine au ?_ (List.mem_map.mp hn);rintro u hu rfl)
   exact (aB u (List.mem_filter.mp hu).1 rfl)
theorem TE {g:Nat} (H:(M.ac.map (·.af)).Nodup):(mW M g mv).Nodup:=by
 have h1:(((M.ac.filter (bB g mv)).map (·.af)).map Tg.bj).Nodup :=
  List.Pairwise.map _ (fun a b zS e=>zS (by (revert e;refine ij Tg.bj.inj ?_;rintro rfl);rfl)) (H.sublist (List.filter_sublist.map _))
 unfold mW
 rw [List.nodup_cons,List.nodup_cons]
 refine ⟨?_,?_,h1⟩
 ·intro h
  rcases List.mem_cons.mp h with h | h
  ·exact (noConfusion_of_Nat Tg.ctorIdx h).elim
  ·(refine au ?_ (List.mem_map.mp h);intro n _ e);exact (noConfusion_of_Nat Tg.ctorIdx e).elim
 ·intro h
  (refine au ?_ (List.mem_map.mp h);intro n _ e);exact (noConfusion_of_Nat Tg.ctorIdx e).elim
noncomputable def xi (M:Mo) (g:Nat) (mv:List (Int × Int)) (t:Th):Th:=bE g mv { t with slots:=t.slots.map (cQ M.ac mv) }
noncomputable def jZ (M:Mo) (g:Nat) (mv:List (Int × Int)):List Th:=(M.ac.filter (bB g mv)).map (xi M g mv)
noncomputable def rU (M:Mo) (g:Nat) (mv:List (Int × Int)) (bX:Int):Mo :=
 { M with
  cells:=M.cells.map (cQ M.ac mv)
  ac:=jZ M g mv
  tl:=(M.ac.filter (bB g mv)).map (·.af)
  idx:=(jZ M g mv).map fun t=>(t.addr,t.af)
  top:=og (jZ M g mv)
  moved:=bX }
theorem JJ {g:Nat}:(rT M g mv).ac.filter (bB g mv)=(M.ac.filter (bB g mv)).map fun t=>{ t with slots:=t.slots.map (cQ M.ac mv) }:=by
 show (M.ac.map fun t=>if bB g mv t then { t with slots:=t.slots.map (cQ M.ac mv) } else t).filter (bB g mv)=_
 refine U List.filter_map ?_
 have h1:(bB g mv ∘ fun t=>if bB g mv t=true then { t with slots:=t.slots.map (cQ M.ac mv) } else t)=bB g mv:=by
  funext t
  by_cases h:bB g mv t=true
  ·simp only [Function.comp_apply,if_pos h];rfl
  ·simp only [Function.comp_apply,if_neg h]
 refine U h1 ?_
 apply List.map_congr_left
 intro t ht
 exact U (if_pos (List.mem_filter.mp ht).2 ..) rfl
theorem JK {g:Nat} {t:Th} {l:List Pv}:(bE g mv { t with slots:=l }).addr=(bE g mv t).addr:=by unfold bE;split <;> rfl
theorem xj {σ:AH} {o o':AO}:(σ++[o]).set σ.length o'=σ++[o']:=by simp
theorem ul (W:Wd M pos σ) {r:Nat} (h:σ[r]?=none):cm M pos r:=W.fresh (Nat.le_of_not_lt fun hh=>by rw [List.getElem?_eq_getElem hh] at h;exact dQ h)
theorem TF (H:bR M) {g:Nat} (fY:M.cells.length<=500000) (fD:∀ t∈M.ac,t.slots.length<=3) (um:∀ v∈M.cells,mu v<=100000) (qo:∀ t∈M.ac,∀ v∈t.slots,mu v<=100000) :
  ∀ t∈mW M g mv,(dH M t).length<=500000/\∀ v∈dH M t,mu v<=100000:=by
 intro t ht
 have:=Dp t ht
 induction t with
 | cells=>exact ⟨fY,um⟩
 | ready=>exact ⟨Nat.zero_le _,fun v hv=>nomatch hv⟩
 | bj s =>
  (revert this;refine au ?_;rintro u hu rfl)
  refine U (JH H.nd hu ..) ?_
  exact ⟨by have:=fD u hu;lia,qo u hu⟩
 | _=>exact this.elim
theorem Dq {g:Nat}:(rT M g mv).ac.map (·.af)=M.ac.map (·.af):=by
 show (M.ac.map fun t=>if bB g mv t then { t with slots:=t.slots.map (cQ M.ac mv) } else t).map (·.af)=_
 refine U List.map_map ?_
 apply List.map_congr_left
 intro t _
 simp only [Function.comp_apply]
 split <;> rfl
structure TG (M:Mo) (pos:Tg->Nat) (g rm dr re:Nat) (mv:List (Int × Int)) (ai:AH) (i:Nat) (ae:Loc) (V:AH):Prop where
 hg:Gr ai V
 d1:ae .aF=some (.ref (pos .heap))
 d2:ae .aW=some (.int g)
 d3:ae .cB=some (.ref rm)
 d4:ae .cT=some (.ref dr)
 d5:ae .km=some (.ref re)
 d6:V[re]?=some (.list ((.cells::.ready::(((M.ac.take i).filter (bB g mv)).map (·.af)).map Tg.bj:List Tg).map fun t=>.ref (pos t)))
theorem TH (G:Good C) (H:bR M) (W:Wd M pos σ) {g rl:Nat} (hl:σ[rl]?=some (.list [.ref (pos .cells)])) (hm:σ[rm]?=some (.an (et mv))) (om:cm M pos rm)
  (hA:(((M.ac.filter (bB g mv)).map (bE g mv)).map (·.addr)).Nodup) (fY:M.cells.length<=500000) (fD:∀ t∈M.ac,t.slots.length<=3) (um:∀ v∈M.cells,mu v<=100000) (qo:∀ t∈M.ac,∀ v∈t.slots,mu v<=100000)
  (q:∀ V pos' bX,Wd (rU M g mv bX) pos' V->aL M pos σ (rU M g mv bX) pos' V->(∀ t,t≠.things->t≠.idx->t≠.fZ->pos' t=pos t)->Q .none V) :
  FW C 9 .FV [.ref (pos .heap),.ref rl,.ref rm,.int g] Q σ:=by
 refine bo G (b:=A4) (ps:=B1) rfl rfl rfl rfl ?_
 delta B1 A4
 wtm_at "w"
 refine FW.up (TC G gl ⟨rfl,?_⟩) (by decide)
 refine U xj ?_
 have Dr:(σ++[kT pos rm])[σ.length]?=some (kT pos rm):=gl
 have bA:Gr σ (σ++[kT pos rm]):=Gr.app _ _
 have aE:=W.gr bA
 have h2:=n6 W H
 change jP _ _ _ _ _ _ _ _ (σ++[kT pos rm])
 generalize σ++[kT pos rm]=ai at Dr bA aE ⊢
 generalize σ.length=dr at Dr ⊢
 have hn:ai[ai.length]?=none:=cL
 have hM:∀ l,Gr ai (ai++[AO.list l]):=fun l=>Gr.app _ _
 have kS:=bA _ _ hl
 have w3:=hM ([]++[.ref (pos .cells)]) _ _ kS
 have bc:=aE.app (.list ([]++[.ref (pos .cells)]))
 have bg:=aE.app (.list ([]++[.ref (pos .cells)]++[.ref (pos .ready)]))
 have h3:=hM ([]++[.ref (pos .cells)]++[.ref (pos .ready)]) _ _ (bA _ _ h2)
 have Ds:(ai++[AO.list ([]++[.ref (pos .cells)]++[.ref (pos .ready)])])[ai.length]?=some (.list ([]++[.ref (pos .cells)]++[.ref (pos .ready)])):=gl
 wtm_at "w"
 refine p7 (ga kS) ?_
 wtm_at "w"
 refine U xj ?_
 wtm_at "w"
 refine U xj ?_
 wtm_at "w"
 have kW:=hM ([]++[.ref (pos .cells)]++[.ref (pos .ready)])
 generalize ai++[AO.list ([]++[.ref (pos .cells)]++[.ref (pos .ready)])]=aH at Ds h3 bg kW ⊢
 generalize hre:ai.length=re at hn Ds ⊢
 have TJ:σ[re]?=none:=bA.none hn
 have bu:=oa (bA _ _ h2) hn
 refine e9 (fun i ae V=>TG M pos g rm dr re mv ai i ae V) h3 ⟨kW,rfl,rfl,rfl,rfl,rfl,Ds⟩ ?_ ?_
 ·rintro i t ae V K c5 ⟨hg,d1,d2,d3,d4,d5,d6⟩ k
  have dG:=List.mem_of_getElem? c5
  have gg:=bA.trans hg
  have W':=W.gr gg
  have nd:=H.nd
  have tC:((.cells::.ready::(((M.ac.take i).filter (bB g mv)).map (·.af)).map Tg.bj:List Tg).map fun t=>AV.ref (pos t)).length<1000000:=by
   have:=List.length_filter_le (bB g mv) (M.ac.take i)
   have:=H.len
   rw [List.length_take] at *
   refine U (List.length_map ..) (U List.length_cons (U List.length_cons (U (List.length_map ..) (U (List.length_map ..) ?_))));lia
  have mU:(M.ac.take (i+1)).filter (bB g mv)=(M.ac.take i).filter (bB g mv)++if bB g mv t then [t] else []:=by
   refine U (take_snoc c5 ..) (U (List.filter_append ..) ?_);induction h:bB g mv t <;> simp [h]
  wtm_at "w"
  refine FW.up (Jo G W' nd dG (gg _ _ hm) ?_) (by decide)
  induction hs:(decide (g<t.gen)||(lk mv t.addr).isSome) with
  | true =>
   rw [show bB g mv t=true from hs,if_pos rfl] at mU
   wtm_at "w"
   exact k _ _ (jO bu (hg _ _ (bA _ _ h2))) ⟨hg.set hn,d1,d2,d3,d4,d5,by refine U (gs d6 ..) (U mU ?_);simp⟩
  | false =>
   rw [show bB g mv t=false from hs,if_neg (fun h=>nomatch h),List.append_nil] at mU
   wtm_at "w"
   exact k _ _ (hg _ _ (bA _ _ h2)) ⟨hg,d1,d2,d3,d4,d5,by refine U mU ?_;exact d6⟩
 ·rintro ae aH ⟨hg,d1,d2,d3,d4,d5,d6⟩
  rw [List.take_length] at d6
  change aH[re]?=some (.list ((mW M g mv).map fun t=>.ref (pos t))) at d6
  have gg:=bA.trans hg
  have bc:=W.gr gg
  have Dt:=TF (g:=g) (mv:=mv) H fY fD um qo
  have Dm:(mW M g mv).length<=500000:=by
   have:(M.ac.filter (bB g mv)).length<=M.ac.length:=List.length_filter_le ..
   have:=H.len
   simp [mW];lia
  wtm_at "w"
  refine SP G H bc Dp d6 Dm (fun t ht=>(Dt t ht).1) (fun t ht=>(Dt t ht).2) (gg _ _ hm) (hg _ _ Dr) fun bn rf fr Du nf gX hf Dg=>?_
  have bg:=bc.gr Du
  wtm_at "w"
  refine FW.up (Td G H.nd bg (N:=fun t=>(dH M t).map (cQ M.ac mv)) (TE H.nd) Dp (fun t Y=>List.length_map _) Dm (fun t ht=>(Dt t ht).1) (ul W TJ) (ul bc nf) gX (Du _ _ d6) hf
   (fun k t x h1 h2=>let ⟨a,b⟩:=Dg k t x h1 h2;⟨ul bc a,b⟩) fun cg bT bK=>?_) (by decide)
  rw [TD H.nd] at bT bK
  replace bK:=(aL.gr (gg.trans Du)).trans bK
  wtm_at "w"
  refine FW.up (S1 G (bT.get .fZ _ rfl) ?_) (by decide)
  have o4:(cg++[AO.list []])[pos .heap]?=some (.inst .dR (em (rT M g mv) pos)):=ga (jX bT)
  wtm_at "w"
  obtain ⟨cR,dk⟩:=(bT.app (.list [])).move (M':=rT M g mv) (t:=.fZ) (k:=.heap) (r:=cg.length) (o':=.list []) (ok':=.inst .dR (bp (em (rT M g mv) pos) .l6 (.ref cg.length))) (by decide) (bT.fresh (Nat.le_refl _)) gl rfl
   rfl rfl (fun t' h1 h2=>by induction t' <;> first | rfl | exact absurd rfl h1 | exact absurd rfl h2)
  replace dk:=bK.trans (dk cg (Gr.app _ _) cL)
  have kp:∀ t,t≠.fZ->cn pos .fZ cg.length t=pos t:=fun t h=>ft h
  generalize (cg++[AO.list []]).set (pos .heap) _=dY at cR dk ⊢
  generalize cn pos .fZ cg.length=JL at cR dk kp
  have kh:=kp .heap (by decide)
  refine aT kh ?_
  refine FW.up (Tu G cR (by refine U Dq ?_;exact H.tl) (by refine U Dq ?_;exact H.nd) (by refine aT (List.length_map (f:=(·.af)) ..) (U Dq (U (List.length_map ..) ?_));exact H.len) (dk.keep _ _ om hm) (dk.out om hm) ?_ fun cU TK bX cJ dm TL=>?_) (by decide)
  ·refine U JJ (U List.map_map ?_)
   rw [List.map_map] at hA ⊢
   have e:(((fun x:Th=>x.addr) ∘ bE g mv) ∘ fun t:Th=>{ t with slots:=t.slots.map (cQ M.ac mv) })=(fun x:Th=>x.addr) ∘ bE g mv:=by
    funext t;exact JK
   refine U e ?_;exact hA
  ·rw [JJ] at cJ dm
   have e1:((M.ac.filter (bB g mv)).map fun t:Th=>{ t with slots:=t.slots.map (cQ M.ac mv) }).map (bE g mv)=jZ M g mv:=by refine U List.map_map ?_;rfl
   have e2:((M.ac.filter (bB g mv)).map fun t:Th=>{ t with slots:=t.slots.map (cQ M.ac mv) }).map (·.af)=(M.ac.filter (bB g mv)).map (·.af):=by refine U List.map_map ?_;rfl
   rw [e1,e2] at cJ dm
   wtm_at "w"
   exact q cU TK bX cJ (dk.trans (dm dY (Gr.refl _))) fun t h1 h2 h3=>by exact U (TL t h1 h2 ..) (U (kp t h3 ..) rfl)
end
noncomputable def hZ (l:List Th) (g:Nat) (v:Pv):Bool:=(b8 v).any fun a=>match l.find? (fun t=>decide (t.addr=a)) with
 | some u=>decide (u.gen<g)
 | none=>false
noncomputable def gY (l:List Th):List (Th × Nat):=l.flatMap fun t=>if t.gen>0 then ((List.range t.slots.length).filter fun i=>match t.slots[i]? with | some v=>hZ l t.gen v | none=>false).map fun i=>(t,i) else []
noncomputable def js (l0 l:List Th):List (Th × Nat):=l.flatMap fun t=>if t.gen>0 then ((List.range t.slots.length).filter fun i=>match t.slots[i]? with | some v=>hZ l0 t.gen v | none=>false).map fun i=>(t,i) else []
noncomputable def gZ (b:Nat) (l:List (Th × Nat)) (c:List Int):List Int:=l.foldl (fun c x=>cV c (cP x.1.addr x.2 b)) c
section
variable {C:Cx} {M M':Mo} {pos:Tg->Nat} {σ:AH} {Q:AV->AH->Prop} {rm dr:Nat} {mv:List (Int × Int)}
noncomputable def Dv (l:List Th) (g:Nat) (a:Int):Bool:=match l.find? (fun t=>decide (t.addr=a)) with
 | some u=>decide (u.gen<g)
 | none=>false
theorem Yh {l:List Int} {f:Int->Bool} {i:Nat} {a:Int} (h:l[i]?=some a) (e:(l.take i).any f=false) (e':f a=false):(l.take (i+1)).any f=false:=by
 refine U List.take_add_one (U h (U List.any_append (U e ?_)));show (false||(f a||false))=false;refine U e' ?_;rfl
theorem TM (G:Good C) (H:bR M) (W:Wd M pos σ) {t:Th} (ht:t∈M.ac) {v:Pv} (hz:ch v<=100000) (q:∀ V,Gr σ V->Q (.bool (hZ M.ac t.gen v)) V) :
  FW C 2 .FG [.ref (pos .heap),.ref (pos (.aR t.af)),pv v] Q σ:=by
 refine bo G (b:=AP) (ps:=BM) rfl rfl rfl rfl ?_
 delta BM AP
 wtm_at "w"
 refine wQ G hz fun ai hG bA bD n₁=>?_
 have aE:=W.gr bA
 have nd:=H.nd
 refine e9 (fun i ae V=>V=ai/\ae .aF=some (.ref (pos .heap))/\ae .aP=some (.ref (pos (.aR t.af)))/\((b8 v).take i).any (Dv M.ac t.gen)=false) bD ⟨rfl,rfl,rfl,rfl⟩ ?_ ?_
 ·(intro i a ae V K ha;refine jw ?_;rintro rfl e1 e2 e3;intro k)
  have hx:=IW (pos:=pos) H (w:=a)
  have hs:=fun e'=>Yh ha e3 e'
  induction hf:M.ac.find? (fun t=>decide (t.addr=a)) with
  | none =>
   rw [hf] at hx
   have hx:(bL (M.idx.map fun x=>(x.1,AV.ref (pos (.aR x.2)))) a).getD .none=.none:=by refine U hx ?_;rfl
   wtm_at "w"
   exact k _ _ bD ⟨rfl,e1,e2,hs (by unfold Dv;exact U hf rfl)⟩
  | some u =>
   rw [hf] at hx
   have hx:(bL (M.idx.map fun x=>(x.1,AV.ref (pos (.aR x.2)))) a).getD .none=.ref (pos (.aR u.af)):=by refine U hx ?_;rfl
   have hu:=List.mem_of_find?_eq_some hf
   by_cases aS:(u.gen:Int)<t.gen
   ·have:hZ M.ac t.gen v=true:=List.any_eq_true.mpr (aB a (List.mem_of_getElem? ha) (by refine U hf ?_;exact decide_eq_true (by lia)))
    rw [this] at q
    wtm_at "w"
    exact q _ bA
   ·wtm_at "w"
    exact k _ _ bD ⟨rfl,e1,e2,hs (by unfold Dv;refine U hf ?_;exact decide_eq_false (by lia))⟩
 ·(intro ae V;refine jw ?_;rintro rfl e1 e2 e3)
  rw [List.take_length] at e3
  have:hZ M.ac t.gen v=false:=e3
  rw [this] at q
  wtm_at "w"
  exact q _ bA
noncomputable def kX (l0:List Th) (t:Th) (j:Nat):List (Th × Nat):=((List.range j).filter fun i=>match t.slots[i]? with | some v=>hZ l0 t.gen v | none=>false).map fun i=>(t,i)
theorem TN {l0:List Th} {t:Th} {j:Nat} {v:Pv} (h:t.slots[j]?=some v):kX l0 t (j+1)=kX l0 t j++if hZ l0 t.gen v then [(t,j)] else []:=by
 unfold kX
 refine U List.range_succ (U (List.filter_append ..) ?_)
 by_cases hh:hZ l0 t.gen v=true <;> simp [h,hh]
theorem TO {l0 l:List Th} {i:Nat} {t:Th} (h:l[i]?=some t):js l0 (l.take (i+1))=js l0 (l.take i)++if t.gen>0 then kX l0 t t.slots.length else []:=by
 refine U (take_snoc h ..) ?_;unfold js;refine U List.flatMap_append ?_;simp [kX]
theorem JM (H:bR M) (Z:∀ t∈M.ac,t.slots.length<=3) {i j:Nat} {t:Th} (hj:j<=3) {l0:List Th}:(js l0 (M.ac.take i)++kX l0 t j).length<=300003:=by
 have bC:(js l0 (M.ac.take i)).length<=3*(M.ac.take i).length:=Jc Z (fun t ht=>List.mem_of_mem_take ht) fun t ht=>by
  split
  ·refine U (List.length_map ..) ?_;exact Nat.le_trans (List.length_filter_le ..) (by simp)
  ·simp
 have Sl:(M.ac.take i).length<=100000:=by have:=H.len;simp;lia
 have:(kX l0 t j).length<=j:=by unfold kX;refine U (List.length_map ..) ?_;exact Nat.le_trans (List.length_filter_le ..) (by simp)
 refine U List.length_append ?_;lia
theorem TP (G:Good C) (H:bR M) (Z:∀ t∈M.ac,t.slots.length<=3) (Zz:mN M) (W:Wd M pos σ) (q:∀ V r,Gr σ V->σ[r]?=none->V[r]?=some (.list ((gY M.ac).map (kQ pos)))->Q (.ref r) V) :
  FW C 3 .FH [.ref (pos .heap)] Q σ:=by
 refine bo G (b:=AQ) (ps:=BN) rfl rfl rfl rfl ?_
 delta BN AQ
 have aE:=W.app (.list [])
 have hn:σ[σ.length]?=Option.none:=cL
 have hl:(σ++[AO.list []])[σ.length]?=some (.list ((js M.ac (M.ac.take 0)).map (kQ pos))):=gl
 have hg:Gr σ (σ++[.list []]):=Gr.app _ _
 have h2:=n6 W H
 have h3:=hg _ _ h2
 have nd:=H.nd
 wtm_at "w"
 generalize σ++[AO.list []]=ai at hl hg h3 aE ⊢
 generalize σ.length=ro at hl hn ⊢
 refine e9 (fun i ae V=>Gr σ V/\ae .aF=some (.ref (pos .heap))/\ae .eb=some (.ref ro)/\V[ro]?=some (.list ((js M.ac (M.ac.take i)).map (kQ pos)))) h3 ⟨hg,rfl,rfl,hl⟩ ?_ ?_
 ·(intro i t ae V K0 c5;refine jw ?_;intro hg e1 e3 e4;intro k)
  have dG:=List.mem_of_getElem? c5
  have hO:=TO (l0:=M.ac) c5
  have k:=fun ρ'' ar (a:Gr σ ar)=>k ρ'' ar (a _ _ h2)
  have W':=W.gr hg
  have hz:=Z t dG
  by_cases qe:(0:Int)<t.gen
  ·rw [if_pos (by lia)] at hO
   wtm_at "w"
   refine jQ t.slots.length (fun j ρ'' ar=>Gr σ ar/\ρ'' .aF=some (.ref (pos .heap))/\ρ'' .aP=some (.ref (pos (.aR t.af)))/\ρ'' .eb=some (.ref ro)/\ar[ro]?=some (.list ((js M.ac (M.ac.take i)++kX M.ac t j).map (kQ pos)))) rfl (by lia)
    ⟨hg,e1,rfl,e3,by refine U (show kX M.ac t 0=[] from rfl) (U (List.append_nil ..) ?_);exact e4⟩ ?_ ?_
   ·(intro j ρ'' ar K1 hj;refine nb ?_;intro g1 d1 d3 d4 d5;intro k')
    have w6:=W.gr g1
    obtain ⟨v,hv⟩:∃ v,t.slots[j]?=some v:=(aQ _ (List.getElem?_eq_getElem hj))
    have hs:=TN (l0:=M.ac) hv
    have bC:=JM H Z (i:=i) (t:=t) (j:=j) (by lia) (l0:=M.ac)
    wtm_at "w"
    refine TM G H w6 dG (Zz t dG _ (List.mem_of_getElem? hv)) fun bn hM=>?_
    have d6:=hM _ _ d5
    induction hy:hZ M.ac t.gen v with
    | true =>
     rw [hy,if_pos rfl] at hs
     rw [<- List.length_map (f:=kQ pos)] at bC
     wtm_at "w"
     exact k' _ _ ⟨(g1.trans hM).set hn,d1,d3,d4,by refine U (gs d6 ..) (U hs (aT (List.append_assoc ..) (U (List.map_append (l₂:=[(t,j)]) ..) ?_)));rfl⟩
    | false =>
     rw [hy,if_neg (fun h=>nomatch h),List.append_nil] at hs
     wtm_at "w"
     exact k' _ _ ⟨g1.trans hM,d1,d3,d4,by refine U hs ?_;exact d6⟩
   ·(intro ρ'' ar;refine nb ?_;intro g1 d1 d3 d4 d5)
    wtm_at "w"
    exact k _ _ g1 ⟨g1,d1,d4,by refine U hO ?_;exact d5⟩
  ·rw [if_neg (by lia),List.append_nil] at hO
   wtm_at "w"
   exact k _ _ hg ⟨hg,e1,e3,by refine U hO ?_;exact e4⟩
 ·(intro ae V;refine jw ?_;intro hg e1 e3 e4)
  rw [List.take_length] at e4
  wtm_at "w"
  exact q _ _ hg hn e4
theorem TQ (G:Good C) (W:Wd M pos σ) {w:Int} (hl:M.bv.length<=500000) (q:∀ V,Wd (M.hJ (cV M.bv (w / 2 ^ M.bits))) pos V->aL M pos σ (M.hJ (cV M.bv (w / 2 ^ M.bits))) pos V->Q .none V) :
  FW C 2 .FE [.ref (pos .heap),.int w] Q σ:=by
 refine bo G (b:=AN) (ps:=BL) rfl rfl rfl rfl ?_
 delta BL AN
 have h:(cx M.bv).length<1000000:=by refine U wZ ?_;lia
 (refine ay ?_ (W.I1 (cV M.bv (w / 2 ^ M.bits)));intro aE ah)
 wtm_at "w"
 refine CX G W ?_
 wtm_at "w"
 refine U rM ?_
 exact q _ aE ah
theorem JN (b:Nat):∀ (l:List (Th × Nat)) (c:List Int),(gZ b l c).length<=c.length+l.length
 | [],c=>Nat.le_refl _
 | x::l,c=>by
  have:=JN b l (cV c (cP x.1.addr x.2 b))
  have:=@CY c (cP x.1.addr x.2 b)
  show (gZ b l _).length<=_
  simp only [List.length_cons];lia
theorem TR {l0 l:List Th} {x:Th × Nat} (h:x∈js l0 l):x.1∈l/\x.2<x.1.slots.length/\0<x.1.gen/\∃ v,x.1.slots[x.2]?=some v/\hZ l0 x.1.gen v=true:=by
 unfold js at h
 (refine au ?_ (List.mem_flatMap.mp h);intro t ht h)
 split at h
 ·(refine au ?_ (List.mem_map.mp h);rintro i hi rfl)
  rw [List.mem_filter] at hi
  have aS:i<t.slots.length:=by simpa using hi.1
  refine (MF ht aS (by assumption) (t.slots[i]) (List.getElem?_eq_getElem aS) ?_)
  have:=hi.2
  rw [List.getElem?_eq_getElem aS] at this
  exact this
 ·cases h
theorem TS {b i:Nat} {l:List (Th × Nat)} {x:Th × Nat} (h:l[i]?=some x):cV (gZ b (l.take i) []) ((x.1.addr+2+x.2) / 2 ^ b)=gZ b (l.take (i+1)) []:=by
 refine U List.take_add_one (U h ?_);unfold gZ;refine U List.foldl_append ?_;rfl
theorem TU (G:Good C) (H:bR M) (Z:∀ t∈M.ac,t.slots.length<=3) (Zz:mN M) (W:Wd M pos σ)
  (q:∀ V pos',Wd (M.hJ (gZ M.bits (gY M.ac) [])) pos' V->aL M pos σ (M.hJ (gZ M.bits (gY M.ac) [])) pos' V->(∀ t,t≠.bv->pos' t=pos t)->Q .none V):FW C 4 .FI [.ref (pos .heap)] Q σ:=by
 refine bo G (b:=AR) (ps:=BO) rfl rfl rfl rfl ?_
 delta BO AR
 have o1:(σ++[AO.an []])[pos .heap]?=some (.inst .dR (em M pos)):=ga (jX W)
 wtm_at "x";wtm_at "x";wtm_at "k"
 obtain ⟨aE,ah⟩:=(W.app (.an [])).move (M':=M.hJ []) (t:=.bv) (k:=.heap) (r:=σ.length) (o':=.an []) (ok':=.inst .dR (bp (em M pos) .de (.ref σ.length))) (by decide) (W.fresh (Nat.le_refl _)) gl rfl
  rfl rfl (fun t' h1 h2=>by induction t' <;> first | rfl | exact absurd rfl h1 | exact absurd rfl h2)
 replace ah:=ah σ (Gr.app _ _) cL
 have kp:∀ t,t≠.bv->cn pos .bv σ.length t=pos t:=fun t h=>ft h
 generalize (σ++[AO.an []]).set (pos .heap) _=ai at aE ah ⊢
 generalize cn pos .bv σ.length=cp at aE ah kp
 refine aT (kp .heap (by decide) ..) ?_
 have jM:bR (M.hJ []):=⟨H.tl,H.nd,H.idx,H.ap,H.pos,H.len⟩
 wtm_at "w"
 refine TP G jM Z Zz aE fun aH ry dx ny hy=>?_
 have bc:=aE.gr dx
 have oy:cm (M.hJ []) cp ry:=ul aE ny
 change aH[ry]?=some (.list ((gY M.ac).map (kQ cp))) at hy
 replace ah:=ah.trans (aL.gr dx)
 have hyl:(gY M.ac).length<=300003:=by
  have:=JM H Z (i:=M.ac.length) (j:=0) (t:=⟨0,0,[],0,0⟩) (Nat.zero_le _) (l0:=M.ac)
  rw [List.take_length,show kX M.ac _ 0=[] from rfl,List.append_nil] at this
  exact this
 refine e9 (fun i ae V=>Wd (M.hJ (gZ M.bits ((gY M.ac).take i) [])) cp V/\aL (M.hJ []) cp aH (M.hJ (gZ M.bits ((gY M.ac).take i) [])) cp V/\ae .aF=some (.ref (cp .heap)))
  hy ⟨bc,aL.refl,rfl⟩ ?_ ?_
 ·(intro i x ae V K JO;refine bS ?_;intro bg aV e1;intro k)
  have m1:=(TR (l0:=M.ac) (l:=M.ac) (List.mem_of_getElem? JO)).1
  have nd:((M.hJ (gZ M.bits ((gY M.ac).take i) [])).ac.map (·.af)).Nodup:=H.nd
  have fY:(gZ M.bits ((gY M.ac).take i) []).length<=500000:=by
   have:=JN M.bits ((gY M.ac).take i) []
   have:((gY M.ac).take i).length<=(gY M.ac).length:=by refine U List.length_take ?_;lia
   have:([]:List Int).length=0:=rfl
   lia
  wtm_at "w"
  refine FW.up (CS G (mH bg nd m1) ?_) (by decide)
  wtm_at "w"
  refine FW.up (TQ G bg fY fun cg bT bK=>?_) (by decide)
  change Wd (M.hJ (cV (gZ M.bits ((gY M.ac).take i) []) ((x.1.addr+2+x.2) / 2 ^ M.bits))) _ _ at bT
  change aL _ _ _ (M.hJ (cV (gZ M.bits ((gY M.ac).take i) []) ((x.1.addr+2+x.2) / 2 ^ M.bits))) _ _ at bK
  rw [TS JO] at bT bK
  have SS:=aV.trans bK
  wtm_at "w"
  exact k _ _ (SS.keep _ _ oy hy) ⟨bT,SS,e1⟩
 ·(intro ae V;refine bS ?_;intro bg aV e1)
  rw [List.take_length] at bg aV
  wtm_at "w"
  exact q V cp bg (ah.trans aV) kp
end
section
variable {C:Cx} {M M':Mo} {pos:Tg->Nat} {σ:AH} {Q:AV->AH->Prop} {rm dr:Nat} {mv:List (Int × Int)}
theorem JP (G:Good C) (W:Wd M pos σ) (q:Q (.int (M.top - 16)) σ):FW C 1 .yC [.ref (pos .heap)] Q σ:=by
 refine bo G (b:=Ax) (ps:=Bw) rfl rfl rfl rfl ?_
 delta Bw Ax
 wtm_at "w"
 exact q
noncomputable def Mo.kY (M:Mo) (lim:Int):Mo:={ M with fresh:=0,limit:=lim }
theorem TV (G:Good C) (W:Wd M pos σ) {g:Nat} (q:∀ V lim,Wd (M.kY lim) pos V->aL M pos σ (M.kY lim) pos V->Q .none V):FW C 2 .Fw [.ref (pos .heap),.int g] Q σ:=by
 refine bo G (b:=Ay) (ps:=Bx) rfl rfl rfl rfl ?_
 delta Bx Ay
 have o1:=jX W
 (refine ay ?_ (oe W (top:=M.top) (limit:=M.limit) (fresh:=0) (young:=M.young) (moved:=M.moved) (hmade:=M.hmade) (fs:=bp (em M pos) .fj (.int 0)) rfl);intro aE ah)
 wtm_at "s"
 generalize σ.set (pos .heap) _=ai at aE ah ⊢
 change Wd (M.kY M.limit) pos ai at aE
 change aL M pos σ (M.kY M.limit) pos ai at ah
 have o2:=jX aE
 have stop:Q .none ai:=q ai M.limit aE ah
 by_cases hg:(2:Int)<=(g:Int)
 ·wtm_at "w"
  refine FW.up (JP G aE ?_) (by decide)
  have hb:(-(2 ^ 64)<(2:Int)/\(2:Int)<2 ^ 64)∨(-(2 ^ 64)<(M.kY M.limit).top - 16/\(M.kY M.limit).top - 16<2 ^ 64):=.inl (by decide)
  by_cases hl:(M.kY M.limit).limit<2*((M.kY M.limit).top - 16)
  ·wtm_at "w"
   refine FW.up (JP G aE ?_) (by decide)
   (refine ay ?_ (oe aE (top:=M.top) (limit:=2*((M.kY M.limit).top - 16)) (fresh:=0) (young:=M.young) (moved:=M.moved) (hmade:=M.hmade) (fs:=bp (em (M.kY M.limit) pos) .lz (.int (2*((M.kY M.limit).top - 16)))) rfl);intro bc av)
   wtm_at "w"
   exact q _ _ bc (ah.trans av)
  ·wtm_at "w"
   exact stop
 ·wtm_at "w"
  exact stop
theorem TW (G:Good C) (H:bR M) (Z:mN M) (Zs:∀ t∈M.ac,t.slots.length<=3) (Zc:∀ v∈M.cells,ch v<=100000) (W:Wd M pos σ) {g rl:Nat} (hl:σ[rl]?=some (.list [.ref (pos .cells)]))
  (q:∀ V pos' rm K,Wd M pos' V->aL M pos σ M pos' V->(∀ t,t≠.fZ->pos' t=pos t)->cm M pos' rm->V[rm]?=some (.an (cx K))->mP M g K->Q (.ref rm) V) :
  FW C 6 .FY [.ref (pos .heap),.ref rl,.none,.int g] Q σ:=by
 refine bo G (b:=A6) (ps:=B3) rfl rfl rfl rfl ?_
 delta B3 A6
 wtm_at "w"
 refine FW.up (Su G W hl ?_) (by decide)
 have bA:Gr σ (σ++[AO.list [.ref (pos .cells),.ref (pos .ready)]]):=Gr.app _ _
 wtm_at "w"
 refine Sp G H Z Zs Zc (W.gr bA) gl fun aH rm K bc dx nm om hm hK=>?_
 wtm_at "w"
 refine FW.up (Sv G bc fun bn qp un bg aV uo eg abY=>?_) (by decide)
 have uq:=aV aH (Gr.refl _)
 wtm_at "w"
 refine aT (uo .heap (by decide) ..) ?_
 refine Sw G H Z bg (uq.keep _ _ om hm) (uq.out om hm) eg fun cg kW=>?_
 wtm_at "w"
 exact q cg qp rm K (bg.gr kW) ((aL.gr (bA.trans dx)).trans (uq.trans (aL.gr kW))) uo (uq.out om hm) (kW _ _ (uq.keep _ _ om hm)) hK
noncomputable def c9 (M:Mo) (g:Nat) (K:List Int):List (Int × Int):=fK g K (f0 M.ac g 16) M.ac
noncomputable def qq (M:Mo) (g:Nat) (K:List Int) (bX lim:Int):Mo :=
 { rU M g (c9 M g K) bX with bv:=gZ M.bits (gY (jZ M g (c9 M g K))) [],fresh:=0,limit:=lim }
theorem TX (G:Good C) (H:bR M) (Z:mN M) (Zs:∀ t∈M.ac,t.slots.length<=3) (Zc:∀ v∈M.cells,ch v<=100000) (fY:M.cells.length<=500000) (um:∀ v∈M.cells,mu v<=100000) (qo:∀ t∈M.ac,∀ v∈t.slots,mu v<=100000)
  {g:Nat} (hK:∀ K,mP M g K->(((M.ac.filter (bB g (c9 M g K))).map (bE g (c9 M g K))).map (·.addr)).Nodup/\∀ bX,bR (rU M g (c9 M g K) bX)/\mN (rU M g (c9 M g K) bX)/\∀ t∈(rU M g (c9 M g K) bX).ac,t.slots.length<=3)
  (W:Wd M pos σ) {rl:Nat} (hl:σ[rl]?=some (.list [.ref (pos .cells)])) (ol:cm M pos rl)
  (q:∀ V pos' K bX lim,mP M g K->Wd (qq M g K bX lim) pos' V->aL M pos σ (qq M g K bX lim) pos' V->(∀ t,t≠.things->t≠.idx->t≠.fZ->t≠.bv->pos' t=pos t) ->
   Q (.int ((M.ac.length:Int) - (M.ac.filter (bB g (c9 M g K))).length)) V):FW C 10 .FZ [.ref (pos .heap),.ref rl,.none,.int g] Q σ:=by
 refine bo G (b:=A7) (ps:=B4) rfl rfl rfl rfl ?_
 delta B4 A7
 have h2:=n6 W H
 wtm_at "w"
 refine FW.up (TW G H Z Zs Zc W hl fun ai cp rm K aE ah ur om hm JQ=>?_) (by decide)
 (refine ay ?_ (hK K JQ);intro hA hN)
 wtm_at "w"
 refine aT (ur .heap (by decide) ..) ?_
 refine FW.up (SY G H aE hm fun aH rv dx nv hv=>?_) (by decide)
 have bc:=aE.gr dx
 have kS:=ah.keep _ _ ol hl
 have abZ:=ah.out ol hl
 have ov:cm M cp rv:=ul aE nv
 rw [<- ur .cells (by decide)] at kS
 wtm_at "w"
 refine TH G H bc (dx _ _ kS) hv ov hA fY Zs um qo fun bn qp bX bg aV uo=>?_
 (refine bS ?_ (hN bX);intro HN ZN TY)
 have zL:=uo .heap (by decide) (by decide) (by decide)
 wtm_at "w"
 refine aT (zL ..) ?_
 refine FW.up (TU G HN TY ZN bg fun cg oh bT bK JR=>?_) (by decide)
 have TZ:=JR .heap (by decide)
 wtm_at "w"
 refine aT (TZ ..) ?_
 refine FW.up (TV G bT fun dY lim cR dk=>?_) (by decide)
 have:=q dY oh K bX lim JQ cR (ah.trans ((aL.gr dx).trans (aV.trans (bK.trans dk)))) fun t a b c d=>by exact U (JR t d ..) (U (uo t a b c ..) (U (ur t c ..) rfl))
 have h4:dY[oh .things]?=some (.list (((M.ac.filter (bB g (c9 M g K))).map (·.af)).map fun n=>.ref (oh (.aR n)))):=cR.get .things _ rfl
 rw [List.map_map] at h4
 wtm_at "w"
 exact this
end
section
variable {C:Cx} {M M':Mo} {pos:Tg->Nat} {σ:AH} {Q:AV->AH->Prop}
theorem Wd.JS (W:Wd M pos σ) {t u:Tg} {o o':AO} (htu:t≠u) (he:aO M' pos t=some o) (tR:aO M' pos u=some o') (hs:∀ t',t'≠t->t'≠u->aO M' pos t'=aO M pos t') (hg:σ[pos t]?=some o) (eR:σ[pos u]?=some o')
  (hf:cm M pos (pos t)) (JT:cm M pos (pos u)) (bu:pos t≠pos u) :
  Wd M' pos σ/\∀ aX,Gr aX σ->aX[pos t]?=none->aX[pos u]?=none->aL M pos aX M' pos σ:=by
 have lv:∀ t',t'≠t->t'≠u->aO M' pos t'≠none->aO M pos t'≠none:=fun t' q q' ht=>by refine aT (hs t' q q' ..) ?_;exact ht
 refine ⟨⟨fun a b ha hb e=>?_,fun t' o' e'=>?_⟩,fun aX g h0 Dw=>⟨fun r o' Y e=>g r o' e,fun t' ht=>?_⟩⟩
 ·by_cases qa:a=t
  ·by_cases qb:b=t
   ·exact U qa (U qb rfl)
   ·by_cases oi:b=u
    ·subst qa;subst oi;exact absurd e bu
    ·subst qa;exact absurd e.symm (hf b (lv b qb oi hb))
  ·by_cases rV:a=u
   ·by_cases qb:b=t
    ·subst rV;subst qb;exact absurd e.symm bu
    ·by_cases oi:b=u
     ·exact U rV (U oi rfl)
     ·subst rV;exact absurd e.symm (JT b (lv b qb oi hb))
   ·by_cases qb:b=t
    ·subst qb;exact absurd e (hf a (lv a qa rV ha))
    ·by_cases oi:b=u
     ·subst oi;exact absurd e (JT a (lv a qa rV ha))
     ·exact W.inj a b (lv a qa rV ha) (lv b qb oi hb) e
 ·by_cases q:t'=t
  ·subst q;rw [he] at e';(revert e';refine si ?_;rintro rfl);exact hg
  ·by_cases q':t'=u
   ·subst q';rw [tR] at e';(revert e';refine si ?_;rintro rfl);exact eR
   ·exact W.get t' _ (by refine aT (hs t' q q' ..) ?_;exact e')
 ·by_cases q:t'=t
  ·subst q;exact .inr h0
  ·by_cases q':t'=u
   ·subst q';exact .inr Dw
   ·exact .inl (aB t' (lv t' q q' ht) rfl)
theorem T0 (G:Good C) {k:Nat} (q:Q (.int ((max 3 (2+k):Nat):Int)) σ):FW C 1 .Fu [.int k] Q σ:=by
 refine bo G (b:=Av) (ps:=Bu) rfl rfl rfl rfl ?_
 delta Bu Av
 by_cases h:(2:Int)+(k:Int)<3
 ·rw [show ((max 3 (2+k):Nat):Int)=3 by lia] at q
  wtm_at "w";exact q
 ·rw [show ((max 3 (2+k):Nat):Int)=2+(k:Int) by lia] at q
  wtm_at "w";exact q
theorem T1 (G:Good C) {r rs:Nat} {a k:Int} {l:List AV} (h:σ[r]?=some (.inst .gB [])) (hs:σ[rs]?=some (.list l)) (q:Q .none (σ.set r (eO a k rs 0 ((max 3 (2+l.length):Nat):Int) 0))):FW C 2 .F6 [.ref r,.int a,.int k,.ref rs] Q σ:=by
 refine bo G (b:=Bj) (ps:=Ci) rfl rfl rfl rfl ?_
 delta Ci Bj
 have bu:r≠rs:=Co h hs (by intro h;exact (noConfusion_of_Nat AO.ctorIdx h).elim)
 wtm_at "w"
 refine T0 G ?_
 wtm_at "w"
 exact q
noncomputable def eE (M:Mo) (ps:List Pv):Th:={ af:=M.hmade+1,addr:=M.top,slots:=ps,gen:=0,size:=max 3 (2+ps.length) }
noncomputable def Mo.j0 (M:Mo) (ac:List Th) (tl:List Nat) (idx:List (Int × Nat)) (top fresh:Int) (hmade:Nat):Mo:={ M with ac:=ac,tl:=tl,idx:=idx,top:=top,fresh:=fresh,hmade:=hmade }
noncomputable def fe (ps:List Pv):Int:=((max 3 (2+ps.length):Nat):Int)
noncomputable def mX (M:Mo) (ps:List Pv):Mo:=M.j0 (M.ac++[eE M ps]) (M.tl++[M.hmade+1]) (M.idx++[(M.top,M.hmade+1)]) (M.top+fe ps) (M.fresh+fe ps) (M.hmade+1)
noncomputable def j4 (pos:Tg->Nat) (s r rs:Nat):Tg->Nat:=cn (cn pos (.aR s) r) (.bj s) rs
theorem us {s r rs:Nat} {t:Tg} (h1:t≠.aR s) (h2:t≠.bj s):j4 pos s r rs t=pos t:=by unfold j4;exact U (ft h2 ..) (U (ft h1 ..) rfl)
theorem T2 {s r rs:Nat}:j4 pos s r rs (.aR s)=r:=by unfold j4;exact U (ft (by simp) ..) (U iW rfl)
theorem T3 {s r rs:Nat}:j4 pos s r rs (.bj s)=rs:=by unfold j4;exact U iW rfl
theorem Dx {s r rs:Nat} (h1:∀ n∈M.tl,n≠s) (h2:∀ x∈M.idx,x.2≠s) (h3:∀ t∈M.ac,t.af≠s):∀ t,aO M (j4 pos s r rs) t=aO M pos t:=by
 intro t
 induction t with
 | things =>
  (delta aO;dsimp only)
  congr 2
  exact List.map_congr_left fun n hn=>by exact U (us (by intro e;(revert e;refine ij Tg.aR.inj ?_;rintro rfl);exact h1 _ hn rfl) (by simp) ..) rfl
 | idx =>
  (delta aO;dsimp only)
  congr 2
  exact List.map_congr_left fun x hx=>by exact U (us (fun e=>h2 x hx (Tg.aR.inj e)) (by simp) ..) rfl
 | aR n =>
  (delta aO;dsimp only)
  induction e:M.ac.find? (fun t=>decide (t.af=n)) with
  | none=>rfl
  | some u =>
   have hu:u.af=n:=by simpa using List.find?_some e
   have:=h3 u (List.mem_of_find?_eq_some e)
   simp only [Option.map_some]
   exact U (us (t:=.bj n) (by simp) (fun e=>this (hu.trans (Tg.bj.inj e))) ..) rfl
 | _=>rfl
theorem xk {ps:List Pv} {n:Nat} (hn:n≠M.hmade+1):(M.ac++[eE M ps]).find? (fun t=>decide (t.af=n))=M.ac.find? (fun t=>decide (t.af=n)):=by
 refine U List.find?_append ?_
 have:[eE M ps].find? (fun t=>decide (t.af=n))=none:=by
  simp [eE];lia
 exact U this (U Option.or_none rfl)
theorem xl {ps:List Pv} (h3:∀ t∈M.ac,t.af≠M.hmade+1):(M.ac++[eE M ps]).find? (fun t=>decide (t.af=M.hmade+1))=some (eE M ps):=by
 refine U List.find?_append (U (List.find?_eq_none.mpr (fun t ht=>by simpa using h3 t ht) ..) ?_);simp [eE]
theorem xm {σ V:AH} {P:Nat->Prop} {r:Nat} (h:∀ x o,P x->σ[x]?=some o->V[x]?=some o) (hr:∀ x,P x->r≠x) (o':AO):∀ x o,P x->σ[x]?=some o->(V.set r o')[x]?=some o :=
 fun x o hx e=>by refine U (gn (hr x hx) ..) ?_;exact h x o hx e
theorem Dy {ps:List Pv} (h3:∀ t∈M.ac,t.af≠M.hmade+1) {p:Tg->Nat} {tl idx top fresh} (W:Wd (M.j0 (M.ac++[eE M ps]) tl idx top fresh (M.hmade+1)) p σ) {r:Nat} (kt:p (.aR (M.hmade+1))=r):σ[r]?=some (.inst .gB (lN p (eE M ps))):=by
 refine aT kt ?_
 exact W.get (.aR (M.hmade+1)) _ (congrArg (Option.map fun u:Th=>eO u.addr 12 (p (.bj (M.hmade+1))) u.gen u.size u.af) (xl h3))
theorem ut {s:Nat} (h3:∀ t∈M.ac,t.af≠s) {t:Tg} (ht:aO M pos t≠none):t≠.aR s/\t≠.bj s:=by
 have nO:M.ac.find? (fun t=>decide (t.af=s))=none:=List.find?_eq_none.mpr (fun t ht=>by simpa using h3 t ht)
 exact ⟨fun e=>by rw [e] at ht;exact ht (congrArg (Option.map _) nO),fun e=>by rw [e] at ht;exact ht (congrArg (Option.map _) nO)⟩
theorem T4 {ps:List Pv} {r rs:Nat} {t:Tg} (a:t≠.aR (M.hmade+1)) (b:t≠.bj (M.hmade+1)) (ht:aO (mX M ps) pos t≠none):aO M pos t≠none:=fun hn=>by
 refine ht ?_
 induction t with
 | aR n=>exact (congrArg (Option.map fun u:Th=>eO u.addr 12 (pos (.bj n)) u.gen u.size u.af) (xk fun e=>a (by exact U e rfl))).trans (by
   induction e:M.ac.find? (fun t=>decide (t.af=n)) with
   | none=>rfl
   | some u=>have hn:(M.ac.find? (fun t=>decide (t.af=n))).map (fun u:Th=>eO u.addr 12 (pos (.bj n)) u.gen u.size u.af)=none:=hn;rw [e] at hn;exact dQ hn)
 | bj n=>exact (congrArg (Option.map fun u:Th=>AO.list (u.slots.map pv)) (xk fun e=>b (by exact U e rfl))).trans (by
   induction e:M.ac.find? (fun t=>decide (t.af=n)) with
   | none=>rfl
   | some u=>have hn:(M.ac.find? (fun t=>decide (t.af=n))).map (fun u:Th=>AO.list (u.slots.map pv))=none:=hn;rw [e] at hn;exact dQ hn)
 | asked=>exact hn
 | addrs=>exact hn
 | words=>exact hn
 | row n=>exact hn
 | cb n=>exact hn
 | _=>exact absurd hn (fun h=>nomatch h)
theorem T5 (G:Good C) (W:Wd M pos σ) {rs:Nat} {ps:List Pv} (h1:∀ n∈M.tl,n≠M.hmade+1) (h2:∀ x∈M.idx,x.2≠M.hmade+1/\x.1≠M.top) (h3:∀ t∈M.ac,t.af≠M.hmade+1) (bC:M.tl.length<=100000) (JU:M.idx.length<=100000)
  (hs:σ[rs]?=some (.list (ps.map pv))) (os:cm M pos rs)
  (q:∀ V pos',Wd (mX M ps) pos' V->(∀ aX,Gr aX σ->aX[rs]?=none->aL M pos aX (mX M ps) pos' V)->(∀ r o,cm M pos r->σ[r]?=some o->V[r]?=some o)->(∀ t,t≠.aR (M.hmade+1)->t≠.bj (M.hmade+1)->pos' t=pos t)->pos' (.aR (M.hmade+1))=σ.length->pos' (.bj (M.hmade+1))=rs->Q (.ref (pos' (.aR (M.hmade+1)))) V) :
  FW C 3 .Fv [.ref (pos .heap),.int 12,.ref rs] Q σ:=by
 refine bo G (b:=Aw) (ps:=Bv) rfl rfl rfl rfl ?_
 delta Bv Aw
 wtm_at "w"
 refine T1 G gl (ga hs) ⟨rfl,?_⟩
 refine U xj (U (List.length_map ..) ?_)
 change jP _ _ _ _ _ _ _ _ (σ++[eO M.top 12 rs 0 (fe ps) 0])
 have aE:=W.app (eO M.top 12 rs 0 (fe ps) 0)
 have Dz:(σ++[eO M.top 12 rs 0 (fe ps) 0])[σ.length]?=some (eO M.top 12 rs 0 (fe ps) 0):=gl
 have bA:Gr σ (σ++[eO M.top 12 rs 0 (fe ps) 0]):=Gr.app _ _
 have JV:cm M pos σ.length:=W.fresh (Nat.le_refl _)
 have fD:=jN hs
 have hn:σ[σ.length]?=none:=cL
 generalize σ++[eO M.top 12 rs 0 (fe ps) 0]=ai at aE Dz bA ⊢
 generalize σ.length=r at *
 have lH:=bA _ _ hs
 (refine ay ?_ (oe aE (top:=M.top) (limit:=M.limit) (fresh:=M.fresh) (young:=M.young) (moved:=M.moved) (hmade:=M.hmade+1) (fs:=bp (em M pos) .dg (.int ((M.hmade:Int)+1))) rfl);intro bc av)
 have o1:=jX aE
 wtm_at "k";wtm_at "s"
 generalize ai.set (pos .heap) _=aH at bc av ⊢
 have JW:=av.keep _ _ JV Dz
 have qd:=av.keep _ _ os lH
 have JX:=av.out JV Dz
 have T6:=av.out os lH
 have T7:=fun x o (hx:cm M pos x) (e:σ[x]?=some o)=>av.keep x o hx (bA _ _ e)
 have lU:r≠rs:=Co JW qd (by intro h;exact (noConfusion_of_Nat AO.ctorIdx h).elim)
 wtm_at "s"
 generalize hO:AO.inst .gB (bp [(Nm.bM,AV.int M.top),(.ly,.int 12),(.di,.ref rs),(.aW,.int 0),(.eI,.int (fe ps)),(.jz,.int 0)] .jz (.int ((M.lT M.top M.limit M.fresh M.young M.moved (M.hmade+1)).hmade:Int)))=O3
 replace hO:O3=AO.inst .gB [(Nm.bM,AV.int M.top),(.ly,.int 12),(.di,.ref rs),(.aW,.int 0),(.eI,.int (fe ps)),(.jz,.int ((M.hmade+1:Nat):Int))]:=hO.symm
 have bg:=bc.other (o:=O3) JX
 have DA:=gs (o':=O3) JW
 have nS:=jO (o':=O3) lU qd
 have JY:=fun x o hx e=>jO (o':=O3) (oa e hn).symm.symm (T7 x o hx e)
 generalize aH.set r O3=bn at bg DA nS JY ⊢
 have bT:=bg.CQ (pos':=j4 pos (M.hmade+1) r rs) (Dx h1 (fun x hx=>(h2 x hx).1) h3) (fun t ht=>us (ut (M:=M.lT M.top M.limit M.fresh M.young M.moved (M.hmade+1)) h3 ht).1 (ut (M:=M.lT M.top M.limit M.fresh M.young M.moved (M.hmade+1)) h3 ht).2)
 have kp:∀ t,t≠.aR (M.hmade+1)->t≠.bj (M.hmade+1)->j4 pos (M.hmade+1) r rs t=pos t:=fun t a b=>us a b
 have kt:j4 pos (M.hmade+1) r rs (.aR (M.hmade+1))=r:=T2
 have ks:j4 pos (M.hmade+1) r rs (.bj (M.hmade+1))=rs:=T3
 have ko:=Dx (M:=M.lT M.top M.limit M.fresh M.young M.moved (M.hmade+1)) (pos:=pos) (s:=M.hmade+1) (r:=r) (rs:=rs) h1 (fun x hx=>(h2 x hx).1) h3
 have JZ:=Dx (M:=M) (pos:=pos) (s:=M.hmade+1) (r:=r) (rs:=rs) h1 (fun x hx=>(h2 x hx).1) h3
 generalize j4 pos (M.hmade+1) r rs=p at bT kp kt ks ko JZ
 have live:∀ t,aO (M.lT M.top M.limit M.fresh M.young M.moved (M.hmade+1)) p t≠none->p t=pos t/\aO (M.lT M.top M.limit M.fresh M.young M.moved (M.hmade+1)) pos t≠none:=fun t ht=>by
  (refine ay ?_ (ut (M:=M.lT M.top M.limit M.fresh M.young M.moved (M.hmade+1)) h3 ht);intro a b)
  rw [ko t] at ht
  exact ⟨kp t a b,ht⟩
 obtain ⟨cR,dk⟩:=bT.JS (M':=M.j0 (M.ac++[eE M ps]) M.tl M.idx M.top M.fresh (M.hmade+1)) (t:=.aR (M.hmade+1)) (u:=.bj (M.hmade+1)) (fun h=>nomatch h)
  (o:=.inst .gB (lN p (eE M ps))) (o':=.list (ps.map pv))
  (congrArg (Option.map fun u:Th=>eO u.addr 12 (p (.bj (M.hmade+1))) u.gen u.size u.af) (xl h3)) (congrArg (Option.map fun u:Th=>AO.list (u.slots.map pv)) (xl h3))
  (fun t' ha hb=>by
   induction t' with
   | aR n=>exact congrArg (Option.map fun u:Th=>eO u.addr 12 (p (.bj n)) u.gen u.size u.af) (xk fun e=>ha (by exact U e rfl))
   | bj n=>exact congrArg (Option.map fun u:Th=>AO.list (u.slots.map pv)) (xk fun e=>hb (by exact U e rfl))
   | _=>rfl)
  (by refine U kt (U DA (U hO (aT ks ?_)));rfl) (by refine U ks ?_;exact nS)
  (fun t ht e=>by (refine ay ?_ (live t ht);intro a b);rw [a,kt] at e;exact JX t b e) (fun t ht e=>by (refine ay ?_ (live t ht);intro a b);rw [a,ks] at e;exact T6 t b e) (by refine U kt (U ks ?_);exact lU)
 clear bT dk live ko DA nS bg hO
 have ph:=kp .heap (fun h=>nomatch h) (fun h=>nomatch h)
 have pt:=kp .things (fun h=>nomatch h) (fun h=>nomatch h)
 have px:=kp .idx (fun h=>nomatch h) (fun h=>nomatch h)
 refine aT ph ?_
 have hT:bn[p .things]?=some (.list (M.tl.map fun n=>.ref (p (.aR n)))):=cR.get .things _ rfl
 have T8:(M.tl.map fun n=>AV.ref (p (.aR n))).length<1000000:=by refine U (List.length_map ..) ?_;lia
 wtm_at "x";wtm_at "x";wtm_at "k"
 have cJ:Wd (M.j0 (M.ac++[eE M ps]) (M.tl++[M.hmade+1]) M.idx M.top M.fresh (M.hmade+1)) p (bn.set (p .things) (.list (M.tl.map (fun n=>.ref (p (.aR n)))++[.ref r]))) :=
  (cR.upd (t:=.things) rfl (by show some (AO.list ((M.tl++[M.hmade+1]).map fun n=>.ref (p (.aR n))))=_;exact U List.map_append (U List.map_singleton (U kt rfl))) (fun t' ht=>by induction t' <;> first | rfl | exact absurd rfl ht)).1
 have J0:=xm JY (r:=p .things) (fun x hx=>by refine U pt ?_;exact hx .things (fun h=>nomatch h)) (.list (M.tl.map (fun n=>AV.ref (p (.aR n)))++[.ref r]))
 generalize bn.set (p .things) _=cg at cJ J0 ⊢
 have hI:cg[p .idx]?=some (.an (M.idx.map fun x=>(x.1,.ref (p (.aR x.2))))):=cJ.get .idx _ rfl
 have hIl:(M.idx.map fun x=>(x.1,AV.ref (p (.aR x.2)))).length<1000000:=by refine U (List.length_map ..) ?_;lia
 have ab0:gD cg (.ref r) .bM=some (.int M.top):=lK (Dy h3 cJ kt) rfl
 wtm_at "s"
 have gK:Wd (M.j0 (M.ac++[eE M ps]) (M.tl++[M.hmade+1]) (M.idx++[(M.top,M.hmade+1)]) M.top M.fresh (M.hmade+1)) p (cg.set (p .idx) (.an (ee (M.idx.map fun x=>(x.1,AV.ref (p (.aR x.2)))) M.top (.ref r)))) :=
  (JC cJ (idx:=M.idx++[(M.top,M.hmade+1)]) (by
   refine U (xe fun hh=>by rw [List.map_map] at hh;(refine au ?_ (List.mem_map.mp hh);intro x hx e);exact (h2 x hx).2 e ..) ?_
   show some (AO.an ((M.idx++[(M.top,M.hmade+1)]).map fun x=>(x.1,AV.ref (p (.aR x.2)))))=_
   exact U List.map_append (U List.map_singleton (U kt rfl)))).1
 have J1:=xm J0 (r:=p .idx) (fun x hx=>by refine U px ?_;exact hx .idx (fun h=>nomatch h)) (.an (ee (M.idx.map fun x=>(x.1,AV.ref (p (.aR x.2)))) M.top (.ref r)))
 generalize cg.set (p .idx) _=dY at gK J1 ⊢
 have ab1:gD dY (.ref r) .eI=some (.int (fe ps)):=lK (Dy h3 gK kt) rfl
 have ab2:=jX gK
 (refine ay ?_ (oe gK (top:=M.top+fe ps) (limit:=M.limit) (fresh:=M.fresh) (young:=M.young) (moved:=M.moved) (hmade:=M.hmade+1) (fs:=bp (em (M.j0 (M.ac++[eE M ps]) (M.tl++[M.hmade+1]) (M.idx++[(M.top,M.hmade+1)]) M.top M.fresh (M.hmade+1)) p) .eY (.int (M.top+fe ps))) rfl);intro fA _)
 wtm_at "s"
 have J2:=xm J1 (r:=p .heap) (fun x hx=>by refine U ph ?_;exact hx .heap (fun h=>nomatch h)) (.inst .dR (bp (em (M.j0 (M.ac++[eE M ps]) (M.tl++[M.hmade+1]) (M.idx++[(M.top,M.hmade+1)]) M.top M.fresh (M.hmade+1)) p) .eY (.int (M.top+fe ps))))
 change ax C 2 _ _ _ _ (dY.set (p .heap) (.inst .dR (bp (em (M.j0 (M.ac++[eE M ps]) (M.tl++[M.hmade+1]) (M.idx++[(M.top,M.hmade+1)]) M.top M.fresh (M.hmade+1)) p) .eY (.int (M.top+fe ps)))))
 generalize dY.set (p .heap) _=cU at fA J2 ⊢
 change Wd (M.j0 (M.ac++[eE M ps]) (M.tl++[M.hmade+1]) (M.idx++[(M.top,M.hmade+1)]) (M.top+fe ps) M.fresh (M.hmade+1)) p cU at fA
 have ab3:gD cU (.ref r) .eI=some (.int (fe ps)):=lK (Dy h3 fA kt) rfl
 have ab4:=jX fA
 (refine ay ?_ (oe fA (top:=M.top+fe ps) (limit:=M.limit) (fresh:=M.fresh+fe ps) (young:=M.young) (moved:=M.moved) (hmade:=M.hmade+1) (fs:=bp (em (M.j0 (M.ac++[eE M ps]) (M.tl++[M.hmade+1]) (M.idx++[(M.top,M.hmade+1)]) (M.top+fe ps) M.fresh (M.hmade+1)) p) .fj (.int (M.fresh+fe ps))) rfl);intro i7 _)
 have J3:=xm J2 (r:=p .heap) (fun x hx=>by refine U ph ?_;exact hx .heap (fun h=>nomatch h)) (.inst .dR (bp (em (M.j0 (M.ac++[eE M ps]) (M.tl++[M.hmade+1]) (M.idx++[(M.top,M.hmade+1)]) (M.top+fe ps) M.fresh (M.hmade+1)) p) .fj (.int (M.fresh+fe ps))))
 change Wd (mX M ps) p _ at i7
 wtm_at "w"
 have fin:=q _ p i7 (fun aX g0 h0=>⟨fun x o hx e=>J3 x o hx (g0 x o e),fun t ht=>?_⟩) J3 kp kt ks
 ·rw [kt] at fin;exact fin
 ·by_cases a:t=.aR (M.hmade+1)
  ·right;refine U a (U kt ?_);exact g0.none hn
  ·by_cases b:t=.bj (M.hmade+1)
   ·right;refine U b (U ks ?_);exact h0
   ·refine .inl (aB t (fun hn=>?_) (kp t a b).symm)
    exact T4 (r:=r) (rs:=rs) a b ht ((JZ t).trans hn)
end
structure iG (M:Mo):Prop where
 ne:0<M.ns.length
 len:M.ns.length<=100000
 d:M.d<=100000
section
variable {C:Cx} {M M':Mo} {pos:Tg->Nat} {σ:AH} {Q:AV->AH->Prop}
noncomputable def Mo.sD (M:Mo) (k:Nat):Mo:={ M with d:=k }
noncomputable def Mo.dc (M:Mo) (k:Nat) (c:Int):Mo:={ M with d:=k,count:=c }
noncomputable def Mo.oj (M:Mo) (k:Nat):Mo:={ M with made:=k }
theorem iG.sD (N:iG M) {k:Nat} (h:k<=100000):iG (M.sD k):=⟨N.ne,N.len,h⟩
theorem iG.dc (N:iG M) {k:Nat} {c:Int} (h:k<=100000):iG (M.dc k c):=⟨N.ne,N.len,h⟩
theorem T9 (W:Wd M pos σ) {k:Nat} {o:AO} (e:o=.list [.int k]):Wd (M.sD k) pos (σ.set (pos .d) o)/\aL M pos σ (M.sD k) pos (σ.set (pos .d) o):=by
 subst e
 exact W.upd (t:=.d) rfl rfl fun t' ht=>by induction t' <;> first | rfl | exact absurd rfl ht
theorem ia (G:Good C) (W:Wd M pos σ) (N:iG M) {n:Nat} (hn:0<n) (q:∀ V (v:Nat),Wd (M.sD (M.d+1)) pos V->aL M pos σ (M.sD (M.d+1)) pos V->v<n->Q (.int v) V) :
  FW C 1 .eB [.ref (pos .nums),.ref (pos .d),.int n] Q σ:=by
 refine bo G (b:=tG) (ps:=tM) rfl rfl rfl rfl ?_
 delta tM tG
 have h1:σ[pos .nums]?=some (.list (M.ns.map AV.int)):=W.get .nums _ rfl
 have h2:σ[pos .d]?=some (.list [.int M.d]):=W.get .d _ rfl
 (refine ay ?_ (T9 W (k:=M.d+1) (o:=.list ([AV.int (M.d:Int)].set (0:Int).toNat (.int ((M.d:Int)+1)))) rfl);intro aE ah)
 have h3:(σ.set (pos .d) (.list ([AV.int (M.d:Int)].set (0:Int).toNat (.int ((M.d:Int)+1)))))[pos .nums]?=some (.list (M.ns.map AV.int)):=aE.get .nums _ rfl
 have hk:(0:Int)<(M.ns.length:Int):=by have:=N.ne;lia
 have fO:=N.d
 have sS:=N.len
 have gc:(M.ns.length:Int)<2 ^ 64:=by lia
 have hm:(0:Int)<=(M.d:Int) % (M.ns.length:Int):=Int.emod_nonneg _ (by lia)
 have aS:((M.d:Int) % (M.ns.length:Int)).toNat<M.ns.length:=by have:=Int.emod_lt_of_pos (M.d:Int) hk;lia
 obtain ⟨x,hx⟩:∃ x,M.ns[((M.d:Int) % (M.ns.length:Int)).toNat]?=some x:=(aQ _ (List.getElem?_eq_getElem aS))
 obtain ⟨y,hy⟩:∃ y,M.ns[(0:Int).toNat]?=some y:=(aQ _ (List.getElem?_eq_getElem N.ne))
 have uu:(-(2 ^ 64)<(3:Int)/\(3:Int)<2 ^ 64)∨(-(2 ^ 64)<(M.d:Int)/\(M.d:Int)<2 ^ 64):=.inl (by decide)
 have hq:(M.d:Int) / (M.ns.length:Int)=((M.d / M.ns.length:Nat):Int):=rfl
 have hq2:M.d / M.ns.length<=M.d:=Nat.div_le_self ..
 have xn:(-(2 ^ 64)<(M.d:Int) / (M.ns.length:Int)/\(M.d:Int) / (M.ns.length:Int)<2 ^ 64)∨(-(2 ^ 64)<y % 7+3*(M.d:Int)/\y % 7+3*(M.d:Int)<2 ^ 64):=.inl (by refine U hq ?_;lia)
 have jm:(0:Int)<(n:Int):=by lia
 wtm_at "w"
 generalize σ.set (pos .d) _=ai at aE ah h3 ⊢
 (refine aM ?_ (Int.eq_ofNat_of_zero_le (Int.emod_nonneg (x+(M.d:Int) / (M.ns.length:Int)*(y % 7+3*(M.d:Int))) (b:=(n:Int)) (by lia)));intro v hv)
 have rL:=Int.emod_lt_of_pos (x+(M.d:Int) / (M.ns.length:Int)*(y % 7+3*(M.d:Int))) jm
 rw [hv] at rL ⊢
 exact q ai v aE ah (by lia)
noncomputable def xo:List (List Int):=[[],[],[0],[1],[],[0],[2],[1,0],[-1]]
theorem J4 (G:Good C) (W:Wd M pos σ) (N:iG M) (q:∀ V p,Wd (M.sD (M.d+1)) pos V->aL M pos σ (M.sD (M.d+1)) pos V->p∈xo->Q (ej p) V) :
  FW C 2 .vB [.ref (pos .nums),.ref (pos .d)] Q σ:=by
 refine bo G (b:=Bd) (ps:=Ca) rfl rfl rfl rfl ?_
 delta Ca Bd
 wtm_at "w"
 refine ia (n:=9) G W N (by decide) fun ai v aE ah hv=>?_
 have hp:∃ p,xo[(v:Int).toNat]?=some p:=by refine U (Int.toNat_natCast ..) ?_;exact (aQ _ (List.getElem?_eq_getElem hv))
 (revert hp;refine aM ?_;intro p hp)
 have h0:(0:Int)<=v:=Int.natCast_nonneg v
 exact IH (Q8 (as:=xo) (g:=ej) h0 hp rfl) (q ai p aE ah (List.mem_of_getElem? hp))
noncomputable def kZ:Vl->Prop
 | .dat _=>True
 | .ref _=>True
 | .str a b=>kZ a/\kZ b
 | .bQ _ _ _=>False
structure dy (M:Mo) (k:Nat) (v:Vl):Prop where
 nums:∀ n∈bU v,n=0∨∃ r∈M.rows,r.num=n
 np:kZ v
 dp:ci v<=k
structure gL (M:Mo):Prop where
 rl:M.rl=M.rows.map (·.num)
 nd:(M.rows.map (·.num)).Nodup
 pos:∀ r∈M.rows,0<r.num
 len:M.rows.length<=100000
 sl:∀ r∈M.rows,r.slots.length<=3
theorem Wd.rw (W:Wd M pos σ) (H:(M.rows.map (·.num)).Nodup) {r:aq} (hr:r∈M.rows):σ[pos (.row r.num)]?=some (.list [.int r.num,.ref (pos (.cb r.num)),.int r.gen])/\σ[pos (.cb r.num)]?=some (.list (r.slots.map lv)) :=
 ⟨W.get (.row r.num) _ (by (delta aO;simp [n5 H hr])),W.get (.cb r.num) _ (by (delta aO;simp [n5 H hr]))⟩
noncomputable def j5 (pos:Tg->Nat):Option (List (Nat × Int) × List (Nat × Nat))->List (Nm × AV)
 | some _=>[(.eH,.ref (pos .addrs)),(.cT,.ref (pos .words))]
 | none=>[]
noncomputable def wF (M:Mo) (pos:Tg->Nat):List (Nm × AV):=[(.fg,.int M.bits),(.dh,.ref (pos .rows)),(.eX,.ref (pos .roots)),(.fh,.ref (pos .cells)),(.de,.ref (pos .cards)),(.dJ,.int M.count),(.dg,.int M.made),(.aF,.ref (pos .heap)),(.g7,.ref (pos .ph))]++j5 pos M.lay
theorem J5:(wF M pos).length<=11:=by unfold wF;cases M.lay <;> simp [j5]
theorem w_lt:(wF M pos).length<1000000:=Nat.lt_of_le_of_lt J5 (by decide)
theorem mY (M:Mo) (pos:Tg->Nat):aO M pos .w=some (.bl (wF M pos)):=by unfold aO wF;cases M.lay <;> rfl
theorem oq (W:Wd M pos σ):σ[pos .w]?=some (.bl (wF M pos)):=W.get .w _ (mY M pos)
theorem oz (W:Wd M pos σ) {f:Nm} {v:AV} (h:fT (wF M pos) f=some v):gR σ (.ref (pos .w)) f=some v:=Ip (oq W) h
theorem Ua (W:Wd M pos σ) {x} (hl:M.lay=some x):gR σ (.ref (pos .w)) .eH=some (.ref (pos .addrs)):=oz W (by unfold wF;refine U hl ?_;rfl)
theorem ab5 (W:Wd M pos σ) {x} (hl:M.lay=some x):gR σ (.ref (pos .w)) .cT=some (.ref (pos .words)):=oz W (by unfold wF;refine U hl ?_;rfl)
theorem J6 (W:Wd M pos σ) {d:Nat} {c:Int} {m:Nat} {fs:List (Nm × AV)} (e:fs=wF ((M.dc d c).oj m) pos) (hd:d=M.d):Wd ((M.dc d c).oj m) pos (σ.set (pos .w) (.bl fs))/\aL M pos σ ((M.dc d c).oj m) pos (σ.set (pos .w) (.bl fs)):=by
 subst e;subst hd
 exact W.upd (t:=.w) (mY M pos) (mY _ pos) fun t' ht=>by induction t' <;> first | rfl | exact absurd rfl ht
theorem w_count (W:Wd M pos σ) {c:Int}:Wd (M.dc M.d c) pos (σ.set (pos .w) (.bl (bp (wF M pos) .dJ (.int c))))/\aL M pos σ (M.dc M.d c) pos (σ.set (pos .w) (.bl (bp (wF M pos) .dJ (.int c)))) :=
 J6 (c:=c) (m:=M.made) (fs:=bp (wF M pos) .dJ (.int c)) W (by unfold wF;show bp (_++j5 pos M.lay) _ _=_++j5 pos M.lay;cases M.lay <;> rfl) rfl
theorem Ub (W:Wd M pos σ) {c:Nat}:Wd (M.oj c) pos (σ.set (pos .w) (.bl (bp (wF M pos) .dg (.int c))))/\aL M pos σ (M.oj c) pos (σ.set (pos .w) (.bl (bp (wF M pos) .dg (.int c)))) :=
 J6 (c:=M.count) (m:=c) (fs:=bp (wF M pos) .dg (.int c)) W (by unfold wF;show bp (_++j5 pos M.lay) _ _=_++j5 pos M.lay;cases M.lay <;> rfl) rfl
theorem gL.sD (R:gL M) {k:Nat}:gL (M.sD k):=⟨R.rl,R.nd,R.pos,R.len,R.sl⟩
theorem gL.dc (R:gL M) {k:Nat} {c:Int}:gL (M.dc k c):=⟨R.rl,R.nd,R.pos,R.len,R.sl⟩
theorem oA (W:Wd M pos σ) (R:gL M):σ[pos .rows]?=some (.list (M.rows.map fun r=>AV.ref (pos (.row r.num)))):=by
 have:σ[pos .rows]?=some (.list (M.rl.map fun n=>AV.ref (pos (.row n)))):=W.get .rows _ rfl
 rw [R.rl,List.map_map] at this
 exact this
theorem Uc {k:Nat} {c:Int} (h:0<k):dy M k (.dat c):=⟨(fun n hn=>nomatch hn),trivial,h⟩
theorem Ud {k:Nat} (h:0<k):dy M k (.ref 0):=⟨fun n hn=>.inl (List.mem_singleton.mp hn),trivial,h⟩
theorem Ue {k:Nat} {r:aq} (h:0<k) (hr:r∈M.rows):dy M k (.ref r.num):=⟨fun n hn=>.inr (aB r hr (List.mem_singleton.mp hn).symm),trivial,h⟩
theorem J7 (G:Good C) (W:Wd M pos σ) (N:iG M) (R:gL M) (hd:M.d+1<=100000) {v m:Nat} (h4:(v:Int)≠4) {ρ:Loc} (e1:ρ .bG=some (.ref (pos .nums))) (e2:ρ .bz=some (.ref (pos .d))) (e3:ρ .aJ=some (.ref (pos .w))) (e4:ρ .sx=some (.int v))
  (q:∀ V v d' c',Wd (M.dc d' c') pos V->aL M pos σ (M.dc d' c') pos V->M.d<=d'->d'<=M.d+1->dy M 1 v->Q (lv v) V) :
  ax C (m+1) (pZ.drop 1) (fun Y V=>Q .none V) Q ρ σ:=by
 delta pZ
 change ax C (m+1) [_,_,_,_] _ _ _ _
 by_cases h0:(v:Int)=0
 ·(refine ay ?_ (w_count W (c:=M.count+1));intro bc av)
  wtm_at "w"
  exact q _ (.dat (M.count+1)) M.d (M.count+1) bc av (Nat.le_refl _) (Nat.le_succ _) (Uc (by decide))
 ·have zero:Q (lv (.ref 0)) σ:=q σ (.ref 0) M.d M.count W aL.refl (Nat.le_refl _) (Nat.le_succ _) (Ud (by decide))
  have hr:=oA W R
  by_cases h1:(v:Int)=1
  ·wtm_at "w";exact zero
  ·by_cases hz:(M.rows.length:Int)=0
   ·wtm_at "w";exact zero
   ·wtm_at "w"
    refine FW.up (ia (n:=M.rows.length) G W N (by lia) fun aH u bc av hu=>?_) (by lia)
    obtain ⟨r,J8⟩:∃ r,M.rows[u]?=some r:=(aQ _ (List.getElem?_eq_getElem hu))
    have cK:=List.mem_of_getElem? J8
    have ab6:aH[pos .rows]?=some (.list (M.rows.map fun r=>AV.ref (pos (.row r.num)))):=oA (M:=M.sD (M.d+1)) bc R.sD
    have Uf:=gU bc R.nd cK
    rw [<- Int.toNat_natCast u] at J8
    wtm_at "w"
    exact q aH (.ref r.num) (M.d+1) M.count bc av (Nat.le_succ _) (Nat.le_refl _) (Ue (by decide) cK)
theorem J9 (G:Good C) (W:Wd M pos σ) (N:iG M) (R:gL M) (hd:M.d+5<=100000) (q:∀ V v d' c',Wd (M.dc d' c') pos V->aL M pos σ (M.dc d' c') pos V->M.d<d'->d'<=M.d+2->dy M 1 v->Q (lv v) V) :
  FW C 2 .qO [.ref (pos .nums),.ref (pos .d),.ref (pos .w),.int 1] Q σ:=by
 refine bo G (b:=pZ) (ps:=tN) rfl rfl rfl rfl ?_
 delta tN pZ
 wtm_at "x";wtm_at "x"
 refine ia (n:=4) G W N (by decide) fun ai v aE ah hv=>?_
 exact J7 (M:=M.sD (M.d+1)) (m:=0) G aE (N.sD (by lia)) R.sD (by show M.d+1+1<=_;lia) (v:=v) (by lia) rfl rfl rfl rfl
  fun V v d' c' W' S' h1 h2 O=>q V v d' c' W' (ah.trans S') h1 (by have:d'<=M.d+1+1:=h2;lia) ⟨O.nums,O.np,O.dp⟩
end
section
variable {C:Cx} {M M':Mo} {pos:Tg->Nat} {σ:AH} {Q:AV->AH->Prop}
theorem dy.str {k:Nat} {a b:Vl} (x:dy M k a) (y:dy M k b):dy M (k+1) (.str a b):=⟨fun n hn=>by
  rcases List.mem_append.mp hn with h | h
  ·exact x.nums n h
  ·exact y.nums n h,⟨x.np,y.np⟩,by have:=x.dp;have:=y.dp;simp only [ci];lia⟩
theorem Ka (G:Good C) (W:Wd M pos σ) (N:iG M) (R:gL M) (hd:M.d+10<=100000) (q:∀ V v d' c',Wd (M.dc d' c') pos V->aL M pos σ (M.dc d' c') pos V->M.d<d'->d'<=M.d+5->dy M 2 v->Q (lv v) V) :
  FW C 3 .qO [.ref (pos .nums),.ref (pos .d),.ref (pos .w),.int 0] Q σ:=by
 refine bo G (b:=pZ) (ps:=tN) rfl rfl rfl rfl ?_
 delta tN pZ
 wtm_at "x";wtm_at "x"
 refine FW.up (ia (n:=5) G W N (by decide) fun ai v aE ah hv=>?_) (by decide)
 by_cases h4:(v:Int)=4
 ·obtain rfl:v=4:=by lia
  wtm_at "w"
  refine J9 (M:=M.sD (M.d+1)) G aE (N.sD (by lia)) R.sD (by show M.d+1+5<=_;lia) fun aH v1 d2 c2 bc av fO Kb O1=>?_
  replace fO:M.d+1<d2:=fO
  replace Kb:d2<=M.d+1+2:=Kb
  wtm_at "w"
  refine J9 (M:=M.dc d2 c2) G bc (N.dc (by lia)) R.dc (by show d2+5<=_;lia) fun bn v2 d3 c3 bg aV xp Kd O2=>?_
  replace xp:d2<d3:=xp
  replace Kd:d3<=d2+2:=Kd
  wtm_at "w"
  exact q bn (.str v1 v2) d3 c3 bg (ah.trans (av.trans aV)) (by lia) (by lia) (dy.str ⟨O1.nums,O1.np,O1.dp⟩ ⟨O2.nums,O2.np,O2.dp⟩)
 ·exact J7 (M:=M.sD (M.d+1)) (m:=1) G aE (N.sD (by lia)) R.sD (by show M.d+1+1<=_;lia) (v:=v) h4 rfl rfl rfl rfl
   fun V v d' c' W' S' h1 h2 O=>q V v d' c' W' (ah.trans S') h1 (by have:d'<=M.d+1+1:=h2;lia) ⟨O.nums,O.np,Nat.le_succ_of_le O.dp⟩
noncomputable def bw (r:aq):Nat:=max 3 (2+r.slots.length)
noncomputable def gM (st:List (Nat × Int) × List (Nat × Nat)) (r:aq):List (Nat × Int) × List (Nat × Nat) :=
 (st.1++[(r.num,16+(st.2.length:Int))],st.2++(List.range (bw r)).map fun off=>(r.num,off))
noncomputable def fM (l:List aq):List (Nat × Int) × List (Nat × Nat):=l.foldl gM ([(0,0)],[])
noncomputable def i8 (pos:Tg->Nat) (r1 r2:Nat):Tg->Nat:=cn (cn pos .addrs r1) .words r2
theorem mZ {r1 r2:Nat} {t:Tg} (h1:t≠.addrs) (h2:t≠.words):i8 pos r1 r2 t=pos t:=by unfold i8;exact U (ft h2 ..) (U (ft h1 ..) rfl)
theorem rW {r1 r2:Nat}:i8 pos r1 r2 .addrs=r1:=by unfold i8;exact U (ft (by decide) ..) (U iW rfl)
theorem rX {r1 r2:Nat}:i8 pos r1 r2 .words=r2:=by unfold i8;exact U iW rfl
noncomputable def Mo.dZ (M:Mo) (l:List (Nat × Int) × List (Nat × Nat)):Mo:={ M with lay:=some l }
theorem Ug (W:Wd M pos σ) {r1 r2:Nat} (o1:cm M pos r1) (o2:cm M pos r2) (bu:r1≠r2) (e1:σ[r1]?=some (.an [(0,.int 0)])) (e2:σ[r2]?=some (.list [])) :
  Wd (M.dZ ([(0,0)],[])) (i8 pos r1 r2) (σ.set (pos .w) (.bl (bp (bp (wF M pos) .eH (.ref r1)) .cT (.ref r2)))) /\
  ∀ aX,Gr aX σ->aX[r1]?=none->aX[r2]?=none->aL M pos aX (M.dZ ([(0,0)],[])) (i8 pos r1 r2) (σ.set (pos .w) (.bl (bp (bp (wF M pos) .eH (.ref r1)) .cT (.ref r2)))):=by
 have hl:=mY M pos
 have hw:aO (M.dZ ([(0,0)],[])) (i8 pos r1 r2) .w=some (.bl (bp (bp (wF M pos) .eH (.ref r1)) .cT (.ref r2))):=by
  refine U (mY ..) ?_
  unfold wF
  show some (AO.bl (_++j5 (i8 pos r1 r2) (some ([(0,0)],[]))))=some (AO.bl (bp (bp (_++j5 pos M.lay) _ _) _ _))
  cases M.lay <;> rfl
 have same:∀ t,t≠.w->t≠.addrs->t≠.words->aO (M.dZ ([(0,0)],[])) (i8 pos r1 r2) t=aO M pos t:=by
  intro t h1 h2 h3
  induction t <;> first | rfl | exact absurd rfl h1 | exact absurd rfl h2 | exact absurd rfl h3
 have live:∀ t,t≠.addrs->t≠.words->aO (M.dZ ([(0,0)],[])) (i8 pos r1 r2) t≠none->aO M pos t≠none:=by
  intro t h2 h3 h
  by_cases hq:t=.w
  ·subst hq;refine U hl ?_;exact Option.some_ne_none _
  ·refine aT (same t hq h2 h3 ..) ?_;exact h
 have w1:pos .w≠r1:=o1 _ (by refine U hl ?_;exact Option.some_ne_none _)
 have w2:pos .w≠r2:=o2 _ (by refine U hl ?_;exact Option.some_ne_none _)
 refine ⟨⟨fun a b ha hb e=>?_,fun t o e=>?_⟩,fun aX g h1 h2=>⟨fun r o ho e=>?_,fun t ht=>?_⟩⟩
 ·by_cases a1:a=.addrs
  ·by_cases b1:b=.addrs
   ·exact U a1 (U b1 rfl)
   ·by_cases b2:b=.words
    ·subst a1;subst b2;rw [rW,rX] at e;exact absurd e bu
    ·subst a1;rw [rW,mZ b1 b2] at e;exact absurd e.symm (o1 b (live b b1 b2 hb))
  ·by_cases a2:a=.words
   ·by_cases b1:b=.addrs
    ·subst a2;subst b1;rw [rW,rX] at e;exact absurd e.symm bu
    ·by_cases b2:b=.words
     ·exact U a2 (U b2 rfl)
     ·subst a2;rw [rX,mZ b1 b2] at e;exact absurd e.symm (o2 b (live b b1 b2 hb))
   ·by_cases b1:b=.addrs
    ·subst b1;rw [rW,mZ a1 a2] at e;exact absurd e (o1 a (live a a1 a2 ha))
    ·by_cases b2:b=.words
     ·subst b2;rw [rX,mZ a1 a2] at e;exact absurd e (o2 a (live a a1 a2 ha))
     ·rw [mZ a1 a2,mZ b1 b2] at e
      exact W.inj a b (live a a1 a2 ha) (live b b1 b2 hb) e
 ·by_cases a1:t=.addrs
  ·subst a1
   (revert e;refine si ?_;rintro rfl)
   refine U rW (U (gn w1 ..) ?_);exact e1
  ·by_cases a2:t=.words
   ·subst a2
    (revert e;refine si ?_;rintro rfl)
    refine U rX (U (gn w2 ..) ?_);exact e2
   ·refine U (mZ a1 a2 ..) ?_
    by_cases a3:t=.w
    ·subst a3;rw [hw] at e;(revert e;refine si ?_;rintro rfl);exact gs (W.get _ _ hl)
    ·have e':=e
     rw [same t a3 a1 a2] at e'
     refine U (gn (W.ne (Ne.symm a3) hl e') ..) ?_
     exact W.get t o e'
 ·refine U (gn (ho .w (by rw [hl];exact Option.some_ne_none _)) ..) ?_;exact g r o e
 ·by_cases a1:t=.addrs
  ·subst a1;refine U rW ?_;exact .inr h1
  ·by_cases a2:t=.words
   ·subst a2;refine U rX ?_;exact .inr h2
   ·exact .inl (aB t (live t a1 a2 ht) (mZ a1 a2).symm)
theorem Uh {a:List (Nat × Int)} {b:List (Nat × Nat)} (W:Wd (M.dZ (a,b)) pos σ) {n:Nat} {x:Int} (hn:n∉a.map (·.1)) :
  Wd (M.dZ (a++[(n,x)],b)) pos (σ.set (pos .addrs) (.an (ee (a.map fun y=>((y.1:Int),AV.int y.2)) n (.int x)))) /\
  aL (M.dZ (a,b)) pos σ (M.dZ (a++[(n,x)],b)) pos (σ.set (pos .addrs) (.an (ee (a.map fun y=>((y.1:Int),AV.int y.2)) n (.int x)))):=by
 refine W.upd (t:=.addrs) rfl ?_ fun t' ht=>by induction t' <;> first | rfl | exact absurd rfl ht
 show some (AO.an ((a++[(n,x)]).map fun y=>((y.1:Int),AV.int y.2)))=_
 rw [xe,List.map_append]
 ·rfl
 ·intro h
  rw [List.map_map] at h
  (refine au ?_ (List.mem_map.mp h);intro y hy e)
  replace e:(y.1:Int)=n:=e
  exact hn (List.mem_map.mpr (aB y hy (by show y.1=n;lia)))
theorem Ui {a:List (Nat × Int)} {b:List (Nat × Nat)} (W:Wd (M.dZ (a,b)) pos σ) {n k:Nat} :
  Wd (M.dZ (a,b++[(n,k)])) pos (σ.set (pos .words) (.list (b.map (fun x=>AV.tup [.ref (pos (.row x.1)),.int x.2])++[.tup [.ref (pos (.row n)),.int k]]))) /\
  aL (M.dZ (a,b)) pos σ (M.dZ (a,b++[(n,k)])) pos (σ.set (pos .words) (.list (b.map (fun x=>AV.tup [.ref (pos (.row x.1)),.int x.2])++[.tup [.ref (pos (.row n)),.int k]]))):=by
 refine W.upd (t:=.words) rfl ?_ fun t' ht=>by induction t' <;> first | rfl | exact absurd rfl ht
 show some (AO.list ((b++[(n,k)]).map fun x=>AV.tup [.ref (pos (.row x.1)),.int x.2]))=_
 refine U List.map_append ?_;rfl
theorem Uj (l:List aq) (hs:∀ r∈l,r.slots.length<=3):∀ st:List (Nat × Int) × List (Nat × Nat),(l.foldl gM st).2.length<=st.2.length+5*l.length:=by
 induction l with
 | nil=>intro st;simp
 | cons r l ih =>
  intro st
  have:=ih (fun r h=>hs r (.tail _ h)) (gM st r)
  have h1:=hs r (.head _)
  have:(gM st r).2.length<=st.2.length+5:=by simp [gM,bw];lia
  simp only [List.foldl_cons,List.length_cons];lia
theorem Ke (l:List aq):∀ st:List (Nat × Int) × List (Nat × Nat),(l.foldl gM st).1.map (·.1)=st.1.map (·.1)++l.map (·.num):=by
 induction l with
 | nil=>intro st;simp
 | cons r l ih=>intro st;refine U List.foldl_cons (U (ih ..) ?_);simp [gM]
theorem Uk (R:gL M) {i:Nat} {r:aq} (dN:M.rows[i]?=some r):r.num∉((M.rows.take i).foldl gM ([(0,0)],[])).1.map (·.1):=by
 refine U (Ke ..) ?_
 have cK:=List.mem_of_getElem? dN
 intro h
 rcases List.mem_append.mp h with h | h
 ·have:=R.pos r cK;have h:r.num=0:=List.mem_singleton.mp h;lia
 ·(refine au ?_ (List.mem_map.mp h);intro u hu e)
  have bP:=R.nd
  rw [<- List.take_append_drop i M.rows,List.map_append] at bP
  (refine aM ?_ (List.getElem?_eq_some_iff.mp dN);rintro hi rfl)
  rw [List.drop_eq_getElem_cons hi,List.map_cons] at bP
  exact (List.nodup_append.mp bP).2.2 u.num (List.mem_map_of_mem (f:=(·.num)) hu) _ (.head _) e
theorem Ul (R:gL M) {i:Nat} (hi:i<=M.rows.length):((M.rows.take i).foldl gM ([(0,0)],[])).1.length<=100001/\((M.rows.take i).foldl gM ([(0,0)],[])).2.length<=500000:=by
 have h1:=Uj (M.rows.take i) (fun r h=>R.sl r (List.mem_of_mem_take h)) ([(0,0)],[])
 have h2:=congrArg List.length (Ke (M.rows.take i) ([(0,0)],[]))
 have:=R.len
 rw [List.length_append,List.length_map,List.length_map,List.length_map,List.length_take] at h2
 rw [List.length_take] at h1
 have:([]:List (Nat × Nat)).length=0:=rfl
 have:[((0:Nat),(0:Int))].length=1:=rfl
 exact ⟨by lia,by lia⟩
theorem Um {A:AH} {w:Nat} {X Y l:AO} (h:w<A.length):(A.set w X++[l]).set w Y=(A++[l]).set w Y:=by
 exact aT (List.set_append_left _ _ h ..) (U (List.set_set ..) rfl)
structure Un (M:Mo) (pos p:Tg->Nat) (σ:AH) (r:aq) (a:List (Nat × Int)) (b:List (Nat × Nat)) (j:Nat) (ρ'':Loc) (ar:AH):Prop where
 W:Wd (M.dZ (a,b++(List.range j).map fun off=>(r.num,off))) p ar
 S:aL M pos σ (M.dZ (a,b++(List.range j).map fun off=>(r.num,off))) p ar
 d1:ρ'' .aJ=some (.ref (p .w))
 d2:ρ'' .bW=some (.ref (p (.row r.num)))
theorem DB (G:Good C) (W:Wd M pos σ) (R:gL M) (q:∀ V pos',Wd (M.dZ (fM M.rows)) pos' V->aL M pos σ (M.dZ (fM M.rows)) pos' V->(∀ t,t≠.addrs->t≠.words->pos' t=pos t)->Q .none V) :
  FW C 1 .vA [.ref (pos .w)] Q σ:=by
 refine bo G (b:=Bc) (ps:=B9) rfl rfl rfl rfl ?_
 delta B9 Bc
 have aS:=jN (oq W)
 have hw:=ga (o':=.an [(0,.int 0)]) (oq W)
 have Uo:(bp (wF M pos) .eH (.ref σ.length)).length<1000000:=by
  have:=@Gm (wF M pos) .eH (.ref σ.length)
  have:=J5 (M:=M) (pos:=pos)
  lia
 wtm_at "x";wtm_at "x";wtm_at "k";wtm_at "x";wtm_at "x";wtm_at "k"
 have aS:pos .w<(σ++[AO.an [(0,.int 0)]]).length:=jN hw
 refine U List.length_set (U (Um aS ..) ?_)
 have pF:(σ++[AO.an [(0,.int 0)]]).length=σ.length+1:=List.length_append
 (refine ay ?_ (Ug ((W.app (.an [(0,.int 0)])).app (.list [])) (r1:=σ.length) (r2:=(σ++[AO.an [(0,.int 0)]]).length) (W.fresh (Nat.le_refl _)) (W.fresh (by lia)) (by lia) (by exact U (ga gl ..) rfl) gl);intro aE ah)
 replace ah:=ah σ ((Gr.app _ _).mK _) cL (mJ (by lia))
 have kp:∀ t,t≠.addrs->t≠.words->i8 pos σ.length (σ++[AO.an [(0,.int 0)]]).length t=pos t:=fun t a b=>mZ a b
 generalize (σ++[AO.an [(0,.int 0)]]++[AO.list []]).set (pos .w) _=ai at aE ah ⊢
 generalize i8 pos σ.length (σ++[AO.an [(0,.int 0)]]).length=p at aE ah kp
 refine aT (kp .w (by decide) (by decide) ..) ?_
 have oB:∀ {l} {V:AH},Wd (M.dZ l) p V->V[p .rows]?=some (.list (M.rows.map fun r=>AV.ref (p (.row r.num)))):=fun {l V} W'=>oA (M:=M.dZ l) W' ⟨R.rl,R.nd,R.pos,R.len,R.sl⟩
 clear hw Uo aS pF W
 wtm_at "w"
 refine e9 (fun i ae V=>Wd (M.dZ ((M.rows.take i).foldl gM ([(0,0)],[]))) p V/\aL M pos σ (M.dZ ((M.rows.take i).foldl gM ([(0,0)],[]))) p V/\ae .aJ=some (.ref (p .w))) (oB aE) ⟨aE,ah,rfl⟩ ?_ ?_
 ·(intro i r ae V K dN;refine bS ?_;intro bc av e1;intro k)
  have hi:=(List.getElem?_eq_some_iff.mp dN).1
  have cK:=List.mem_of_getElem? dN
  have nT:(M.rows.take (i+1)).foldl gM ([(0,0)],[])=gM ((M.rows.take i).foldl gM ([(0,0)],[])) r:=by refine U List.take_add_one (U dN (U List.foldl_append ?_));rfl
  have Kf:=Uk R dN
  (refine ay ?_ (Ul R (Nat.le_of_lt hi));intro la lb)
  have fD:=R.sl r cK
  have k:=fun ρ'' ar W S e=>k ρ'' ar (oB W) ⟨W,S,e⟩
  rw [nT] at k
  clear nT
  generalize (M.rows.take i).foldl gM ([(0,0)],[])=st at bc av Kf la lb k
  obtain ⟨a,b⟩:=st
  have nd:=R.nd
  have ab7:V[p .addrs]?=some (.an (a.map fun y=>((y.1:Int),AV.int y.2))):=bc.get .addrs _ rfl
  have ab8:V[p .words]?=some (.list (b.map fun x=>AV.tup [.ref (p (.row x.1)),.int x.2])):=bc.get .words _ rfl
  have sV:(a.map fun y=>((y.1:Int),AV.int y.2)).length<1000000:=by refine U (List.length_map ..) ?_;lia
  have g6:(M.dZ (a,b)).lay=some (a,b):=rfl
  have Uf:=gU bc nd cK
  (refine ay ?_ (Uh bc Kf (x:=16+(b.length:Int)));intro bg aV)
  wtm_at "k";wtm_at "s"
  replace aV:=av.trans aV
  generalize V.set (p .addrs) _=bn at bg aV ⊢
  have ab9:=gU bg nd cK
  have nS:=mI bg nd cK
  have Up:(if (2:Int)+(r.slots.length:Int)>3 then (2:Int)+(r.slots.length:Int) else 3)=((bw r:Nat):Int):=by unfold bw;split <;> wtm_at "o"
  have hrz:bw r<=5:=by unfold bw;lia
  wtm_at "w"
  refine jQ (bw r) (fun j ρ'' ar=>Un M pos p σ r (a++[(r.num,16+(b.length:Int))]) b j ρ'' ar) Up (by lia) ⟨by refine U List.range_zero (U List.map_nil (U (List.append_nil ..) ?_));exact bg,by refine U List.range_zero (U List.map_nil (U (List.append_nil ..) ?_));exact aV,e1,rfl⟩ ?_ ?_
  ·rintro j ρ'' ar K1 hj ⟨bT,bK,d1,d2⟩ k'
   (refine ay ?_ (Ui bT (n:=r.num) (k:=j));intro cR dk)
   rw [show b++(List.range j).map (fun off=>(r.num,off))++[(r.num,j)]=b++(List.range (j+1)).map fun off=>(r.num,off) by refine U List.range_succ (U List.map_append (U (List.append_assoc ..) ?_));rfl] at cR dk
   have aca:ar[p .words]?=some (.list ((b++(List.range j).map fun off=>(r.num,off)).map fun x=>AV.tup [.ref (p (.row x.1)),.int x.2])):=bT.get .words _ rfl
   have hbl:((b++(List.range j).map fun off=>(r.num,off)).map fun x=>AV.tup [.ref (p (.row x.1)),.int x.2]).length<1000000:=by refine U (List.length_map ..) (U List.length_append (U (List.length_map ..) (U List.length_range ?_)));lia
   have g6:(M.dZ (a++[(r.num,16+(b.length:Int))],b++(List.range j).map fun off=>(r.num,off))).lay=some (a++[(r.num,16+(b.length:Int))],b++(List.range j).map fun off=>(r.num,off)):=rfl
   wtm_at "w"
   exact k' _ _ ⟨cR,bK.trans dk,d1,d2⟩
  ·rintro ρ'' ar ⟨bT,bK,d1,d2⟩
   wtm_at "w"
   exact k _ _ bT bK d1
 ·(intro ae V;refine bS ?_;intro bc av e1)
  rw [List.take_length] at bc av
  wtm_at "w"
  exact q V p bc av kp
end
noncomputable def bF (l:List aq) (i:Nat):Nat:=((l.take i).map bw).sum
noncomputable def ey:Nat->List aq->List (Nat × Int)
 | _,[]=>[]
 | a,r::l=>(r.num,16+(a:Int))::ey (a+bw r) l
noncomputable def dz (A:Nat->Int):Nat->List aq->List Th
 | _,[]=>[]
 | a,r::l=>{ af:=r.num,addr:=16+(a:Int),slots:=r.slots.map (sv A),gen:=r.gen,size:=bw r }::dz A (a+bw r) l
noncomputable def layW (l:List aq):List (Nat × Nat):=l.flatMap fun r=>(List.range (bw r)).map fun off=>(r.num,off)
noncomputable def ak (l:List aq) (n:Nat):Int:=(((ey 0 l).find? fun x=>x.1=n).map (·.2)).getD 0
theorem Uq (l:List aq):∀ st:List (Nat × Int) × List (Nat × Nat),l.foldl gM st=(st.1++ey st.2.length l,st.2++layW l):=by
 induction l with
 | nil=>intro st;simp [ey,layW]
 | cons r l ih =>
  intro st
  refine U List.foldl_cons (U (ih ..) ?_)
  simp [gM,ey,layW]
theorem uv (l:List aq):fM l=((0,0)::ey 0 l,layW l):=by
 unfold fM;refine U (Uq ..) ?_;simp
theorem qr (r:aq):3<=bw r:=by unfold bw;lia
theorem Kg {l:List aq} {i:Nat} {r:aq} (h:l[i]?=some r):bF l (i+1)=bF l i+bw r:=by
 unfold bF;refine U List.take_add_one (U h ?_);simp
theorem Ur {l:List aq}:∀ {i j:Nat},i<=j->bF l i<=bF l j:=by
 intro i j h
 induction j with
 | zero =>
  obtain rfl:i=0:=by lia
  exact Nat.le_refl _
 | succ j ih =>
  rcases Nat.lt_or_ge i (j+1) with q | q
  ·have:=ih (by lia)
   induction e:l[j]? with
   | none =>
    have:bF l (j+1)=bF l j:=by unfold bF;refine U List.take_add_one (U e ?_);simp
    lia
   | some r=>have:=Kg e;lia
  ·obtain rfl:i=j+1:=by lia
   exact Nat.le_refl _
theorem rY {l:List aq} {i j:Nat} {r:aq} (h:l[i]?=some r) (ik:i<j):bF l i+bw r<=bF l j:=by
 refine aT (Kg h ..) ?_;exact Ur ik
theorem xq {A:Nat->Int}:∀ {l:List aq} {a i:Nat},(dz A a l)[i]?=(l[i]?).map fun r=>{ af:=r.num,addr:=16+((a+bF l i:Nat):Int),slots:=r.slots.map (sv A),gen:=r.gen,size:=bw r }
 | [],a,i=>by simp [dz]
 | r::l,a,0=>by simp [dz,bF]
 | r::l,a,i+1=>by
  show (dz A (a+bw r) l)[i]?=(l[i]?).map _
  refine U xq ?_
  have:a+bw r+bF l i=a+bF (r::l) (i+1):=by simp [bF];lia
  exact U this rfl
theorem DC:∀ {l:List aq} {a i:Nat},(ey a l)[i]?=(l[i]?).map fun r=>(r.num,16+((a+bF l i:Nat):Int))
 | [],a,i=>by simp [ey]
 | r::l,a,0=>by simp [ey,bF]
 | r::l,a,i+1=>by
  show (ey (a+bw r) l)[i]?=(l[i]?).map _
  refine U DC ?_
  have:a+bw r+bF l i=a+bF (r::l) (i+1):=by simp [bF];lia
  exact U this rfl
theorem uw {A:Nat->Int}:∀ {l:List aq} {a:Nat},(dz A a l).length=l.length
 | [],a=>rfl
 | r::l,a=>by simp [dz,uw]
theorem DD {A:Nat->Int}:∀ {l:List aq} {a:Nat},(dz A a l).map (·.af)=l.map (·.num)
 | [],a=>rfl
 | r::l,a=>by simp [dz,DD]
theorem ux:∀ {l:List aq} {a:Nat},(ey a l).map (·.1)=l.map (·.num)
 | [],a=>rfl
 | r::l,a=>by simp [ey,ux]
theorem EU {l:List aq} (hn:(l.map (·.num)).Nodup) {i j:Nat} {r u:aq} (hi:l[i]?=some r) (hj:l[j]?=some u) (h:r.num=u.num):i=j:=by
 (refine aM ?_ (List.getElem?_eq_some_iff.mp hi);intro h1 e1)
 (refine aM ?_ (List.getElem?_eq_some_iff.mp hj);intro h2 e2)
 rcases Nat.lt_trichotomy i j with q | q | q
 ·have:=(List.pairwise_iff_getElem.mp hn) i j (by simpa using h1) (by simpa using h2) q
  simp [e1,e2,h] at this
 ·exact q
 ·have:=(List.pairwise_iff_getElem.mp hn) j i (by simpa using h2) (by simpa using h1) q
  simp [e1,e2,h] at this
theorem DE {α:Type}:∀ {l:List (Nat × α)} {x:Nat × α},(l.map (·.1)).Nodup->x∈l->l.find? (fun y=>y.1=x.1)=some x
 | a::l,x,hn,h=>by
  refine U List.find?_cons ?_
  rw [List.map_cons,List.nodup_cons] at hn
  rcases List.mem_cons.mp h with rfl | h
  ·simp
  ·have:a.1≠x.1:=fun e=>hn.1 (by refine U e ?_;exact List.mem_map_of_mem (f:=(·.1)) h)
   simp only [this,decide_false]
   exact DE hn.2 h
theorem gN {l:List aq} (hn:(l.map (·.num)).Nodup) {i:Nat} {r:aq} (hi:l[i]?=some r):ak l r.num=16+(bF l i:Int):=by
 have hm:(r.num,16+((0+bF l i:Nat):Int))∈ey 0 l:=List.mem_of_getElem? (i:=i) (by refine U DC (U hi ?_);rfl)
 have:=DE (by refine U ux ?_;exact hn) hm
 unfold ak
 refine U this ?_
 simp
theorem m0 {l:List aq} (hp:∀ r∈l,0<r.num):ak l 0=0:=by
 unfold ak
 have:(ey 0 l).find? (fun x=>decide (x.1=0))=none:=by
  rw [List.find?_eq_none]
  intro x hx
  have:x.1∈(ey 0 l).map (·.1):=List.mem_map_of_mem (f:=(·.1)) hx
  rw [ux] at this
  (refine au ?_ (List.mem_map.mp this);intro r hr e)
  have:=hp r hr
  simp;lia
 rw [this];rfl
theorem Ki:∀ {l:List aq} {i:Nat} {r:aq} {off:Nat},l[i]?=some r->off<bw r->(layW l)[bF l i+off]?=some (r.num,off)
 | u::l,0,r,off,hi,ho=>by
  simp at hi;subst hi
  have:bF (u::l) 0+off=off:=by simp [bF]
  refine U this ?_
  show ((List.range (bw u)).map _++layW l)[off]?=_
  refine U (List.getElem?_append_left (by simpa using ho) ..) (U List.getElem?_map (U (List.getElem?_range ho ..) ?_));rfl
 | u::l,i+1,r,off,hi,ho=>by
  have e:bF (u::l) (i+1)+off=(List.range (bw u)).length+(bF l i+off):=by simp [bF];lia
  refine U e ?_
  show ((List.range (bw u)).map _++layW l)[_]?=_
  refine U (List.getElem?_append_right (by simp) ..) ?_
  have:(List.range (bw u)).length+(bF l i+off) - ((List.range (bw u)).map fun off=>(u.num,off)).length=bF l i+off:=by simp
  refine U this ?_
  exact Ki (l:=l) (i:=i) hi ho
theorem DF:∀ {l:List aq},(layW l).length=bF l l.length
 | []=>rfl
 | r::l=>by
  show ((List.range (bw r)).map _++layW l).length=_
  refine U List.length_append (U DF ?_);simp [bF]
theorem Kj:∀ {l:List aq} {p:Nat},p<(layW l).length->∃ i r off,l[i]?=some r/\off<bw r/\p=bF l i+off
 | [],p,h=>by simp [layW] at h
 | u::l,p,h=>by
  rcases Nat.lt_or_ge p (bw u) with q | q
  ·exact (Fj 0 u p rfl q (by simp [bF]))
  ·have h':p - bw u<(layW l).length:=by
    have:(layW (u::l)).length=bw u+(layW l).length:=by simp [layW]
    lia
   (refine oW ?_ (Kj h');intro i r off h1 h2 h3)
   exact (Fj (i+1) r off h1 h2 (by simp [bF] at h3 ⊢;lia))
noncomputable def qs (M:Mo):Vl->Prop
 | .bQ n off p=>∃ r∈M.rows,r.num=n/\off<bw r
 | v=>dy M 4 v
structure Inv (M:Mo):Prop where
 iH:0<M.ns.length/\M.ns.length<=100000
 R:gL M
 lV:∀ r∈M.rows,r.gen<=2
 gens:M.rows.Pairwise fun a b=>b.gen<=a.gen
 slots:∀ r∈M.rows,∀ v∈r.slots,dy M 4 v
 roots:∀ v∈M.roots,qs M v
 k6:∀ r∈M.rows,r.num<=M.made
 lay:M.lay=some (fM M.rows)
 ac:M.ac=dz (ak M.rows) 0 M.rows
 tl:M.tl=M.rows.map (·.num)
 idx:M.idx=M.ac.map fun t=>(t.addr,t.af)
 top:M.top=16+(bF M.rows M.rows.length:Int)
 bv:M.bv=M.cards
 hmade:M.hmade=M.made
 cells:M.cells=M.roots.map (sv (ak M.rows))
 qt:∀ r∈M.rows,∀ (i:Nat) v,r.slots[i]?=some v->∀ n∈a0 v,∀ r'∈M.rows,r'.num=n->r'.gen<r.gen->cP (ak M.rows r.num) i M.bits∈M.cards
 b1:M.rows.length<=M.made
 b2:M.made<=M.d
 b3:M.roots.length<=M.d
 b4:M.cards.length<=4*M.d
 b5:M.d<=10000
 bits:M.bits<=3
section
variable {M:Mo}
theorem Inv.th (I:Inv M) {i:Nat} {r:aq} (h:M.rows[i]?=some r):M.ac[i]?=some { af:=r.num,addr:=ak M.rows r.num,slots:=r.slots.map (sv (ak M.rows)),gen:=r.gen,size:=bw r }:=by
 refine U I.ac (U xq (U h ?_))
 simp only [Option.map_some,gN I.R.nd h]
 simp
theorem Inv.uy (I:Inv M) {i:Nat} {t:Th} (h:M.ac[i]?=some t):∃ r,M.rows[i]?=some r/\t={ af:=r.num,addr:=ak M.rows r.num,slots:=r.slots.map (sv (ak M.rows)),gen:=r.gen,size:=bw r }:=by
 have aS:=(List.getElem?_eq_some_iff.mp h).1
 rw [I.ac,uw] at aS
 have hr:M.rows[i]?=some M.rows[i]:=List.getElem?_eq_getElem aS
 refine (aB _ hr ?_)
 rw [I.th hr] at h
 exact (Option.some.inj h).symm
theorem Inv.cM (I:Inv M):bR M where
 tl:=by exact U I.tl (U I.ac (U DD rfl))
 nd:=by refine U I.ac (U DD ?_);exact I.R.nd
 idx:=I.idx
 ap:=fun i j a b hi hj ik=>by
  (refine au ?_ (I.uy hi);rintro r hr rfl)
  (refine au ?_ (I.uy hj);rintro u hu rfl)
  have:=rY hr ik
  show ak M.rows r.num+(bw r:Int)<=ak M.rows u.num
  refine U (gN I.R.nd hr ..) (U (gN I.R.nd hu ..) ?_)
  lia
 pos:=fun t ht=>by
  (refine aM ?_ (List.mem_iff_getElem?.mp ht);intro i hi)
  (refine au ?_ (I.uy hi);rintro r hr rfl)
  have:=qr r
  show 0<bw r
  lia
 len:=by refine U I.ac (U uw ?_);exact I.R.len
theorem Inv.find (I:Inv M) {i:Nat} {r:aq} {w:Int} (h:M.rows[i]?=some r) (h1:ak M.rows r.num<=w) (h2:w<ak M.rows r.num+bw r):gJ M.ac w=some { af:=r.num,addr:=ak M.rows r.num,slots:=r.slots.map (sv (ak M.rows)),gen:=r.gen,size:=bw r } :=
 t5 I.cM (List.mem_of_getElem? (I.th h)) (by simp [jS];lia)
theorem Inv.find_none (I:Inv M) {w:Int} (h:w<16∨16+((layW M.rows).length:Int)<=w):gJ M.ac w=none:=by
 unfold gJ
 rw [List.find?_eq_none]
 intro t ht
 (refine aM ?_ (List.mem_iff_getElem?.mp ht);intro i hi)
 (refine au ?_ (I.uy hi);rintro r hr rfl)
 have h1:=gN I.R.nd hr
 have aS:=(List.getElem?_eq_some_iff.mp hr).1
 have h2:=rY hr aS
 rw [DF] at h
 simp only [jS]
 simp only [Bool.and_eq_true,decide_eq_true_eq,not_and]
 lia
end
theorem xr (A:Nat->Int):∀ v:Vl,ch (sv A v)=gV v
 | .dat _=>rfl
 | .ref _=>rfl
 | .str a b=>by simp [sv,ch,gV,xr A a,xr A b]
 | .bQ _ _ _=>rfl
theorem DG:∀ v:Vl,gV v+1<=2 ^ ci v
 | .dat _=>by simp [gV,ci]
 | .ref _=>by simp [gV,ci]
 | .str a b=>by
  have h1:=DG a
  have h2:=DG b
  have h3:2 ^ ci a<=2 ^ max (ci a) (ci b):=Nat.pow_le_pow_right (by decide) (Nat.le_max_left ..)
  have h4:2 ^ ci b<=2 ^ max (ci a) (ci b):=Nat.pow_le_pow_right (by decide) (Nat.le_max_right ..)
  simp only [gV,ci]
  refine U (Nat.add_comm 1 (max _ _) ..) (U (Nat.pow_succ ..) ?_)
  lia
 | .bQ _ _ _=>by simp [gV,ci]
theorem DH:∀ v:Pv,mu v<=3*ch v
 | .dat _=>by simp [mu,ch]
 | .ref _=>by simp [mu,ch]
 | .str a b=>by
  have:=DH a;have:=DH b
  simp only [mu,ch];lia
 | .bQ _ _=>by simp [mu,ch]
theorem qu {v:Vl} (h:ci v<=4):gV v<=15:=by
 have:=DG v
 have:2 ^ ci v<=2 ^ 4:=Nat.pow_le_pow_right (by decide) h
 lia
theorem DI {A:Nat->Int} {v:Vl} (h:ci v<=4):ch (sv A v)<=100000/\mu (sv A v)<=100000:=by
 have h1:=qu h
 have h2:=DH (sv A v)
 rw [xr] at h2
 refine U (xr ..) ?_
 lia
theorem uz {A B:Nat->Int}:∀ {v:Vl},(∀ n∈bU v,A n=B n)->sv A v=sv B v
 | .dat _,h=>rfl
 | .ref n,h=>by simp [sv,h n (by simp [bU])]
 | .str a b,h=>by simp [sv,uz (v:=a) fun n hn=>h n (by simp [bU,hn]),uz (v:=b) fun n hn=>h n (by simp [bU,hn])]
 | .bQ n off p,h=>by simp [sv,h n (by simp [bU])]
theorem Us (p:List Int):∀ k,eZ k (p.map AV.int):=by
 intro k
 induction p with
 | nil=>simp [eZ]
 | cons a p ih=>simp [eZ,gf,ih]
theorem uA:∀ (v:Vl) (A:Nat->Int) (k:Nat),2*ci v+1<=k->gf k (pv (sv A v))
 | .dat c,A,k,h=>by
  obtain ⟨k,rfl⟩:∃ j,k=j+1:=(aQ (k - 1) (by lia))
  simp [sv,pv,gf,eZ]
 | .ref n,A,k,h=>by
  obtain ⟨k,rfl⟩:∃ j,k=j+1:=(aQ (k - 1) (by lia))
  simp [sv,pv,gf,eZ]
 | .str a b,A,k,h=>by
  simp only [ci] at h
  obtain ⟨k,rfl⟩:∃ j,k=j+2:=(aQ (k - 2) (by lia))
  have h1:=uA a A k (by lia)
  have h2:=uA b A k (by lia)
  simp [sv,pv,gf,eZ,h1,h2]
 | .bQ n off p,A,k,h=>by
  simp only [ci] at h
  obtain ⟨k,rfl⟩:∃ j,k=j+3:=(aQ (k - 3) (by lia))
  simp [sv,pv,gf,eZ,ej,Us]
theorem Kk:∀ {l m:List aq} {a:Nat},ey a (l++m)=ey a l++ey (a+bF l l.length) m
 | [],m,a=>by simp [ey,bF]
 | r::l,m,a=>by
  simp only [List.cons_append,ey]
  refine U Kk ?_
  have:a+bw r+bF l l.length=a+bF (r::l) (r::l).length:=by simp [bF];lia
  exact U this rfl
theorem DJ {A:Nat->Int}:∀ {l m:List aq} {a:Nat},dz A a (l++m)=dz A a l++dz A (a+bF l l.length) m
 | [],m,a=>by simp [dz,bF]
 | r::l,m,a=>by
  simp only [List.cons_append,dz]
  refine U DJ ?_
  have:a+bw r+bF l l.length=a+bF (r::l) (r::l).length:=by simp [bF];lia
  exact U this rfl
theorem Kl {A B:Nat->Int}:∀ {l:List aq} {a:Nat},(∀ r∈l,∀ v∈r.slots,∀ n∈bU v,A n=B n)->dz A a l=dz B a l
 | [],a,h=>rfl
 | r::l,a,h=>by
  simp only [dz]
  rw [Kl fun u hu=>h u (.tail _ hu)]
  have:r.slots.map (sv A)=r.slots.map (sv B):=List.map_congr_left fun v hv=>uz (h r (.head _) v hv)
  rw [this]
theorem Ut {l:List aq} {r:aq} {n:Nat} (h:n∈l.map (·.num)):ak (l++[r]) n=ak l n:=by
 unfold ak
 refine U Kk (U List.find?_append ?_)
 have:(ey 0 l).find? (fun x=>decide (x.1=n))≠none:=by
  intro h'
  rw [List.find?_eq_none] at h'
  rw [<- ux (a:=0)] at h
  (refine au ?_ (List.mem_map.mp h);intro x hx e)
  exact h' x hx (by simp [e])
 induction e:(ey 0 l).find? (fun x=>decide (x.1=n)) with
 | none=>exact absurd e this
 | some x=>rfl
noncomputable def m5 (M:Mo) (vs:List Vl):Mo :=
 { M with
  rows:=M.rows++[⟨M.made+1,vs,0⟩]
  rl:=M.rl++[M.made+1]
  made:=M.made+1
  roots:=M.roots++[.ref (M.made+1)]
  cells:=M.cells++[.ref M.top]
  lay:=some (fM (M.rows++[⟨M.made+1,vs,0⟩]))
  ac:=M.ac++[eE M (vs.map (sv (ak M.rows)))]
  tl:=M.tl++[M.hmade+1]
  idx:=M.idx++[(M.top,M.hmade+1)]
  top:=M.top+((max 3 (2+(vs.map (sv (ak M.rows))).length):Nat):Int)
  fresh:=M.fresh+((max 3 (2+(vs.map (sv (ak M.rows))).length):Nat):Int)
  hmade:=M.hmade+1 }
theorem Uu {M:Mo} (I:Inv M) {r0:aq} (h0:0<r0.num) {n:Nat} (h:n=0∨∃ r∈M.rows,r.num=n):ak (M.rows++[r0]) n=ak M.rows n:=by
 rcases h with rfl | ⟨r,hr,rfl⟩
 ·rw [m0 I.R.pos,m0]
  intro r hr
  rcases List.mem_append.mp hr with h | h
  ·exact I.R.pos r h
  ·simp at h;subst h;exact h0
 ·exact Ut (List.mem_map_of_mem (f:=(·.num)) hr)
theorem xu {M:Mo} {v:Vl} (h:qs M v):∀ n∈bU v,n=0∨∃ r∈M.rows,r.num=n:=by
 induction v using Vl.casesOn with
 | bQ n off p=>(revert h;refine bO ?_;intro r hr e _);intro k hk;simp [bU] at hk;subst hk;exact .inr (aB r hr e)
 | _=>exact h.nums
theorem rZ {M:Mo} {v:Vl} (h:qs M v):ci v<=4:=by
 induction v using Vl.casesOn with
 | bQ n off p=>simp [ci]
 | _=>exact h.dp
theorem dy.more {M M':Mo} {k k':Nat} {v:Vl} (h:dy M k v) (hk:k<=k') (hr:∀ r∈M.rows,∃ r'∈M'.rows,r'.num=r.num):dy M' k' v :=
 ⟨fun n hn=>(h.nums n hn).imp id fun ⟨r,a,b⟩=>let ⟨r',c,d⟩:=hr r a;(aB r' c (d.trans b)),h.np,Nat.le_trans h.dp hk⟩
theorem Uv {M:Mo} (I:Inv M) {vs:List Vl} (hv:∀ v∈vs,dy M 2 v) (hl:vs.length<=3) {d':Nat} {c':Int} (hd:M.d<d') (cG:d'<=10000):Inv { m5 M vs with d:=d',count:=c' }:=by
 have fresh:∀ r∈M.rows,r.num≠M.made+1:=fun r hr e=>by have:=I.k6 r hr;lia
 have live:∀ {n},(n=0∨∃ r∈M.rows,r.num=n)->ak (M.rows++[⟨M.made+1,vs,0⟩]) n=ak M.rows n:=fun h=>Uu I (Nat.succ_pos _) h
 have nd:((M.rows++[(⟨M.made+1,vs,0⟩:aq)]).map (·.num)).Nodup:=by
  rw [List.map_append,List.nodup_append]
  refine ⟨I.R.nd,by simp,?_⟩
  intro a ha b hb e
  simp at hb
  (refine au ?_ (List.mem_map.mp ha);intro r hr e')
  exact fresh r hr (by rw [e',e,hb])
 have zA:ak (M.rows++[⟨M.made+1,vs,0⟩]) (M.made+1)=M.top:=by
  have h:(M.rows++[(⟨M.made+1,vs,0⟩:aq)])[M.rows.length]?=some ⟨M.made+1,vs,0⟩:=by simp
  have:=gN nd h
  rw [this,I.top]
  congr 2
  unfold bF
  rw [List.take_append_of_le_length (Nat.le_refl _)]
 have xn:=I.b2
 have uu:=I.b1
 have Uw:∀ r∈M.rows,∀ v∈r.slots,∀ n∈bU v,ak (M.rows++[⟨M.made+1,vs,0⟩]) n=ak M.rows n:=fun r hr v hv n hn=>live ((I.slots r hr v hv).nums n hn)
 have sub:∀ r∈M.rows,∃ r'∈M.rows++[(⟨M.made+1,vs,0⟩:aq)],r'.num=r.num:=fun r hr=>(aB r (List.mem_append_left _ hr) rfl)
 have Ux:bF (M.rows++[(⟨M.made+1,vs,0⟩:aq)]) (M.rows++[(⟨M.made+1,vs,0⟩:aq)]).length=bF M.rows M.rows.length+max 3 (2+vs.length):=by
  unfold bF;rw [List.take_length,List.take_length,List.map_append,List.sum_append];simp [bw]
 refine ⟨I.iH,⟨?_,nd,?_,?_,?_⟩,?_,?_,?_,?_,?_,rfl,?_,?_,?_,?_,I.bv,?_,?_,?_,?_,?_,?_,?_,cG,I.bits⟩
 ·show M.rl++[M.made+1]=_
  rw [I.R.rl];simp [m5]
 ·intro r hr
  rcases List.mem_append.mp hr with h | h
  ·exact I.R.pos r h
  ·simp at h;subst h;exact Nat.succ_pos _
 ·show (M.rows++[_]).length<=_
  have:=I.b5
  simp;lia
 ·intro r hr
  rcases List.mem_append.mp hr with h | h
  ·exact I.R.sl r h
  ·simp at h;subst h;exact hl
 ·intro r hr
  rcases List.mem_append.mp hr with h | h
  ·exact I.lV r h
  ·simp at h;subst h;exact Nat.zero_le _
 ·show (M.rows++[_]).Pairwise _
  rw [List.pairwise_append]
  refine ⟨I.gens,by simp,?_⟩
  intro a ha b hb
  simp at hb;subst hb;exact Nat.zero_le _
 ·intro r hr v fU
  rcases List.mem_append.mp hr with h | h
  ·exact (I.slots r h v fU).more (Nat.le_refl _) sub
  ·simp at h;subst h;exact (hv v fU).more (by decide) sub
 ·intro v fU
  rcases List.mem_append.mp fU with h | h
  ·have:=I.roots v h
   induction v using Vl.casesOn with
   | bQ n off p=>(revert this;refine bO ?_;intro r a b c);exact (ff r (List.mem_append_left _ a) b c)
   | dat c=>exact dy.more this (Nat.le_refl _) sub
   | ref n=>exact dy.more this (Nat.le_refl _) sub
   | str a b=>exact dy.more this (Nat.le_refl _) sub
  ·simp at h;subst h
   exact ⟨fun n hn=>by simp [bU] at hn;subst hn;exact .inr (aB ⟨M.made+1,vs,0⟩ (by simp [m5]) rfl),trivial,by simp [ci]⟩
 ·intro r hr
  rcases List.mem_append.mp hr with h | h
  ·have:=I.k6 r h;show _<=M.made+1;lia
  ·simp at h;subst h;exact Nat.le_refl _
 ·show M.ac++[eE M _]=dz (ak (M.rows++[_])) 0 (M.rows++[_])
  rw [DJ,Kl Uw,I.ac]
  congr 1
  simp only [dz,eE,List.cons.injEq,and_true,Th.mk.injEq,I.hmade,true_and]
  refine ⟨?_,?_,by simp [bw]⟩
  ·rw [I.top];simp
  ·exact List.map_congr_left fun v fU=>uz fun n hn=>(live ((hv v fU).nums n hn)).symm
 ·show M.tl++[M.hmade+1]=_
  rw [I.tl,I.hmade];simp [m5]
 ·show M.idx++[(M.top,M.hmade+1)]=(M.ac++[eE M _]).map _
  rw [I.idx];simp [eE]
 ·show M.top+_=16+((bF (M.rows++[(⟨M.made+1,vs,0⟩:aq)]) (M.rows++[(⟨M.made+1,vs,0⟩:aq)]).length:Nat):Int)
  rw [Ux,I.top]
  simp;lia
 ·show M.hmade+1=M.made+1
  rw [I.hmade]
 ·show M.cells++[Pv.ref M.top]=(M.roots++[Vl.ref (M.made+1)]).map (sv (ak (M.rows++[_])))
  rw [List.map_append,I.cells]
  congr 1
  ·exact List.map_congr_left fun v fU=>(uz fun n hn=>live (xu (I.roots v fU) n hn)).symm
  ·simp [sv,zA]
 ·intro r hr i v dN n hn r' dP lW aS
  rcases List.mem_append.mp hr with h | h
  ·rcases List.mem_append.mp dP with h' | h'
   ·have:=I.qt r h i v dN n hn r' h' lW aS
    show cP (ak (M.rows++[_]) r.num) i M.bits∈M.cards
    rw [live (.inr (aB r h rfl))];exact this
   ·exfalso
    simp at h';subst h'
    have hm:n∈bU v:=by
     clear dN hr aS
     revert hn
     induction v with
     | dat c=>simp [a0]
     | ref k=>simp only [a0,bU];split <;> simp
     | str a b Uy Uz=>simp only [a0,bU,List.mem_append];exact fun h=>h.imp Uy Uz
     | bQ k off p=>simp only [a0,bU];split <;> simp
    have:=(I.slots r h v (List.mem_of_getElem? dN)).nums n hm
    rcases this with e | ⟨u,hu,e⟩
    ·rw [e] at lW;exact (noConfusion_of_Nat Nat.ctorIdx lW).elim
    ·exact fresh u hu (by rw [e,<- lW])
  ·simp at h;subst h;exact absurd aS (Nat.not_lt_zero _)
 ·show (M.rows++[_]).length<=M.made+1
  simp;exact uu
 ·show M.made+1<=d'
  lia
 ·show (M.roots++[_]).length<=d'
  have:=I.b3
  simp;lia
 ·show M.cards.length<=4*d'
  have:=I.b4
  lia
section
variable {C:Cx} {M M':Mo} {pos pos':Tg->Nat} {σ V:AH} {Q:AV->AH->Prop}
noncomputable def gv (pos:Tg->Nat) (s r rs:Nat):Tg->Nat:=cn (cn pos (.row s) r) (.cb s) rs
theorem oC {s r rs:Nat} {t:Tg} (h1:t≠.row s) (h2:t≠.cb s):gv pos s r rs t=pos t:=by unfold gv;exact U (ft h2 ..) (U (ft h1 ..) rfl)
theorem UA {s r rs:Nat}:gv pos s r rs (.row s)=r:=by unfold gv;exact U (ft (by simp) ..) (U iW rfl)
theorem UB {s r rs:Nat}:gv pos s r rs (.cb s)=rs:=by unfold gv;exact U iW rfl
theorem UC {s r rs:Nat} (h1:∀ n∈M.rl,n≠s) (h2:∀ l,M.lay=some l->∀ x∈l.2,x.1≠s) (h3:∀ r∈M.rows,r.num≠s):∀ t,aO M (gv pos s r rs) t=aO M pos t:=by
 intro t
 induction t with
 | rows =>
  (delta aO;dsimp only)
  congr 2
  exact List.map_congr_left fun n hn=>by exact U (oC (by intro e;(revert e;refine ij Tg.row.inj ?_;rintro rfl);exact h1 _ hn rfl) (by simp) ..) rfl
 | words =>
  (delta aO;dsimp only)
  cases e:M.lay with
  | none=>rfl
  | some l =>
   simp only [Option.map_some]
   congr 2
   exact List.map_congr_left fun x hx=>by exact U (oC (fun e'=>h2 l e x hx (Tg.row.inj e')) (by simp) ..) rfl
 | row n =>
  (delta aO;dsimp only)
  induction e:M.rows.find? (fun t=>decide (t.num=n)) with
  | none=>rfl
  | some u =>
   have hu:u.num=n:=by simpa using List.find?_some e
   have:=h3 u (List.mem_of_find?_eq_some e)
   simp only [Option.map_some]
   exact U (oC (t:=.cb n) (by simp) (fun e=>this (hu.trans (Tg.cb.inj e))) ..) rfl
 | w=>(delta aO;dsimp only);rfl
 | _=>rfl
noncomputable def jt (M:Mo) (s:Nat) (vs:List Vl):Mo:={ M with rows:=M.rows++[⟨s,vs,0⟩],rl:=M.rl++[s] }
theorem UD (W:Wd M pos σ) {s r rs:Nat} {vs:List Vl} (h1:∀ n∈M.rl,n≠s) (h2:∀ l,M.lay=some l->∀ x∈l.2,x.1≠s) (h3:∀ r∈M.rows,r.num≠s)
  (hr:σ[r]?=some (.list [.int s,.ref rs,.int 0])) (hs:σ[rs]?=some (.list (vs.map lv))) (or:cm M pos r) (os:cm M pos rs) (bu:r≠rs) :
  Wd (jt M s vs) (gv pos s r rs) (σ.set (pos .rows) (.list (M.rl.map (fun n=>AV.ref (pos (.row n)))++[.ref r]))) /\
  (∀ {M0 qv aX},aL M0 qv aX M pos σ->aX[r]?=none->aX[rs]?=none->aL M0 qv aX (jt M s vs) (gv pos s r rs) (σ.set (pos .rows) (.list (M.rl.map (fun n=>AV.ref (pos (.row n)))++[.ref r])))):=by
 have nO:M.rows.find? (fun t=>decide (t.num=s))=none:=List.find?_eq_none.mpr (fun t ht=>by simpa using h3 t ht)
 have UE:aO M pos (.row s)=none:=by (delta aO;dsimp only);refine U nO ?_;rfl
 have UF:aO M pos (.cb s)=none:=by (delta aO;dsimp only);refine U nO ?_;rfl
 have live:∀ t,aO M pos t≠none->gv pos s r rs t=pos t:=fun t ht=>oC (by rintro rfl;exact ht UE) (by rintro rfl;exact ht UF)
 have uB:=UC (pos:=pos) (r:=r) (rs:=rs) h1 h2 h3
 have aE:=W.CQ (pos':=gv pos s r rs) uB live
 have Km:∀ {x},cm M pos x->cm M (gv pos s r rs) x:=fun {x} h t ht=>by
  rw [uB] at ht
  refine U (live t ht ..) ?_;exact h t ht
 have i5:∀ n,n≠s->(M.rows++[(⟨s,vs,0⟩:aq)]).find? (fun t=>decide (t.num=n))=M.rows.find? (fun t=>decide (t.num=n)):=fun n hn=>by
  refine U List.find?_append ?_
  have:([(⟨s,vs,0⟩:aq)]).find? (fun t=>decide (t.num=n))=none:=by simp;lia
  exact U this (U Option.or_none rfl)
 have Ko:(M.rows++[(⟨s,vs,0⟩:aq)]).find? (fun t=>decide (t.num=s))=some ⟨s,vs,0⟩:=by
  refine U List.find?_append (U nO ?_);simp
 have kr:gv pos s r rs (.row s)=r:=UA
 have ks:gv pos s r rs (.cb s)=rs:=UB
 obtain ⟨bc,av⟩:=aE.JS (M':={ M with rows:=M.rows++[⟨s,vs,0⟩] }) (t:=.row s) (u:=.cb s) (by simp)
  (o:=.list [.int s,.ref rs,.int 0]) (o':=.list (vs.map lv))
  (by (delta aO;dsimp only);refine U Ko (U ks ?_);rfl) (by (delta aO;dsimp only);refine U Ko ?_;rfl)
  (fun t' ha hb=>by
   induction t' with
   | row n=>(delta aO;dsimp only);exact U (i5 n (by intro e;exact ha (by rw [e])) ..) rfl
   | cb n=>(delta aO;dsimp only);exact U (i5 n (by intro e;exact hb (by rw [e])) ..) rfl
   | _=>rfl)
  (by refine U kr ?_;exact hr) (by refine U ks ?_;exact hs) (by refine U kr ?_;exact Km or) (by refine U ks ?_;exact Km os) (by refine U kr (U ks ?_);exact bu)
 obtain ⟨bg,aV⟩:=bc.upd (M':=jt M s vs) (t:=.rows) (o':=.list (M.rl.map (fun n=>AV.ref (pos (.row n)))++[.ref r])) rfl
  (by
   (delta aO;simp only [jt]);refine U List.map_append (U List.map_singleton (U kr ?_))
   congr 3
   exact List.map_congr_left fun n hn=>by exact U (oC (by intro e;(revert e;refine ij Tg.row.inj ?_;rintro rfl);exact h1 _ hn rfl) (by simp) ..) rfl)
  (fun t' ht=>by induction t' <;> first | rfl | exact absurd rfl ht)
 have kR:gv pos s r rs .rows=pos .rows:=oC (by simp) (by simp)
 rw [kR] at bg aV
 have nR:∀ {x o},cm M pos x->σ[x]?=some o->(σ.set (pos .rows) (.list (M.rl.map (fun n=>AV.ref (pos (.row n)))++[.ref r])))[x]?=some o:=fun {x o} hx e=>by
  refine U (gn (hx .rows (by (delta aO;simp))) ..) ?_;exact e
 refine ⟨bg,fun {M0 qv aX} S a b=>⟨fun x o hx e=>nR (S.out hx e) (S.keep x o hx e),fun t ht=>?_⟩⟩
 by_cases e1:t=.row s
 ·right;refine U e1 (U kr ?_);exact a
 by_cases e2:t=.cb s
 ·right;refine U e2 (U ks ?_);exact b
 have mM:aO M pos t≠none:=by
  intro hn
  refine ht ?_
  induction t with
  | row n =>
   have jm:n≠s:=fun e=>e1 (by exact U e rfl)
   simp only [aO,jt] at hn ⊢
   refine U (i5 n jm ..) ?_
   induction e:M.rows.find? (fun t=>decide (t.num=n)) with
   | none=>rfl
   | some u=>rw [e] at hn;exact dQ hn
  | cb n =>
   have jm:n≠s:=fun e=>e2 (by exact U e rfl)
   simp only [aO,jt] at hn ⊢
   refine U (i5 n jm ..) ?_
   induction e:M.rows.find? (fun t=>decide (t.num=n)) with
   | none=>rfl
   | some u=>rw [e] at hn;exact dQ hn
  | asked=>simp only [aO,jt] at hn ⊢;exact hn
  | addrs=>simp only [aO,jt] at hn ⊢;exact hn
  | words =>
   simp only [aO,jt] at hn ⊢
   cases e:M.lay with
   | none=>rfl
   | some l=>rw [e] at hn;exact dQ hn
  | aR n =>
   simp only [aO,jt] at hn ⊢
   induction e:M.ac.find? (fun r=>decide (r.af=n)) with
   | none=>rfl
   | some u=>rw [e] at hn;exact dQ hn
  | bj n=>simp only [aO,jt] at hn ⊢;exact hn
  | _=>(delta aO at hn;simp at hn)
 refine U (oC e1 e2 ..) ?_
 exact S.new t mM
theorem Yi (S:aL M pos σ M' pos' V) (W':Wd M' pos' V) (h:∀ t,aO M pos t≠none->aO M' pos' t≠none/\pos' t=pos t):σ.length<=V.length:=by
 refine Nat.le_of_not_lt fun aS=>?_
 have e:σ[V.length]?=some σ[V.length]:=List.getElem?_eq_getElem aS
 have hn:V[V.length]?=none:=by simp
 by_cases ho:cm M pos V.length
 ·have:=S.keep _ _ ho e
  rw [hn] at this;exact aZ this
 ·unfold cm at ho
  simp only [Classical.not_forall] at ho
  obtain ⟨t,ht,hp⟩:=ho
  have hp:pos t=V.length:=Classical.not_not.mp hp
  (refine ay ?_ (h t ht);intro h1 h2)
  induction e':aO M' pos' t with
  | none=>exact h1 e'
  | some o =>
   have:=W'.get t o e'
   rw [h2,hp,hn] at this;exact aZ this
end
section
variable {C:Cx} {M M':Mo} {pos pos':Tg->Nat} {σ V:AH} {Q:AV->AH->Prop}
structure Nx (M M':Mo) (k:Nat):Prop where
 ns:M'.ns=M.ns
 asked:M'.asked=M.asked
 k7:M.d<=M'.d
 fN:M'.d<=M.d+k
 j6:M.roots.length<=M'.roots.length
noncomputable def Fx (pos pos':Tg->Nat):Prop:=∀ t∈[Tg.nums,.d,.w,.asked,.heap,.ph],pos' t=pos t
noncomputable def Mo.oE (M:Mo) (l:List Vl):Mo:={ M with roots:=l }
noncomputable def Mo.oF (M:Mo) (l:List Pv):Mo:={ M with cells:=l }
theorem DK (W:Wd M pos σ) {l:List Vl} {o:AO} (e:o=.list (l.map lv)):Wd (M.oE l) pos (σ.set (pos .roots) o)/\aL M pos σ (M.oE l) pos (σ.set (pos .roots) o):=by
 subst e
 exact W.upd (t:=.roots) rfl rfl fun t' ht=>by induction t' <;> first | rfl | exact absurd rfl ht
theorem DL (W:Wd M pos σ) {l:List Pv} {o:AO} (e:o=.list (l.map pv)):Wd (M.oF l) pos (σ.set (pos .cells) o)/\aL M pos σ (M.oF l) pos (σ.set (pos .cells) o):=by
 subst e
 exact W.upd (t:=.cells) rfl rfl fun t' ht=>by induction t' <;> first | rfl | exact absurd rfl ht
theorem UG (W:Wd M pos σ) {v:Vl}:Wd (M.oE (M.roots++[v])) pos (σ.set (pos .roots) (.list (M.roots.map lv++[lv v])))/\aL M pos σ (M.oE (M.roots++[v])) pos (σ.set (pos .roots) (.list (M.roots.map lv++[lv v]))) :=
 DK W (by refine U List.map_append ?_;rfl)
theorem UH (W:Wd M pos σ) {v:Pv}:Wd (M.oF (M.cells++[v])) pos (σ.set (pos .cells) (.list (M.cells.map pv++[pv v])))/\aL M pos σ (M.oF (M.cells++[v])) pos (σ.set (pos .cells) (.list (M.cells.map pv++[pv v]))) :=
 DL W (by refine U List.map_append ?_;rfl)
theorem r3 {l:List aq} (hn:(l.map (·.num)).Nodup) (hp:∀ r∈l,0<r.num) {n:Nat} (h:n=0∨∃ r∈l,r.num=n) :
  bL ((fM l).1.map fun y=>((y.1:Int),AV.int y.2)) n=some (.int (ak l n)):=by
 refine U (uv ..) ?_
 unfold bL
 by_cases h0:n=0
 ·subst h0;refine U (m0 hp ..) ?_;rfl
 ·rcases h with rfl | ⟨r,hr,rfl⟩
  ·exact absurd rfl h0
  ·(refine aM ?_ (List.mem_iff_getElem?.mp hr);intro i hi)
   have hm:(r.num,16+((0+bF l i:Nat):Int))∈ey 0 l:=List.mem_of_getElem? (i:=i) (by refine U DC (U hi ?_);rfl)
   have hf:=DE (by refine U ux ?_;exact hn) hm
   unfold ak
   refine U hf ?_
   simp only [List.map_cons]
   refine U List.find?_cons ?_
   have:¬ ((0:Nat):Int)=((r.num:Nat):Int):=by have:=hp r hr;lia
   simp only [this,decide_false]
   refine U List.find?_map ?_
   have e:((fun p:Int × AV=>decide (p.1=(r.num:Int))) ∘ fun y:Nat × Int=>((y.1:Int),AV.int y.2))=fun y:Nat × Int=>decide (y.1=r.num):=by
    funext y;simp only [Function.comp];congr 1;simp;lia
   refine U e (U hf ?_);rfl
theorem Inv.draw (I:Inv M) {d':Nat} {c':Int} (h:M.d<=d') (h':d'<=10000):Inv (M.dc d' c') :=
 ⟨I.iH,⟨I.R.rl,I.R.nd,I.R.pos,I.R.len,I.R.sl⟩,I.lV,I.gens,fun r hr v hv=>⟨(I.slots r hr v hv).nums,(I.slots r hr v hv).np,(I.slots r hr v hv).dp⟩,
  fun v hv=>by
   have:=I.roots v hv
   induction v using Vl.casesOn with
   | bQ n off p=>exact this
   | dat c=>exact ⟨this.nums,this.np,this.dp⟩
   | ref n=>exact ⟨this.nums,this.np,this.dp⟩
   | str a b=>exact ⟨this.nums,this.np,this.dp⟩,
  I.k6,I.lay,I.ac,I.tl,I.idx,I.top,I.bv,I.hmade,I.cells,I.qt,I.b1,Nat.le_trans I.b2 h,Nat.le_trans I.b3 h,Nat.le_trans I.b4 (Nat.mul_le_mul_left 4 h),h',I.bits⟩
theorem Inv.DM (I:Inv M):∀ t∈M.ac,t.af≠M.hmade+1/\t.addr≠M.top:=fun t ht=>by
 (refine aM ?_ (List.mem_iff_getElem?.mp ht);intro i hi)
 (refine au ?_ (I.uy hi);rintro r hr rfl)
 have h1:=I.k6 r (List.mem_of_getElem? hr)
 have h2:=rY hr (List.getElem?_eq_some_iff.mp hr).1
 have h3:=qr r
 show r.num≠M.hmade+1/\ak M.rows r.num≠M.top
 refine U I.hmade (U (gN I.R.nd hr ..) (U I.top ?_))
 lia
theorem Inv.UI (I:Inv M):∀ n∈M.tl,n≠M.hmade+1:=fun n hn=>by
 rw [I.tl] at hn
 (refine au ?_ (List.mem_map.mp hn);rintro r hr rfl)
 have:=I.k6 r hr
 refine U I.hmade ?_;lia
theorem Inv.UJ (I:Inv M):∀ x∈M.idx,x.2≠M.hmade+1/\x.1≠M.top:=fun x hx=>by
 rw [I.idx] at hx
 (refine au ?_ (List.mem_map.mp hx);rintro t ht rfl)
 exact I.DM t ht
theorem Inv.r4 (I:Inv M):M.rows.length<=10000/\M.tl.length<=10000/\M.idx.length<=10000/\M.roots.length<=10000/\M.cells.length<=10000/\M.rl.length<=10000:=by
 have:=I.b1;have:=I.b2;have:=I.b5;have:=I.b3
 refine U I.tl (U I.idx (U I.ac (U I.cells (U I.R.rl ?_))))
 simp only [List.length_map,uw]
 lia
theorem UK {l:List aq} {x:Nat × Nat} (h:x∈layW l):∃ r∈l,r.num=x.1/\x.2<bw r:=by
 unfold layW at h
 (refine au ?_ (List.mem_flatMap.mp h);intro r hr h)
 (refine au ?_ (List.mem_map.mp h);rintro k hk rfl)
 exact (ff r hr rfl (by simpa using hk))
theorem UL (I:Inv M) {vs:List Vl} (nd:((M.rows++[(⟨M.made+1,vs,0⟩:aq)]).map (·.num)).Nodup):ak (M.rows++[⟨M.made+1,vs,0⟩]) (M.made+1)=M.top:=by
 have h:(M.rows++[(⟨M.made+1,vs,0⟩:aq)])[M.rows.length]?=some ⟨M.made+1,vs,0⟩:=by simp
 have:=gN nd h
 refine U this (U I.top ?_)
 congr 2
 unfold bF
 exact U (List.take_append_of_le_length (Nat.le_refl _) ..) rfl
theorem UM {ps:List Pv} {k:Nat} {p:Tg->Nat} {t:Tg} (ht:aO M pos t≠none):aO ((mX M ps).oj k) p t≠none:=by
 have i5:∀ n,M.ac.find? (fun t=>decide (t.af=n))≠none->(M.ac++[eE M ps]).find? (fun t=>decide (t.af=n))≠none:=fun n h=>by
  refine U List.find?_append ?_
  induction e:M.ac.find? (fun t=>decide (t.af=n)) with
  | none=>exact absurd e h
  | some u=>exact Option.some_ne_none _
 have mp:∀ {α β:Type} {f:α->β} {g:α->β} {o:Option α},o.map f≠none->o.map g≠none:=fun {α β f g o} h=>by induction o <;> first | exact absurd rfl h | exact Option.some_ne_none _
 have mn:∀ {α β:Type} {f:α->β} {o:Option α},o.map f≠none->o≠none:=fun {α β f o} h=>by induction o <;> first | exact absurd rfl h | exact Option.some_ne_none _
 have nm:∀ {α β:Type} {f:α->β} {o:Option α},o≠none->o.map f≠none:=fun {α β f o} h=>by induction o <;> first | exact absurd rfl h | exact Option.some_ne_none _
 induction t with
 | aR n=>exact nm (f:=fun u:Th=>eO u.addr 12 (p (.bj n)) u.gen u.size u.af) (i5 n (mn (f:=fun u:Th=>eO u.addr 12 (pos (.bj n)) u.gen u.size u.af) ht))
 | bj n=>exact nm (f:=fun u:Th=>AO.list (u.slots.map pv)) (i5 n (mn (f:=fun u:Th=>AO.list (u.slots.map pv)) ht))
 | row n=>exact mp (f:=fun u:aq=>AO.list [.int u.num,.ref (pos (.cb n)),.int u.gen]) (g:=fun u:aq=>AO.list [.int u.num,.ref (p (.cb n)),.int u.gen]) ht
 | cb n=>exact ht
 | asked=>exact ht
 | addrs=>exact ht
 | words=>exact mp (f:=fun l:List (Nat × Int) × List (Nat × Nat)=>AO.list (l.2.map fun x:Nat × Nat=>AV.tup [.ref (pos (.row x.1)),.int (x.2:Int)])) (g:=fun l:List (Nat × Int) × List (Nat × Nat)=>AO.list (l.2.map fun x:Nat × Nat=>AV.tup [.ref (p (.row x.1)),.int (x.2:Int)])) ht
 | _=>exact Option.some_ne_none _
theorem Inv.UN (I:Inv M):(∀ r∈M.rows,r.num≠M.made+1)/\(∀ n∈M.rl,n≠M.made+1)/\∀ l,M.lay=some l->∀ x∈l.2,x.1≠M.made+1:=by
 have uC:∀ r∈M.rows,r.num≠M.made+1:=fun r hr=>by have:=I.k6 r hr;lia
 refine ⟨uC,fun n hn=>?_,fun l hl x hx=>?_⟩
 ·rw [I.R.rl] at hn
  (refine au ?_ (List.mem_map.mp hn);rintro r hr rfl)
  exact uC r hr
 ·rw [I.lay,uv] at hl
  (revert hl;refine si ?_;rintro rfl)
  (refine bO ?_ (UK hx);intro r hr e _)
  refine aT e ?_
  exact uC r hr
noncomputable def uD (M:Mo) (vs:List Vl):Mo:=jt ((mX M (vs.map (sv (ak M.rows)))).oj (M.made+1)) (M.made+1) vs
noncomputable def uE (M:Mo) (vs:List Vl):Mo:=(uD M vs).dZ (fM (uD M vs).rows)
noncomputable def uF (M:Mo) (vs:List Vl):Mo:=(uE M vs).oE ((uE M vs).roots++[.ref (M.made+1)])
noncomputable def xw (M:Mo) (vs:List Vl):Mo:=(uF M vs).oF ((uF M vs).cells++[.ref M.top])
theorem UO (M:Mo) (vs:List Vl):xw M vs=m5 M vs:=by
 unfold xw uF uE uD Mo.oF Mo.oE Mo.dZ jt Mo.oj mX Mo.j0 m5
 rfl
theorem UP (G:Good C) (W:Wd M pos σ) (I:Inv M) {vs:List Vl} (hv:∀ v∈vs,dy M 2 v) (hl:vs.length<=3) (hd:M.d<=10000) {ρ:Loc} (e1:ρ .aJ=some (.ref (pos .w))) (e2:ρ .di=some (.ref σ.length))
  (hR:gL (m5 M vs)) (hA:ak (M.rows++[⟨M.made+1,vs,0⟩]) (M.made+1)=M.top)
  (q:∀ V pos',Wd (m5 M vs) pos' V->aL M pos σ (m5 M vs) pos' V->Fx pos pos'->Q (.bool true) V) :
  ax C 3 (tH.drop 1) (fun Y V=>Q .none V) Q ρ (σ++[.list (vs.map lv)]):=by
 delta tH
 change ax C 3 [_,_,_,_,_,_,_] _ _ _ _
 have bg:=W.app (.list (vs.map lv))
 have lU:(σ++[AO.list (vs.map lv)])[σ.length]?=some (.list (vs.map lv)):=gl
 have xx:cm M pos σ.length:=W.fresh (Nat.le_refl _)
 have Kp:σ[σ.length]?=none:=cL
 have hM:Gr σ (σ++[.list (vs.map lv)]):=Gr.app _ _
 have g6:=I.lay
 generalize σ++[.list (vs.map lv)]=bn at bg lU hM ⊢
 generalize UQ:σ.length=rs at lU xx Kp e2
 have ha:bn[pos .addrs]?=some (.an ((fM M.rows).1.map fun y=>((y.1:Int),AV.int y.2))):=bg.get .addrs _ (congrArg (Option.map fun l:List (Nat × Int) × List (Nat × Nat)=>AO.an (l.1.map fun y:Nat × Int=>((y.1:Int),AV.int y.2))) g6)
 have UR:fT (wF M pos) .eH=some (.ref (pos .addrs)):=by unfold wF;refine U g6 ?_;rfl
 wtm_at "w"
 refine rG (as:=vs) (g:=lv) (fun i acc V=>V=bn/\acc=(vs.take i).map fun v=>pv (sv (ak M.rows) v)) lU ⟨rfl,rfl⟩ ?_ ?_
 ·(intro i v acc ar K i9;refine ay ?_;rintro rfl rfl;intro kk)
  have jp:=List.mem_of_getElem? i9
  wtm_at "w"
  refine FW.up (wT G (oq bg) UR ha v (fun n hn=>r3 I.R.nd I.R.pos ((hv v jp).nums n hn)) ?_) (by have:=(hv v jp).dp;lia)
  wtm_at "w"
  exact kk (some _) _ lU (by have:((vs.take i).map fun v=>pv (sv (ak M.rows) v)).length<=3:=w9 hl;refine U List.length_append ?_;show _+1<=_;lia) ⟨rfl,(uh i9).symm⟩
 ·(intro acc ar;refine ay ?_;rintro rfl rfl)
  refine U List.take_length (U (show (vs.map fun v=>pv (sv (ak M.rows) v))=(vs.map (sv (ak M.rows))).map pv by rw [List.map_map];rfl) ?_)
  (refine qF ?_ (I.r4);intro b1 b2 b3 b4 b5 b6)
  have bT:=bg.app (.list ((vs.map (sv (ak M.rows))).map pv))
  have kW:Gr ar (ar++[.list ((vs.map (sv (ak M.rows))).map pv)]):=Gr.app _ _
  wtm_at "w"
  refine FW.up (T5 G bT (rs:=ar.length) (ps:=vs.map (sv (ak M.rows))) I.UI I.UJ (fun t ht=>(I.DM t ht).1) (by lia) (by lia) gl (bg.fresh (Nat.le_refl _)) fun dY p cR dk kf kp kt ks=>?_) (by decide)
  have S:aL M pos σ (mX M (vs.map (sv (ak M.rows)))) p dY:=dk σ (hM.trans kW) hM.len
  have DN:=kf _ _ xx (kW _ _ lU)
  have DO:=(dk ar kW cL).out xx lU
  clear kf dk kW bT bg ha lU xx kt ks
  have kw:=kp .w (fun h=>nomatch h) (fun h=>nomatch h)
  (refine ay ?_ (Ub cR (c:=M.made+1));intro cJ dm)
  have ow:=oq cR
  rw [<- kw] at e1
  wtm_at "k";wtm_at "s"
  have xy:=dm.keep _ _ DO DN
  have DP:=dm.out DO DN
  replace S:=S.trans dm
  clear dm cR ow DN DO
  change ax C 3 _ _ _ _ (dY.set (p .w) (.bl (bp (wF (mX M (vs.map (sv (ak M.rows)))) p) .dg (.int ((M.made+1:Nat):Int)))))
  generalize dY.set (p .w) _=cU at cJ S xy DP ⊢
  have DQ:∀ t∈M.ac,t.af≠M.hmade+1:=fun t ht=>(I.DM t ht).1
  have Kq:σ.length<=cU.length:=Yi S cJ fun t ht=>⟨UM ht,kp t (ut DQ ht).1 (ut DQ ht).2⟩
  have Kr:cU[p .rows]?=some (.list (M.rl.map fun n=>AV.ref (p (.row n)))):=cJ.get .rows _ rfl
  have Ks:(M.rl.map fun n=>AV.ref (p (.row n))).length<1000000:=by refine U (List.length_map ..) ?_;lia
  have gK:=cJ.app (.list [.int ((M.made+1:Nat):Int),.ref rs,.int 0])
  have US:=ga (o':=.list [.int ((M.made+1:Nat):Int),.ref rs,.int 0]) Kr
  (refine bS ?_ (I.UN);intro uC UT UU)
  (refine ay ?_ (UD gK (s:=M.made+1) (r:=cU.length) (rs:=rs) (vs:=vs) UT UU uC gl (ga xy) (cJ.fresh (Nat.le_refl _)) DP (by have:=jN xy;lia));intro fA kU)
  replace S:=kU (S.trans (aL.gr (Gr.app cU _))) (mJ Kq) Kp
  clear kU xy DP
  have am:gR cU (.ref (p .w)) .dg=some (.int ((M.made+1:Nat):Int)):=oz cJ rfl
  wtm_at "w"
  replace fA:Wd (uD M vs) (gv p (M.made+1) cU.length rs) ((cU++[AO.list [.int ((M.made+1:Nat):Int),.ref rs,.int 0]]).set (p .rows) (.list (M.rl.map (fun n=>.ref (p (.row n)))++[.ref cU.length]))):=fA
  replace S:aL M pos σ (uD M vs) (gv p (M.made+1) cU.length rs) ((cU++[AO.list [.int ((M.made+1:Nat):Int),.ref rs,.int 0]]).set (p .rows) (.list (M.rl.map (fun n=>.ref (p (.row n)))++[.ref cU.length]))):=S
  have k8:∀ t,t≠.row (M.made+1)->t≠.cb (M.made+1)->gv p (M.made+1) cU.length rs t=p t:=fun t=>oC
  generalize (cU++[AO.list [.int ((M.made+1:Nat):Int),.ref rs,.int 0]]).set (p .rows) _=xh at fA S ⊢
  generalize gv p (M.made+1) cU.length rs=UV at fA S k8
  clear am cJ gK Kr US Kq UQ
  have Kt:=k8 .w (fun h=>nomatch h) (fun h=>nomatch h)
  refine aT Kt ?_
  refine FW.up (DB G fA ⟨hR.rl,hR.nd,hR.pos,hR.len,hR.sl⟩ fun jY eF i7 uk k9=>?_) (by decide)
  replace i7:Wd (uE M vs) eF jY:=i7
  replace S:aL M pos σ (uE M vs) eF jY:=S.trans uk
  clear uk fA
  have UW:=k9 .w (fun h=>nomatch h) (fun h=>nomatch h)
  have UX:eF (.aR (M.hmade+1))=p (.aR (M.hmade+1)):=(k9 (.aR (M.hmade+1)) (fun h=>nomatch h) (fun h=>nomatch h)).trans (k8 (.aR (M.hmade+1)) (fun h=>nomatch h) (fun h=>nomatch h))
  rw [<- Kt,<- UW] at e1
  refine aT UX ?_
  have i5:=xl (ps:=vs.map (sv (ak M.rows))) DQ
  have UY:gR jY (.ref (eF .w)) .dg=some (.int ((M.made+1:Nat):Int)):=oz i7 rfl
  have UZ:jY[eF .roots]?=some (.list (M.roots.map lv)):=i7.get .roots _ rfl
  have acb:(M.roots.map lv).length<1000000:=by refine U (List.length_map ..) ?_;lia
  (refine ay ?_ (UG i7 (v:=.ref (M.made+1)));intro r5 Ku)
  replace S:=S.trans Ku
  wtm_at "k";wtm_at "x";wtm_at "x";wtm_at "k"
  change ax C 3 _ _ _ _ (jY.set (eF .roots) (.list (M.roots.map lv++[lv (.ref (M.made+1))])))
  change Wd (uF M vs) _ (jY.set (eF .roots) (.list (M.roots.map lv++[lv (.ref (M.made+1))]))) at r5
  change aL _ _ _ (uF M vs) _ (jY.set (eF .roots) (.list (M.roots.map lv++[lv (.ref (M.made+1))]))) at S
  clear Ku i7 UY UZ
  generalize jY.set (eF .roots) _=r6 at r5 S ⊢
  have U0:gD r6 (.ref (eF (.aR (M.hmade+1)))) .bM=some (.int M.top):=lK (r5.get (.aR (M.hmade+1)) _ (congrArg (Option.map fun u:Th=>eO u.addr 12 (eF (.bj (M.hmade+1))) u.gen u.size u.af) i5)) rfl
  have hC:r6[eF .cells]?=some (.list (M.cells.map pv)):=r5.get .cells _ rfl
  have DR:(M.cells.map pv).length<1000000:=by refine U (List.length_map ..) ?_;lia
  (refine ay ?_ (UH r5 (v:=.ref M.top));intro oG Kv)
  replace S:=S.trans Kv
  wtm_at "x";wtm_at "x";wtm_at "k"
  change ax C 3 _ _ _ _ (r6.set (eF .cells) (.list (M.cells.map pv++[pv (.ref M.top)])))
  change Wd (xw M vs) _ (r6.set (eF .cells) (.list (M.cells.map pv++[pv (.ref M.top)]))) at oG
  change aL _ _ _ (xw M vs) _ (r6.set (eF .cells) (.list (M.cells.map pv++[pv (.ref M.top)]))) at S
  clear Kv r5 U0 hC
  generalize r6.set (eF .cells) _=uG at oG S ⊢
  rw [UO] at oG S
  have Kw:=oG.get (.aR (M.hmade+1)) _ (congrArg (Option.map fun u:Th=>eO u.addr 12 (eF (.bj (M.hmade+1))) u.gen u.size u.af) i5)
  have ta:gD uG (.ref (eF (.aR (M.hmade+1)))) .bM=some (.int M.top):=lK Kw rfl
  have ts:gD uG (.ref (eF (.aR (M.hmade+1)))) .jz=some (.int ((M.hmade+1:Nat):Int)):=lK Kw rfl
  have am:gR uG (.ref (eF .w)) .dg=some (.int ((M.made+1:Nat):Int)):=oz oG rfl
  have aa:gR uG (.ref (eF .w)) .eH=some (.ref (eF .addrs)):=oz oG rfl
  have ha:uG[eF .addrs]?=some (.an ((fM (M.rows++[⟨M.made+1,vs,0⟩])).1.map fun y=>((y.1:Int),AV.int y.2))):=oG.get .addrs _ rfl
  have hg:bL ((fM (M.rows++[⟨M.made+1,vs,0⟩])).1.map fun y=>((y.1:Int),AV.int y.2)) ((M.made+1:Nat):Int)=some (.int M.top):=by
   rw [r3 (l:=M.rows++[⟨M.made+1,vs,0⟩]) (n:=M.made+1) hR.nd hR.pos (.inr (aB ⟨M.made+1,vs,0⟩ (List.mem_append_right _ (List.mem_singleton_self _)) rfl)),hA]
  have hm:=I.hmade
  wtm_at "w"
  refine q _ _ oG S fun t ht=>?_
  have hx:t≠.addrs/\t≠.words/\(∀ n,t≠.row n)/\(∀ n,t≠.cb n)/\(∀ n,t≠.aR n)/\∀ n,t≠.bj n:=by
   simp at ht
   rcases ht with rfl | rfl | rfl | rfl | rfl | rfl <;> simp
  exact (k9 t hx.1 hx.2.1).trans ((k8 t (hx.2.2.1 _) (hx.2.2.2.1 _)).trans (kp t (hx.2.2.2.2.1 _) (hx.2.2.2.2.2 _)))
theorem Kx (G:Good C) (W:Wd M pos σ) (I:Inv M) (hd:M.d+20<=10000)
  (q:∀ V M' pos',Inv M'->Wd M' pos' V->aL M pos σ M' pos' V->Nx M M' 20->Fx pos pos'->0<M'.roots.length->Q (.bool true) V) :
  FW C 4 .sB [.ref (pos .nums),.ref (pos .d),.ref (pos .w)] Q σ:=by
 refine bo G (b:=tH) (ps:=Cb) rfl rfl rfl rfl ?_
 delta Cb tH
 have N:iG M:=⟨I.iH.1,I.iH.2,by have:=I.b5;lia⟩
 wtm_at "w"
 refine FW.up (ia G W N (n:=4) (by decide) fun ai k aE ah hk=>?_) (by decide)
 refine RC k (fun i acc V=>∃ vs d' c',acc=vs.map lv/\Wd (M.dc d' c') pos V/\aL M pos σ (M.dc d' c') pos V/\M.d<d'/\d'<=M.d+1+5*i/\vs.length=i/\∀ v∈vs,dy M 2 v) rfl (by lia)
  (sm ([]) (M.d+1) M.count rfl aE ah (Nat.lt_succ_self _) (Nat.le_refl _) rfl (fun v h=>nomatch h)) ?_ ?_
 ·(intro i acc V K hi;refine lY ?_;rintro vs d' c' rfl bc av h1 h2 h3 h4;intro kk)
  wtm_at "w"
  refine FW.up (Ka G bc (N.dc (by lia)) I.R.dc (by show d'+10<=100000;lia) fun bn v DS U1 bg aV a1 a2 ov=>?_) (by decide)
  replace a1:d'<DS:=a1
  replace a2:DS<=d'+5:=a2
  wtm_at "w"
  refine kk (some (lv v)) bn (by refine U List.length_append (U (List.length_map ..) ?_);show _+1<=_;lia) (sm (vs++[v]) DS U1 (by refine U List.map_append ?_;rfl) bg (av.trans aV) (by lia) (by lia) (by refine U List.length_append (U h3 ?_);rfl) (fun u hu=>?_))
  rcases List.mem_append.mp hu with h | h
  ·exact h4 u h
  ·rw [List.mem_singleton] at h;subst h;exact ⟨ov.nums,ov.np,ov.dp⟩
 ·(intro acc V;refine lY ?_;rintro vs d' c' rfl bc av h1 h2 h3 h4)
  have I':=Uv I h4 (by lia) (d':=d') (c':=c') (by lia) (by lia)
  have gp:=I.draw (d':=d') (c':=c') (by lia) (by lia)
  have hA:=UL I I'.R.nd
  wtm_at "k"
  refine UP (M:=M.dc d' c') G bc gp (vs:=vs) (fun v hv=>⟨(h4 v hv).nums,(h4 v hv).np,(h4 v hv).dp⟩) (by lia) (by show d'<=10000;lia) rfl rfl I'.R hA fun ar p' W' S' hF=>?_
  exact q _ _ p' I' W' (av.trans S') ⟨rfl,rfl,by show M.d<=d';lia,by show d'<=M.d+20;lia,by show M.roots.length<=(M.roots++[_]).length;refine U List.length_append ?_;exact Nat.le_add_right _ _⟩ hF (by show 0<(M.roots++[_]).length;refine U List.length_append ?_;exact Nat.succ_pos _)
end
section
variable {C:Cx} {M M':Mo} {pos pos':Tg->Nat} {σ V:AH} {Q:AV->AH->Prop}
noncomputable def oH (M:Mo) (w:Int):Prop:=w<16∨16+((layW M.rows).length:Int)<=w
noncomputable def gw (M:Mo) (w:Int):Option (aq × Nat) :=
 if w<16 then none else match (layW M.rows)[(w - 16).toNat]? with
 | none=>none
 | some x=>match M.rows.find? (fun r=>decide (r.num=x.1)) with
  | none=>none
  | some r=>if 2<=x.2/\x.2 - 2<r.slots.length then some (r,x.2 - 2) else none
noncomputable def U2 (pos:Tg->Nat):Option (aq × Nat)->AV
 | some x=>.tup [.ref (pos (.row x.1.num)),.int x.2]
 | none=>.none
structure DT (M:Mo) (w:Int) (i:Nat) (r:aq) (off:Nat):Prop where
 row:M.rows[i]?=some r
 Ky:off<bw r
 we:w=ak M.rows r.num+off
 word:(layW M.rows)[(w - 16).toNat]?=some (r.num,off)
 lo:¬ w<16
 hi:¬ 16+((layW M.rows).length:Int)<=w
structure ju (M:Mo):Prop where
 R:gL M
 lay:M.lay=some (fM M.rows)
theorem ju.jv (I:ju M):ju M:=I
theorem Inv.jv (I:Inv M):ju M:=⟨I.R,I.lay⟩
theorem uH (I:ju M) (w:Int):oH M w∨∃ i r off,DT M w i r off:=by
 by_cases h:oH M w
 ·exact .inl h
 ·right
  unfold oH at h
  have hp:(w - 16).toNat<(layW M.rows).length:=by lia
  (refine oW ?_ (Kj hp);intro i r off h1 h2 h3)
  refine ⟨i,r,off,h1,h2,?_,?_,by lia,by lia⟩
  ·refine U (gN I.R.nd h1 ..) ?_;lia
  ·refine U h3 ?_;exact Ki h1 h2
theorem uI {w:Int} (h:oH M w):gw M w=none:=by
 unfold gw
 by_cases h1:w<16
 ·exact U (if_pos h1 ..) rfl
 ·rw [if_neg h1]
  have:(layW M.rows)[(w - 16).toNat]?=none:=by
   rw [List.getElem?_eq_none_iff];unfold oH at h;lia
  exact U this rfl
theorem uJ (I:ju M) {w:Int} {i:Nat} {r:aq} {off:Nat} (h:DT M w i r off):gw M w=if 2<=off/\off - 2<r.slots.length then some (r,off - 2) else none:=by
 unfold gw
 refine U (if_neg h.lo ..) (U h.word ?_)
 simp only [n5 I.R.nd (List.mem_of_getElem? h.row)]
theorem Kz (I:Inv M) {w:Int} {i:Nat} {r:aq} {off:Nat} (h:DT M w i r off):gJ M.ac w=some { af:=r.num,addr:=ak M.rows r.num,slots:=r.slots.map (sv (ak M.rows)),gen:=r.gen,size:=bw r } :=
 I.find h.row (by have:=h.we;lia) (by have:=h.we;have:=h.Ky;lia)
theorem KA (I:Inv M) (w:Int):iE M.ac w=(gw M w).map fun x=>({ af:=x.1.num,addr:=ak M.rows x.1.num,slots:=x.1.slots.map (sv (ak M.rows)),gen:=x.1.gen,size:=bw x.1 },x.2):=by
 rcases uH I.jv w with h | ⟨i,r,off,h⟩
 ·refine U (uI h ..) ?_;unfold iE;refine U (I.find_none h ..) ?_;rfl
 ·refine U (uJ I.jv h ..) ?_
  unfold iE
  refine U (Kz I h ..) ?_
  have hw:=h.we
  simp only [List.length_map]
  by_cases c:2<=off/\off - 2<r.slots.length
  ·refine U (if_pos c ..) (U (if_pos (by lia) ..) ?_)
   simp only [Option.map_some]
   congr 2
   lia
  ·refine U (if_neg c ..) (U (if_neg (by lia) ..) ?_);rfl
theorem KC (I:Inv M) {w:Int} {x:aq × Nat} (h:gw M w=some x):x.1∈M.rows/\x.2<x.1.slots.length/\w=ak M.rows x.1.num+2+x.2:=by
 rcases uH I.jv w with h' | ⟨i,r,off,h'⟩
 ·rw [uI h'] at h;exact aZ h
 ·rw [uJ I.jv h'] at h
  split at h
  ·(revert h;refine si ?_;rintro rfl)
   have:=h'.we
   exact ⟨List.mem_of_getElem? h'.row,by show off - 2<r.slots.length;lia,by show w=ak M.rows r.num+2+((off - 2:Nat):Int);lia⟩
  ·exact aZ h
theorem uK (I:Inv M) (w:Int):fw M.ac w=(gw M w).bind fun x=>(x.1.slots[x.2]?).map (sv (ak M.rows)):=by
 unfold fw
 refine U (KA I w ..) ?_
 induction gw M w with
 | none=>rfl
 | some x=>simp
theorem uL (W:Wd M pos σ) (I:ju M):σ[pos .words]?=some (.list ((layW M.rows).map fun x=>AV.tup [.ref (pos (.row x.1)),.int x.2])) :=
 W.get .words _ ((congrArg (Option.map fun l:List (Nat × Int) × List (Nat × Nat)=>AO.list (l.2.map fun x:Nat × Nat=>AV.tup [.ref (pos (.row x.1)),.int (x.2:Int)])) I.lay).trans (by refine U (uv ..) ?_;rfl))
theorem xz (W:Wd M pos σ) (I:ju M):σ[pos .addrs]?=some (.an ((fM M.rows).1.map fun y=>((y.1:Int),AV.int y.2))) :=
 W.get .addrs _ (congrArg (Option.map fun l:List (Nat × Int) × List (Nat × Nat)=>AO.an (l.1.map fun y:Nat × Int=>((y.1:Int),AV.int y.2))) I.lay)
theorem acd {a b c a' b' c':Int} (h:a=a') (h':b=b') (h'':c=c') (K:Bool->Prop) (q:K true):eK (.tup [.int a,.int b,.int c]) (.tup [.int a',.int b',.int c']) σ K:=by
 subst h;subst h';subst h''
 exact ⟨rfl,by simp [gf,eZ],q⟩
theorem uM (G:Good C) (W:Wd M pos σ) (I:ju M) {w:Int} (q:Q (U2 pos (gw M w)) σ):FW C 1 .yL [.ref (pos .w),.int w] Q σ:=by
 refine bo G (b:=Be) (ps:=Cc) rfl rfl rfl rfl ?_
 delta Cc Be
 have g6:=I.lay
 have hW:=uL W I
 rcases uH I.jv w with h | ⟨i,r,off,h⟩
 ·rw [uI h] at q
  unfold oH at h
  by_cases c:w<16
  ·wtm_at "w";exact q
  ·wtm_at "w";exact q
 ·rw [uJ I.jv h] at q
  have hr:=h.row
  (refine ay ?_ (W.rw I.R.nd (List.mem_of_getElem? h.row));intro t1 t2)
  have hi:=h.hi
  have t7:=h.lo
  have U3:=h.word
  by_cases c1:(off:Int)<2
  ·wtm_at "w"
   rw [if_neg (by lia)] at q
   exact q
  ·by_cases c2:(r.slots.length:Int)<=(off:Int) - 2
   ·wtm_at "w"
    rw [if_neg (by lia)] at q
    exact q
   ·wtm_at "w"
    rw [if_pos (by lia)] at q
    have e:(off:Int) - 2=((off - 2:Nat):Int):=by lia
    rw [e] at *
    exact q
theorem uN (A:Nat->Int):∀ (p:List Int) (v:Vl),dw (sv A v) p=(eQ v p).map (sv A)
 | [],v=>by simp [dw,eQ]
 | s::p,v=>by
  induction v using Vl.casesOn with
  | str a b =>
   simp only [sv,dw,eQ]
   by_cases h0:s=0
   ·simp [h0,uN A p a]
   ·by_cases h1:s=1
    ·simp [h1,uN A p b]
    ·simp [h0,h1]
  | _=>simp [sv,dw,eQ]
theorem DU:∀ (p:List Int) {v u:Vl},eQ v p=some u->ci u<=ci v/\(∀ n∈bU u,n∈bU v)/\(kZ v->kZ u)
 | [],v,u,h=>by simp [eQ] at h;subst h;exact ⟨Nat.le_refl _,fun Y h=>h,id⟩
 | s::p,v,u,h=>by
  induction v using Vl.casesOn with
  | str a b =>
   simp only [eQ] at h
   split at h
   ·(refine bS ?_ (DU p h);intro h1 h2 h3)
    exact ⟨by simp only [ci];lia,fun n hn=>by simp [bU,h2 n hn],fun hn=>h3 hn.1⟩
   ·split at h
    ·(refine bS ?_ (DU p h);intro h1 h2 h3)
     exact ⟨by simp only [ci];lia,fun n hn=>by simp [bU,h2 n hn],fun hn=>h3 hn.2⟩
    ·exact aZ h
  | _=>simp [eQ] at h
theorem KD {a:Pv} {K:Bool->Prop} (h:gf 40 (pv a)) (k:K true):eK (pv a) (pv a) σ K:=by
 induction a using Pv.casesOn <;> exact ⟨rfl,h,k⟩
theorem Inv.U4 (I:Inv M) {r:aq} (hr:r∈M.rows):M.ac.find? (fun t=>decide (t.af=r.num))=some { af:=r.num,addr:=ak M.rows r.num,slots:=r.slots.map (sv (ak M.rows)),gen:=r.gen,size:=bw r }:=by
 (refine aM ?_ (List.mem_iff_getElem?.mp hr);intro i hi)
 have:=fu I.cM.nd (List.mem_of_getElem? (I.th hi))
 exact this
theorem r7 (G:Good C) (W:Wd M pos σ) (I:Inv M) {v:Vl} (hn:∀ n∈bU v,n=0∨∃ r∈M.rows,r.num=n) (q:Q (pv (sv (ak M.rows) v)) σ):FW C (ci v) .ku [.ref (pos .w),lv v] Q σ:=by
 exact wT G (oq W) (by unfold wF;refine U I.lay ?_;rfl) (xz W I.jv) v (fun n h=>r3 I.R.nd I.R.pos (hn n h)) q
theorem KE (G:Good C) (W:Wd M pos σ) (I:Inv M) {w:Int} {p:List Int} (q:Q (.bool true) σ):FW C 5 .sC [.ref (pos .w),.int w,ej p] Q σ:=by
 refine bo G (b:=Bg) (ps:=Ce) rfl rfl rfl rfl ?_
 delta Ce Bg
 have L:=I.jv
 have g6:=I.lay
 have hW:=uL W L
 wtm_at "w"
 refine FW.up (t6 G W I.cM ?_) (by decide)
 rcases uH L w with h | ⟨i,r,off,h⟩
 ·have hv:fw M.ac w=none:=by refine U (uK I ..) (U (uI h ..) ?_);rfl
  have hs:=uI h
  refine U (I.find_none h ..) ?_
  unfold oH at h
  by_cases c:w<16
  ·wtm_at "w"
   refine FW.up (t8 G W I.cM ?_) (by decide)
   wtm_at "w"
   refine FW.up (wY G W I.cM (p:=p) ?_) (by decide)
   wtm_at "w"
   refine FW.up (uM G W L ?_) (by decide)
   refine U hs (U hv ?_)
   wtm_at "w"
   exact q
  ·wtm_at "w"
   refine FW.up (t8 G W I.cM ?_) (by decide)
   wtm_at "w"
   refine FW.up (wY G W I.cM (p:=p) ?_) (by decide)
   wtm_at "w"
   refine FW.up (uM G W L ?_) (by decide)
   refine U hs (U hv ?_)
   wtm_at "w"
   exact q
 ·have hr:=List.mem_of_getElem? h.row
  (refine ay ?_ (W.rw I.R.nd hr);intro t1 t2)
  have hth:=W.get (.aR r.num) _ (by (delta aO;dsimp only);refine U (I.U4 hr ..) ?_;rfl)
  have U3:=h.word
  have t7:=h.lo
  have U5:=h.hi
  have KG:=h.we
  have e1:ak M.rows r.num=w - (off:Int):=by lia
  refine U (Kz I h ..) ?_
  change jP _ _ _ _ _ _ _ (AV.ref (pos (.aR r.num))) _
  wtm_at "w"
  by_cases c:2<=off/\off - 2<r.slots.length
  ·obtain ⟨v,hg,jp⟩:∃ v,r.slots[off - 2]?=some v/\v∈r.slots:=(aB _ (List.getElem?_eq_getElem c.2) (List.getElem_mem c.2))
   have ov:=I.slots r hr v jp
   have hs:gw M w=some (r,off - 2):=(uJ L h).trans (if_pos c)
   have hv:fw M.ac w=some (sv (ak M.rows) v):=by refine U (uK I ..) (U hs ?_);simp only [Option.bind_some,hg,Option.map_some]
   have dp:=ov.dp
   refine FW.up (t8 G W I.cM ?_) (by decide)
   refine U hv ?_
   change jP _ _ _ _ _ _ _ (pv (sv (ak M.rows) v)) _
   wtm_at "w"
   refine FW.up (wY G W I.cM (p:=p) ?_) (by decide)
   refine U hv (U (Option.bind_some ..) (U (uN ..) ?_))
   wtm_at "w"
   refine FW.up (uM G W L ?_) (by decide)
   refine U hs ?_
   change jP _ _ _ _ _ _ _ (AV.tup [.ref (pos (.row r.num)),.int ((off - 2:Nat):Int)]) _
   wtm_at "w"
   refine FW.up (r7 G W I ov.nums ?_) dp
   refine Rq (fun Y q=>KD (uA v _ 40 (by lia)) q) ?_
   wtm_at "w"
   refine FW.up (IV G ?_) (by decide)
   induction qw:eQ v p with
   | none=>
    change jP _ _ _ _ _ _ _ AV.none _
    wtm_at "w"
    exact q
   | some u =>
    (refine bS ?_ (DU p qw);intro u1 u2 u3)
    change jP _ _ _ _ _ _ _ (lv u) _
    wtm_at "w"
    refine FW.up (r7 G W I (fun n hn=>ov.nums n (u2 n hn)) ?_) (by lia)
    refine Rp (fun Y q=>KD (uA u _ 40 (by lia)) q) q
  ·have hs:gw M w=none:=(uJ L h).trans (if_neg c)
   have hv:fw M.ac w=none:=by refine U (uK I ..) (U hs ?_);rfl
   refine FW.up (t8 G W I.cM ?_) (by decide)
   wtm_at "w"
   refine FW.up (wY G W I.cM (p:=p) ?_) (by decide)
   wtm_at "w"
   refine FW.up (uM G W L ?_) (by decide)
   refine U hs (U hv ?_)
   wtm_at "w"
   exact q
end
theorem xA (A:Nat->Int) (x:Vl):∀ (p:List Int) (u:Vl),sv A (dW u p x)=gk (sv A u) p (sv A x)
 | [],u=>by simp [dW,gk]
 | s::p,u=>by
  induction u using Vl.casesOn with
  | str a b =>
   simp only [sv,gk,dW]
   by_cases h0:s=0
   ·simp [h0,sv,xA A x p a]
   ·simp [h0,sv,xA A x p b]
  | _=>simp [sv,gk,dW]
theorem U6 {a b k:Nat} (h:1+max a b<=k+1):a<=k/\b<=k:=Nat.max_le.mp (Nat.le_of_add_le_add_left (a:=1) (by rw [Nat.add_comm 1 k];exact h))
theorem KH {a b k:Nat} (h:a<=k) (h':b<=k):1+max a b<=k+1:=by rw [Nat.add_comm];exact Nat.succ_le_succ (Nat.max_le.mpr ⟨h,h'⟩)
theorem U7 (x:Vl):∀ (p:List Int) (u:Vl) (k:Nat),ci u<=k->p.length+ci x<=k->ci (dW u p x)<=k:=by
 intro p
 induction p with
 | nil=>intro u k _ h;rw [List.length_nil,Nat.zero_add] at h;induction u using Vl.casesOn <;> exact h
 | cons s p ih =>
  intro u k h h'
  induction u using Vl.casesOn with
  | str a b =>
   induction k using Nat.casesOn with
   | zero=>rw [List.length_cons,Nat.succ_add] at h';exact absurd h' (Nat.not_succ_le_zero _)
   | succ k =>
    have h:=U6 h
    rw [List.length_cons,Nat.succ_add] at h'
    have h':=Nat.le_of_succ_le_succ h'
    unfold dW
    split
    ·exact KH (ih a k h.1 h') h.2
    ·exact KH h.1 (ih b k h.2 h')
  | _=>exact h
theorem KI (x:Vl) (p:List Int) (u:Vl):ci (dW u p x)<=max (ci u) (p.length+ci x):=U7 x p u _ (Nat.le_max_left ..) (Nat.le_max_right ..)
theorem DV (x:Vl):∀ (p:List Int) (u:Vl),∀ n∈bU (dW u p x),n∈bU u∨n∈bU x
 | [],u,n,h=>.inr (by simpa [dW] using h)
 | s::p,u,n,h=>by
  induction u using Vl.casesOn with
  | str a b =>
   simp only [dW] at h
   split at h
   ·simp only [bU,List.mem_append] at h ⊢
    rcases h with h | h
    ·rcases DV x p a n h with h | h
     ·exact .inl (.inl h)
     ·exact .inr h
    ·exact .inl (.inr h)
   ·simp only [bU,List.mem_append] at h ⊢
    rcases h with h | h
    ·exact .inl (.inl h)
    ·rcases DV x p b n h with h | h
     ·exact .inl (.inr h)
     ·exact .inr h
  | _=>exact .inl (by simpa [dW] using h)
theorem DW (x:Vl) (hx:kZ x):∀ (p:List Int) (u:Vl),kZ u->kZ (dW u p x)
 | [],u,h=>by simpa [dW] using hx
 | s::p,u,h=>by
  induction u using Vl.casesOn with
  | str a b =>
   simp only [dW]
   split
   ·exact ⟨DW x hx p a h.1,h.2⟩
   ·exact ⟨h.1,DW x hx p b h.2⟩
  | _=>simpa [dW] using h
theorem uO {A:Nat->Int} (h0:A 0=0):∀ {v:Vl},kZ v->(∀ n∈bU v,n≠0->A n≠0)->b8 (sv A v)=(a0 v).map A
 | .dat _,_,_=>rfl
 | .ref n,_,h=>by
  by_cases c:n=0
  ·simp [sv,b8,a0,c,h0]
  ·simp [sv,b8,a0,c,h n (by simp [bU]) c]
 | .str a b,hn,h=>by
  simp only [sv,b8,a0,List.map_append]
  rw [uO h0 hn.1 fun n hn=>h n (by simp [bU,hn]),uO h0 hn.2 fun n hn=>h n (by simp [bU,hn])]
 | .bQ _ _ _,hn,_=>hn.elim
theorem m6:∀ {v:Vl} {n:Nat},n∈a0 v->n∈bU v/\n≠0
 | .dat _,n,h=>by simp [a0] at h
 | .ref m,n,h=>by
  by_cases c:m=0
  ·simp [a0,c] at h
  ·simp [a0,c] at h;subst h;exact ⟨by simp [bU],c⟩
 | .str a b,n,h=>by
  simp only [a0,List.mem_append] at h
  rcases h with h | h
  ·exact ⟨by simp [bU,(m6 h).1],(m6 h).2⟩
  ·exact ⟨by simp [bU,(m6 h).1],(m6 h).2⟩
 | .bQ m _ _,n,h=>by
  by_cases c:m=0
  ·simp [a0,c] at h
  ·simp [a0,c] at h;subst h;exact ⟨by simp [bU],c⟩
noncomputable def cq (l:List aq) (s i:Nat) (v:Vl):List aq:=l.map fun x=>if x.num=s then { x with slots:=x.slots.set i v } else x
section
variable {s i:Nat} {v:Vl}
theorem DX (r:aq) (l:List aq):cq (r::l) s i v=(if r.num=s then { r with slots:=r.slots.set i v } else r)::cq l s i v:=rfl
theorem oI (r:aq):(if r.num=s then { r with slots:=r.slots.set i v } else r).num=r.num:=by split <;> rfl
theorem xC (r:aq):(if r.num=s then { r with slots:=r.slots.set i v } else r).gen=r.gen:=by split <;> rfl
theorem KJ (r:aq):(if r.num=s then { r with slots:=r.slots.set i v } else r).slots.length=r.slots.length:=by split <;> simp
theorem r8 (r:aq):bw (if r.num=s then { r with slots:=r.slots.set i v } else r)=bw r:=by unfold bw;exact U (KJ ..) rfl
theorem xD (l:List aq):(cq l s i v).map (·.num)=l.map (·.num):=by
 unfold cq;refine U List.map_map ?_;exact List.map_congr_left fun r Y=>oI r
theorem DY (l:List aq):(cq l s i v).length=l.length:=by simp [cq]
theorem DZ:∀ (l:List aq) (a:Nat),ey a (cq l s i v)=ey a l
 | [],a=>rfl
 | r::l,a=>by refine U (DX ..) ?_;simp only [ey];exact U (oI ..) (U (r8 ..) (U (DZ l ..) rfl))
theorem KL:∀ (l:List aq),layW (cq l s i v)=layW l
 | []=>rfl
 | r::l=>by
  refine U (DX ..) ?_
  show (List.range (bw _)).map _++layW _=(List.range (bw r)).map _++layW l
  exact U (KL l ..) (U (r8 ..) (U (oI ..) rfl))
theorem U8 (l:List aq):fM (cq l s i v)=fM l:=by exact U (uv ..) (U (uv ..) (U (DZ ..) (U (KL ..) rfl)))
theorem D0 (l:List aq):ak (cq l s i v)=ak l:=by funext n;unfold ak;exact U (DZ ..) rfl
theorem U9 (l:List aq) (k:Nat):bF (cq l s i v) k=bF l k:=by
 unfold bF cq;refine aT List.map_take (U List.map_map ?_)
 congr 1
 exact List.map_congr_left fun r Y=>r8 r
theorem KN (A:Nat->Int):∀ (l:List aq) (a:Nat),dz A a (cq l s i v)=b0 (dz A a l) s fun t=>{ t with slots:=t.slots.set i (sv A v) }
 | [],a=>rfl
 | r::l,a=>by
  refine U (DX ..) ?_
  simp only [dz]
  refine U (r8 ..) (U (KN A l ..) ?_)
  unfold b0
  refine U List.map_cons ?_
  congr 1
  by_cases c:r.num=s
  ·simp [c,List.map_set]
  ·simp [c]
theorem Va {l:List aq} {x:aq} (h:x∈cq l s i v):∃ r∈l,x=(if r.num=s then { r with slots:=r.slots.set i v } else r):=by
 (refine au ?_ (List.mem_map.mp h);intro r hr e)
 exact (aB r hr e.symm)
end
theorem KP {l:List Int} {k x:Int}:x∈l->x∈cV l k:=fun h=>by
 unfold cV;split
 ·exact h
 ·exact List.mem_append_left _ h
theorem KQ {l:List Int} {k:Int}:k∈cV l k:=by
 unfold cV;split
 ·assumption
 ·simp
noncomputable def j7 (M:Mo) (r:aq) (i:Nat) (v:Vl):Mo :=
 { M with
  rows:=cq M.rows r.num i v
  cards:=if r.gen>0/\a0 v≠[] then cV M.cards (cP (ak M.rows r.num) i M.bits) else M.cards
  ac:=b0 M.ac r.num fun t=>{ t with slots:=t.slots.set i (sv (ak M.rows) v) }
  bv:=if r.gen>0/\a0 v≠[] then cV M.bv (cP (ak M.rows r.num) i M.bits) else M.bv }
theorem Vb {M:Mo} (I:Inv M) {r:aq} {i:Nat} {v:Vl} (hr:r∈M.rows) (hi:i<r.slots.length) (ov:dy M 4 v) {d':Nat} {c':Int} (hd:M.d<d') (cG:d'<=10000):Inv { j7 M r i v with d:=d',count:=c' }:=by
 have sub:∀ x∈M.rows,∃ x'∈cq M.rows r.num i v,x'.num=x.num:=fun x hx=>(aB _ (List.mem_map_of_mem (f:=fun x:aq=>if x.num=r.num then { x with slots:=x.slots.set i v } else x) hx) (oI x))
 have up:∀ x∈cq M.rows r.num i v,∃ y∈M.rows,y.num=x.num/\y.gen=x.gen/\bw y=bw x/\y.slots.length=x.slots.length/\∀ j u,x.slots[j]?=some u->y.slots[j]?=some u∨(y=r/\j=i/\u=v):=fun x hx=>by
  (refine au ?_ (Va hx);rintro y hy rfl)
  refine (MJ y hy (oI y).symm (xC y).symm (r8 y).symm (KJ y).symm (fun j u hu=>?_))
  by_cases c:y.num=r.num
  ·rw [if_pos c] at hu
   have pA:y=r:=by
    (refine aM ?_ (List.mem_iff_getElem?.mp hy);intro a ha)
    (refine aM ?_ (List.mem_iff_getElem?.mp hr);intro b hb)
    have:=EU I.R.nd ha hb c
    rw [this,hb] at ha
    exact (Option.some.inj ha).symm
   by_cases cj:i=j
   ·right
    subst cj
    rw [pA] at hu
    simp only [List.getElem?_set_self hi] at hu
    exact ⟨pA,rfl,(Option.some.inj hu).symm⟩
   ·left;simpa [List.getElem?_set,cj] using hu
  ·rw [if_neg c] at hu;exact .inl hu
 have Vc:∀ k,k∈M.cards->k∈(j7 M r i v).cards:=fun k hk=>by
  simp only [j7];split
  ·exact KP hk
  ·exact hk
 refine ⟨I.iH,⟨?_,?_,?_,?_,?_⟩,?_,?_,?_,?_,?_,?_,?_,?_,?_,?_,?_,I.hmade,?_,?_,?_,?_,?_,?_,cG,I.bits⟩
 ·show M.rl=(cq _ _ _ _).map _
  exact U (xD ..) (U (I.R.rl ..) rfl)
 ·show ((cq _ _ _ _).map _).Nodup
  refine U (xD ..) ?_;exact I.R.nd
 ·intro x hx
  (refine bO ?_ (up x hx);intro y hy e _)
  have:=I.R.pos y hy;lia
 ·show (cq _ _ _ _).length<=_
  refine U (DY ..) ?_;exact I.R.len
 ·intro x hx
  (refine yi ?_ (up x hx);intro y hy _ _ _ e _)
  have:=I.R.sl y hy;lia
 ·intro x hx
  (refine kj ?_ (up x hx);intro y hy _ e _)
  have:=I.lV y hy;lia
 ·show (cq _ _ _ _).Pairwise _
  unfold cq
  rw [List.pairwise_map]
  exact I.gens.imp fun {a b} h=>by rw [xC,xC];exact h
 ·intro x hx u hu
  (refine yi ?_ (up x hx);intro y hy _ _ _ _ e)
  (refine aM ?_ (List.mem_iff_getElem?.mp hu);intro j hj)
  rcases e j u hj with h | ⟨_,_,rfl⟩
  ·exact (I.slots y hy u (List.mem_of_getElem? h)).more (Nat.le_refl _) sub
  ·exact ov.more (Nat.le_refl _) sub
 ·intro u hu
  have:=I.roots u hu
  induction u using Vl.casesOn with
  | bQ n off p =>
   (revert this;refine bO ?_;intro y a b c)
   exact (ff _ (List.mem_map_of_mem (f:=fun x:aq=>if x.num=r.num then { x with slots:=x.slots.set i v } else x) a) (by refine U (oI ..) ?_;exact b) (by refine U (r8 ..) ?_;exact c))
  | dat c=>exact dy.more this (Nat.le_refl _) sub
  | ref n=>exact dy.more this (Nat.le_refl _) sub
  | str a b=>exact dy.more this (Nat.le_refl _) sub
 ·intro x hx
  (refine bO ?_ (up x hx);intro y hy e _)
  have:=I.k6 y hy
  show x.num<=M.made
  lia
 ·show M.lay=some (fM (cq _ _ _ _))
  exact U (U8 ..) (U (I.lay ..) rfl)
 ·show b0 M.ac _ _=dz (ak (cq _ _ _ _)) 0 (cq _ _ _ _)
  exact U (D0 ..) (U (KN ..) (U (I.ac ..) rfl))
 ·show M.tl=(cq _ _ _ _).map _
  exact U (xD ..) (U (I.tl ..) rfl)
 ·show M.idx=(b0 M.ac _ _).map _
  refine U I.idx ?_
  unfold b0
  refine U List.map_map ?_
  exact List.map_congr_left fun t Y=>by simp only [Function.comp];split <;> rfl
 ·show M.top=16+((bF (cq _ _ _ _) (cq _ _ _ _).length:Nat):Int)
  exact U (U9 ..) (U (DY ..) (U (I.top ..) rfl))
 ·show (if _ then _ else _)=(if _ then _ else _)
  exact U I.bv rfl
 ·show M.cells=M.roots.map (sv (ak (cq _ _ _ _)))
  exact U (D0 ..) (U (I.cells ..) rfl)
 ·intro x hx j u hj n hn x' xE lW aS
  (refine yi ?_ (up x hx);intro y hy e1 e2 e3 e4 e5)
  (refine kj ?_ (up x' xE);intro y' Vd f1 f2 _)
  show cP (ak (cq _ _ _ _) x.num) j M.bits∈(j7 M r i v).cards
  refine U (D0 ..) (aT e1 ?_)
  rcases e5 j u hj with h | ⟨rfl,rfl,rfl⟩
  ·exact Vc _ (I.qt y hy j u h n hn y' Vd (f1.trans lW) (by lia))
  ·simp only [j7]
   refine U (if_pos ⟨by lia,by intro e;rw [e] at hn;cases hn⟩ ..) ?_
   exact KQ
 ·show (cq _ _ _ _).length<=_
  refine U (DY ..) ?_;exact I.b1
 ·show M.made<=d'
  have:=I.b2;lia
 ·show M.roots.length<=d'
  have:=I.b3;lia
 ·show (if _ then _ else _:List Int).length<=4*d'
  have:=I.b4
  have h:=@CY M.cards (cP (ak M.rows r.num) i M.bits)
  split <;> wtm_at "o"
section
variable {C:Cx} {M M':Mo} {pos pos':Tg->Nat} {σ V:AH} {Q:AV->AH->Prop}
theorem Ve (I:Inv M) {w:Int} {p:List Int} {x:Vl}:fJ M w p (sv (ak M.rows) x)=match gw M w with
  | some (r,i)=>(match r.slots[i]? with
   | some u=>if (eQ u p).isSome then jT M { af:=r.num,addr:=ak M.rows r.num,slots:=r.slots.map (sv (ak M.rows)),gen:=r.gen,size:=bw r } i (sv (ak M.rows) (dW u p x)) else M
   | none=>M)
  | none=>M:=by
 unfold fJ
 refine U (KA I w ..) ?_
 induction hs:gw M w with
 | none=>rfl
 | some y =>
  obtain ⟨r,i⟩:=y
  simp only [Option.map_some,List.getElem?_map]
  induction hu:r.slots[i]? with
  | none=>rfl
  | some u =>
   simp only [Option.map_some]
   refine U (uN ..) (U (xA ..) ?_)
   induction eQ u p <;> rfl
theorem Vf (I:Inv M) {w:Int} {p:List Int}:jU M w p=((gw M w).bind fun y=>(y.1.slots[y.2]?).bind fun u=>eQ u p).isSome:=by
 unfold jU
 refine U (uK I w ..) ?_
 induction hs:gw M w with
 | none=>rfl
 | some y =>
  simp only [Option.bind_some]
  induction hu:y.1.slots[y.2]? with
  | none=>rfl
  | some u=>simp only [Option.map_some,Option.bind_some];refine U (uN ..) ?_;induction eQ u p <;> rfl
theorem D1 {l:List aq} {s i n:Nat} {v:Vl}:(cq l s i v).find? (fun t=>decide (t.num=n))=(l.find? fun t=>decide (t.num=n)).map fun x=>if x.num=s then { x with slots:=x.slots.set i v } else x:=by
 unfold cq
 refine U List.find?_map ?_
 congr 1
 congr 1
 funext t
 simp only [Function.comp,oI]
noncomputable def Mo.gO (M:Mo) (l:List aq):Mo:={ M with rows:=l }
noncomputable def Mo.gP (M:Mo) (l:List Int):Mo:={ M with cards:=l }
noncomputable def Mo.iI (M:Mo) (ac:List Th) (hc:List Int):Mo:={ M with ac:=ac,bv:=hc }
theorem Wd.Vg (W:Wd M pos σ) (H:(M.rows.map (·.num)).Nodup) {r:aq} (hr:r∈M.rows) {i:Nat} {v:Vl} :
  Wd (M.gO (cq M.rows r.num i v)) pos (σ.set (pos (.cb r.num)) (.list ((r.slots.set i v).map lv))) /\
  aL M pos σ (M.gO (cq M.rows r.num i v)) pos (σ.set (pos (.cb r.num)) (.list ((r.slots.set i v).map lv))):=by
 refine W.upd (t:=.cb r.num) (o:=.list (r.slots.map lv)) (congrArg (Option.map fun u:aq=>AO.list (u.slots.map lv)) (n5 H hr)) ?_ ?_
 ·exact (congrArg (Option.map fun u:aq=>AO.list (u.slots.map lv)) (D1.trans (congrArg (Option.map fun x:aq=>if x.num=r.num then { x with slots:=x.slots.set i v } else x) (n5 H hr)))).trans (by rw [Option.map_some,Option.map_some,if_pos rfl])
 ·intro t' ht
  induction t' with
  | row n =>
   refine (congrArg (Option.map fun u:aq=>AO.list [.int u.num,.ref (pos (.cb n)),.int u.gen]) D1).trans ?_
   show _=(M.rows.find? _).map _
   induction M.rows.find? (fun t=>decide (t.num=n)) with
   | none=>rfl
   | some u=>simp only [Option.map_some,oI,xC]
  | cb n =>
   refine (congrArg (Option.map fun u:aq=>AO.list (u.slots.map lv)) D1).trans ?_
   show _=(M.rows.find? _).map _
   induction e:M.rows.find? (fun t=>decide (t.num=n)) with
   | none=>rfl
   | some u =>
    have hu:u.num=n:=by simpa using List.find?_some e
    have:¬ u.num=r.num:=fun e'=>ht (by rw [<- e',hu])
    simp only [Option.map_some,if_neg this]
  | _=>rfl
theorem KR (W:Wd M pos σ) {l:List Int} {o:AO} (e:o=.an (cx l)):Wd (M.gP l) pos (σ.set (pos .cards) o)/\aL M pos σ (M.gP l) pos (σ.set (pos .cards) o):=by
 subst e
 exact W.upd (t:=.cards) rfl rfl fun t' ht=>by induction t' <;> first | rfl | exact absurd rfl ht
theorem Vh (W:Wd M pos σ) {k:Int}:Wd (M.gP (cV M.cards k)) pos (σ.set (pos .cards) (.an (cx (cV M.cards k))))/\aL M pos σ (M.gP (cV M.cards k)) pos (σ.set (pos .cards) (.an (cx (cV M.cards k)))) :=
 KR W rfl
theorem Vi {p:List Int} (h:p∈xo):p.length<=2:=by
 revert p;decide
theorem Vj {w:Int} {p:List Int} {v:Pv}:fJ M w p v=M.iI (fJ M w p v).ac (fJ M w p v).bv:=by
 unfold fJ
 induction iE M.ac w with
 | none=>rfl
 | some y =>
  obtain ⟨t,i⟩:=y
  simp only
  induction t.slots[i]? with
  | none=>rfl
  | some u=>simp only;split <;> rfl
theorem Nx.comp {iU:Mo} {k j m:Nat} (x:Nx M M' k) (y:Nx M' iU j) (h:k+j<=m):Nx M iU m :=
 ⟨y.ns.trans x.ns,y.asked.trans x.asked,Nat.le_trans x.k7 y.k7,by have:=x.fN;have:=y.fN;lia,Nat.le_trans x.j6 y.j6⟩
theorem Vk (I:Inv M) {r:aq} (hr:r∈M.rows) {i:Nat} {v':Vl} (ok:dy M 4 v') {T:List Th} {H:List Int}
  (h:M.iI T H=jT M { af:=r.num,addr:=ak M.rows r.num,slots:=r.slots.map (sv (ak M.rows)),gen:=r.gen,size:=bw r } i (sv (ak M.rows) v')) :
  (r.gen>0/\a0 v'≠[]->((M.iI T H).gO (cq M.rows r.num i v')).gP (cV M.cards (cP (ak M.rows r.num) i M.bits))=j7 M r i v') /\
  (¬ (r.gen>0/\a0 v'≠[])->(M.iI T H).gO (cq M.rows r.num i v')=j7 M r i v'):=by
 have hT:T=_:=congrArg Mo.ac h
 have hH:H=_:=congrArg Mo.bv h
 have Vm:b8 (sv (ak M.rows) v')=(a0 v').map (ak M.rows):=uO (m0 I.R.pos) ok.np fun n hn qx=>by
  rcases ok.nums n hn with h | ⟨y,hy,rfl⟩
  ·exact absurd h qx
  ·(refine aM ?_ (List.mem_iff_getElem?.mp hy);intro k hk)
   refine U (gN I.R.nd hk ..) ?_;lia
 have Vn:(b8 (sv (ak M.rows) v')≠[])↔(a0 v'≠[]):=by refine U Vm ?_;simp
 simp only [jT,Vn] at hT hH
 refine ⟨fun hc=>?_,fun hc=>?_⟩
 ·refine U hT (U hH (U (if_pos hc ..) ?_));unfold j7;refine U (if_pos hc ..) (U (if_pos hc ..) ?_);rfl
 ·refine U hT (U hH (U (if_neg hc ..) ?_));unfold j7;refine U (if_neg hc ..) (U (if_neg hc ..) ?_);rfl
theorem Vo (G:Good C) (I:Inv M) (hd:M.d<=10000) {w:Int} {p:List Int} {x:Vl} (hp:p.length<=2) (ox:dy M 2 x) (W:Wd (fJ M w p (sv (ak M.rows) x)) pos σ) {ρ:Loc}
  (e1:ρ .aJ=some (.ref (pos .w))) (e2:ρ .bx=some (.int w)) (e3:ρ .cX=some (ej p)) (e4:ρ .fj=some (lv x)) (e5:ρ .jx=some (.bool (jU M w p)))
  (hI:∀ r∈M.rows,∀ i,i<r.slots.length->∀ v,dy M 4 v->Inv (j7 M r i v))
  (q:∀ V M',Inv M'->Wd M' pos V->aL (fJ M w p (sv (ak M.rows) x)) pos σ M' pos V->Nx M M' 0->Q (.bool true) V) :
  ax C 5 (tJ.drop 3) (fun Y V=>Q .none V) Q ρ σ:=by
 delta tJ
 change ax C 5 [_,_,_,_,_,_] _ _ _ _
 have mr:=@Vj M w p (sv (ak M.rows) x)
 have cM:=Vf I (w:=w) (p:=p)
 have heq:=Ve I (w:=w) (p:=p) (x:=x)
 generalize (fJ M w p (sv (ak M.rows) x)).ac=T at mr
 generalize (fJ M w p (sv (ak M.rows) x)).bv=H at mr
 rw [mr] at W q
 have L:ju (M.iI T H):=⟨⟨I.R.rl,I.R.nd,I.R.pos,I.R.len,I.R.sl⟩,I.lay⟩
 have nd:((M.iI T H).rows.map (·.num)).Nodup:=I.R.nd
 have KS:Nx M M 0:=⟨rfl,rfl,Nat.le_refl _,Nat.le_refl _,Nat.le_refl _⟩
 wtm_at "x";wtm_at "x"
 refine FW.up (uM G W L ?_) (by decide)
 refine U (show gw (M.iI T H) w=gw M w from rfl) ?_
 induction hs:gw M w with
 | none =>
  rw [hs] at cM heq
  rw [cM] at e5
  replace e5:ρ .jx=some (.bool false):=e5
  rw [mr.symm.trans heq] at W q
  change jP _ _ _ _ _ _ _ AV.none _
  wtm_at "w"
  exact q _ _ I W aL.refl KS
 | some y =>
  (refine bS ?_ (KC I hs);intro h1 h2 h3)
  obtain ⟨r,i⟩:=y
  dsimp only at h1 h2 h3
  rw [hs] at cM heq
  obtain ⟨u,hg⟩:∃ u,r.slots[i]?=some u:=(aQ _ (List.getElem?_eq_getElem h2))
  have ou:=I.slots r h1 u (List.mem_of_getElem? hg)
  simp only [hg,Option.bind_some] at cM heq
  change jP _ _ _ _ _ _ _ (AV.tup [.ref (pos (.row r.num)),.int i]) _
  have h1':r∈(M.iI T H).rows:=h1
  have hz:(0:Int)<=i:=Int.natCast_nonneg i
  have eR:=hg
  rw [<- Int.toNat_natCast i] at eR
  wtm_at "w"
  refine FW.up (IV G ?_) (by decide)
  induction qw:eQ u p with
  | none =>
   rw [qw] at cM heq
   rw [cM] at e5
   replace e5:ρ .jx=some (.bool false):=e5
   rw [mr.symm.trans heq] at W q
   wtm_at "w"
   exact q _ _ I W aL.refl KS
  | some z =>
   rw [qw] at cM heq
   rw [cM] at e5
   replace e5:ρ .jx=some (.bool true):=e5
   have KU:=mr.symm.trans heq
   wtm_at "w"
   refine FW.up (CV G p u (by refine U qw ?_;exact Option.some_ne_none _) fun dY j8=>?_) (by lia)
   have cR:=W.gr j8
   have JU:(i:Int)<((r.slots.map lv).length:Int):=by refine U (List.length_map ..) ?_;lia
   (refine ay ?_ (cR.Vg nd h1 (i:=i) (v:=dW u p x));intro cJ dm)
   have es:(r.slots.map lv).set (i:Int).toNat (lv (dW u p x))=(r.slots.set i (dW u p x)).map lv:=by exact U (Int.toNat_natCast ..) (U List.map_set rfl)
   wtm_at "k"
   refine U es ?_
   generalize dY.set (pos (.cb r.num)) _=cU at cJ dm ⊢
   replace dm:=(aL.gr j8).trans dm
   change Wd ((M.iI T H).gO (cq M.rows r.num i (dW u p x))) pos cU at cJ
   change aL (M.iI T H) pos σ ((M.iI T H).gO (cq M.rows r.num i (dW u p x))) pos cU at dm
   have xF:dy M 4 (dW u p x):=⟨fun n hn=>(DV x p u n hn).elim (ou.nums n) (ox.nums n),DW x ox.np p u ou.np,by have:=KI x p u;have:=ou.dp;have:=ox.dp;lia⟩
   have D2:=hI r h1 i h2 _ xF
   generalize dW u p x=v' at *
   (refine ay ?_ (Vk I h1 xF KU);intro Vp fin2)
   have bP:(((M.iI T H).gO (cq M.rows r.num i v')).rows.map (·.num)).Nodup:=by show ((cq M.rows r.num i v').map (·.num)).Nodup;refine U (xD ..) ?_;exact I.R.nd
   have qX:({ r with slots:=r.slots.set i v' }:aq)∈((M.iI T H).gO (cq M.rows r.num i v')).rows:=List.mem_map.mpr (aB r h1 (by exact U (if_pos rfl ..) rfl))
   have ace:cU[pos (.row r.num)]?=some (.list [.int r.num,.ref (pos (.cb r.num)),.int r.gen]):=gU cJ bP (r:={ r with slots:=r.slots.set i v' }) qX
   have tz:cU[pos (.cb r.num)]?=some (.list ((r.slots.set i v').map lv)):=mI cJ bP (r:={ r with slots:=r.slots.set i v' }) qX
   have hgs:(r.slots.set i v')[(i:Int).toNat]?=some v':=by refine U (Int.toNat_natCast ..) ?_;exact List.getElem?_set_self h2
   have nx:Nx M (j7 M r i v') 0:=⟨rfl,rfl,Nat.le_refl _,Nat.le_refl _,Nat.le_refl _⟩
   clear cM heq KU mr qw hg eR cR W j8 L es hs
   by_cases c1:(0:Int)<(r.gen:Int)
   ·wtm_at "w"
    refine FW.up (p9 G v' (by have:=qu xF.dp;lia) fun mV rr KV acf Y=>?_) (by have:=xF.dp;lia)
    have gK:=cJ.gr KV
    replace dm:=dm.trans (aL.gr KV)
    by_cases c3:(0:Int)<((a0 v').length:Int)
    ·have hb:=I.bits
     have fY:=I.b4
     have Vq:∀ b:Nat,b<=3->(0:Int)<(2:Int) ^ ((b:Nat):Int).toNat/\(2:Int) ^ ((b:Nat):Int).toNat<2 ^ 64/\((b:Nat):Int)<=1000:=by decide
     (refine bS ?_ (Vq _ hb);intro p1 p2 p3)
     have p0:(0:Int)<=(M.bits:Int):=Int.natCast_nonneg _
     have hC:mV[pos .cards]?=some (.an (cx M.cards)):=gK.get .cards _ rfl
     have DR:(cx M.cards).length<1000000:=by refine U wZ ?_;lia
     have ab:gR mV (.ref (pos .w)) .fg=some (.int M.bits):=oz gK rfl
     (refine ay ?_ (Vh gK (k:=cP (ak M.rows r.num) i M.bits));intro fA kU)
     have ek:w / 2 ^ ((M.bits:Nat):Int).toNat=cP (ak M.rows r.num) i M.bits:=by unfold cP;refine U h3 ?_;rfl
     replace kU:=dm.trans kU
     have eM:=Vp ⟨by lia,fun h=>by rw [h] at c3;exact absurd c3 (by decide)⟩
     change Wd (((M.iI T H).gO (cq M.rows r.num i v')).gP (cV M.cards (cP (ak M.rows r.num) i M.bits))) _ _ at fA
     change aL _ _ _ (((M.iI T H).gO (cq M.rows r.num i v')).gP (cV M.cards (cP (ak M.rows r.num) i M.bits))) _ _ at kU
     rw [eM] at fA kU
     wtm_at "w"
     refine U ek (U rM ?_)
     exact q _ _ D2 fA kU nx
    ·rw [fin2 fun h=>c3 (by have:=List.length_pos_iff.mpr h.2;wtm_at "o")] at gK dm
     wtm_at "w"
     exact q _ _ D2 gK dm nx
   ·rw [fin2 fun h=>c1 (by have:=h.1;wtm_at "o")] at cJ dm
    wtm_at "w"
    exact q _ _ D2 cJ dm nx
theorem Vr (G:Good C) (W:Wd M pos σ) (I:Inv M) (hd:M.d+20<=10000) {w:Int}
  (q:∀ V M',Inv M'->Wd M' pos V->aL M pos σ M' pos V->Nx M M' 20->Q (.bool true) V) :
  FW C 6 .yO [.ref (pos .nums),.ref (pos .d),.ref (pos .w),.int w] Q σ:=by
 refine bo G (b:=tJ) (ps:=Cf) rfl rfl rfl rfl ?_
 delta Cf tJ
 have N:iG M:=⟨I.iH.1,I.iH.2,by have:=I.b5;lia⟩
 wtm_at "w"
 refine FW.up (J4 G W N fun ai p aE ah hp=>?_) (by decide)
 have dj:=Vi hp
 wtm_at "w"
 refine FW.up (Ka (M:=M.sD (M.d+1)) G aE (N.sD (by lia)) I.R.sD (by show M.d+1+10<=100000;lia) fun aH x gQ ki bc av a1 a2 ox=>?_) (by decide)
 replace a1:M.d+1<gQ:=a1
 replace a2:gQ<=M.d+1+5:=a2
 wtm_at "w"
 refine FW.up (ia (M:=M.dc gQ ki) G bc (N.dc (by lia)) (n:=2) (by decide) fun bn k bg aV hk=>?_) (by decide)
 replace aV:=(ah.trans av).trans aV
 clear ah av aE bc
 have gq:Inv (M.dc (gQ+1) ki):=I.draw (by lia) (by lia)
 have Vs:∀ r∈(M.dc (gQ+1) ki).rows,∀ i,i<r.slots.length->∀ v,dy (M.dc (gQ+1) ki) 4 v->Inv (j7 (M.dc (gQ+1) ki) r i v):=fun r hr i hi v ok =>
  Vb I hr hi ⟨ok.nums,ok.np,ok.dp⟩ (d':=gQ+1) (c':=ki) (by lia) (by lia)
 have nx:Nx M (M.dc (gQ+1) ki) 20:=⟨rfl,rfl,by show M.d<=gQ+1;lia,by show gQ+1<=M.d+20;lia,Nat.le_refl _⟩
 change Wd (M.dc (gQ+1) ki) pos bn at bg
 change aL M pos σ (M.dc (gQ+1) ki) pos bn at aV
 have uP:dy (M.dc (gQ+1) ki) 2 x:=⟨ox.nums,ox.np,ox.dp⟩
 have xp:(M.dc (gQ+1) ki).d<=10000:=by show gQ+1<=10000;lia
 generalize M.dc (gQ+1) ki=ib at *
 have hz:∀ u,fw ib.ac w=some u->ch (gk u p (sv (ak ib.rows) x))<=100000:=fun u hu=>by
  rw [uK gq] at hu
  induction hs:gw ib w with
  | none=>rw [hs] at hu;exact aZ hu
  | some y =>
   rw [hs] at hu
   simp only [Option.bind_some] at hu
   (refine bS ?_ (KC gq hs);intro h1 h2 h3)
   rw [List.getElem?_eq_getElem h2,Option.map_some] at hu
   (revert hu;refine si ?_;rintro rfl)
   refine aT (xA ..) ?_
   refine (DI ?_).1
   have:=KI x p y.1.slots[y.2]
   have:=(gq.slots _ h1 _ (List.getElem_mem h2)).dp
   have:=uP.dp
   lia
 have hc:ib.bv.length<=500000:=by refine U (gq.bv ..) ?_;have:=gq.b4;have:=gq.b5;lia
 have dp:=uP.dp
 have tail:=fun {ρ:Loc} {cg:AH} bT (bK:aL ib pos bn (fJ ib w p (sv (ak ib.rows) x)) pos cg) e1 e2 e3 e4 e5=>Vo G gq xp dj uP (σ:=cg) (ρ:=ρ) bT e1 e2 e3 e4 e5 Vs fun V M' I' W' S' Vt=>q V M' I' W' (aV.trans (bK.trans S')) (nx.comp Vt (Nat.le_refl _))
 by_cases hk0:(k:Int)=0
 ·wtm_at "w"
  refine FW.up (r7 G bg gq uP.nums ?_) (by lia)
  wtm_at "w"
  refine FW.up (R8 G bg gq.cM hc (by lia) hz fun cg bT bK=>?_) (by decide)
  wtm_at "k";wtm_at "s"
  exact tail bT bK rfl rfl rfl rfl rfl
 ·wtm_at "w"
  refine FW.up (r7 G bg gq uP.nums ?_) (by lia)
  wtm_at "w"
  refine FW.up (I6 G bg gq.cM hc (by lia) hz fun cg bT bK=>?_) (by decide)
  wtm_at "k";wtm_at "s"
  exact tail bT bK rfl rfl rfl rfl rfl
end
section
variable {C:Cx} {M M':Mo} {pos pos':Tg->Nat} {σ V:AH} {Q:AV->AH->Prop}
theorem Vu {i j:Nat} {l:List (Int × AV)} (hi:σ[i]?=some (.an l)) (hj:σ[j]?=some (.an l)) (hf:eZ 40 (l.map (·.2))) (K:Bool->Prop) (q:K true):eK (.ref i) (.ref j) σ K:=by
 delta eK;simp only [hi,hj];exact ⟨trivial,hf,q⟩
theorem KW {i j:Nat} {l:List AV} (hi:σ[i]?=some (.list l)) (hj:σ[j]?=some (.list l)) (hf:eZ 40 l) (K:Bool->Prop) (q:K true):eK (.ref i) (.ref j) σ K:=by
 delta eK;simp only [hi,hj];exact ⟨trivial,hf,q⟩
theorem Vv:∀ l:List Int,eZ 40 ((cx l).map (·.2)):=fun l=>by
 unfold cx;refine U List.map_map ?_
 induction l <;> simp_all [eZ,gf]
theorem D3 {A:Nat->Int}:∀ l:List Vl,(∀ v∈l,ci v<=4)->eZ 40 ((l.map (sv A)).map pv)
 | [],_=>trivial
 | v::l,hl=>⟨uA v _ 40 (by have:=hl v (.head _);lia),D3 l fun u hu=>hl u (.tail _ hu)⟩
theorem Vw (G:Good C) (W:Wd M pos σ) (I:Inv M) (q:∀ V,Q (.bool true) V):FW C 5 .yQ [.ref (pos .w)] Q σ:=by
 refine bo G (b:=Bh) (ps:=Cg) rfl rfl rfl rfl ?_
 delta Cg Bh
 have L:=I.jv
 have g6:=I.lay
 have hW:=uL W L
 have hR:=oA W I.R
 have hT:=n6 W I.cM
 have e1:M.top=16+((layW M.rows).length:Int):=by exact U I.top (U DF rfl)
 have e2:(M.ac.length:Int)=(M.rows.length:Int):=by exact U I.ac (U uw rfl)
 have hC:σ[pos .cards]?=some (.an (cx M.cards)):=W.get .cards _ rfl
 have hH:σ[pos .bv]?=some (.an (cx M.cards)):=by refine aT I.bv ?_;exact W.get .bv _ rfl
 have he:=Vu hH hC (Vv M.cards)
 have bC:=I.r4.1
 wtm_at "w"
 refine jQ M.rows.length (fun i ae V=>Gr σ V/\ae .aJ=some (.ref (pos .w))/\ae .aF=some (.ref (pos .heap))) rfl (by lia) ⟨Gr.refl σ,rfl,rfl⟩ ?_ ?_
 ·(intro i ae V K hi;refine bS ?_;intro g d1 d2;intro kk)
  have aE:=W.gr g
  obtain ⟨r,dN⟩:∃ r,M.rows[i]?=some r:=(aQ _ (List.getElem?_eq_getElem hi))
  have cK:=List.mem_of_getElem? dN
  have c5:=I.th dN
  obtain ⟨t,ht,qh,qi,Vx,Vy⟩:∃ t,M.ac[i]?=some t/\(t.af:Int)=r.num/\t.addr=ak M.rows r.num/\(t.gen:Int)=r.gen/\t.slots=r.slots.map (sv (ak M.rows)):=(MI _ c5 rfl rfl rfl rfl)
  have dG:=List.mem_of_getElem? ht
  have nd:=I.R.nd
  have Vz:=I.cM.nd
  have hR':=g _ _ hR
  have RP:=g _ _ hT
  have hA':=xz aE L
  have ad:=r3 I.R.nd I.R.pos (.inr (aB r cK rfl))
  have t2:=mI aE nd cK
  have hz:(0:Int)<=i:=Int.natCast_nonneg i
  rw [<- Int.toNat_natCast i] at dN ht
  wtm_at "w"
  refine rG (fun j acc ar=>ar=V/\acc=(r.slots.take j).map fun v=>pv (sv (ak M.rows) v)) t2 ⟨rfl,rfl⟩ ?_ ?_
  ·(intro j v acc ar K i9;refine ay ?_;rintro rfl rfl;intro kc)
   have ov:=I.slots r cK v (List.mem_of_getElem? i9)
   wtm_at "w"
   refine FW.up (r7 G aE I ov.nums ?_) ov.dp
   wtm_at "w"
   exact kc (some _) _ t2 (by have:((r.slots.take j).map fun v=>pv (sv (ak M.rows) v)).length<=3:=w9 (I.R.sl r cK);refine U List.length_append ?_;show _+1<=_;lia) ⟨rfl,(uh i9).symm⟩
  ·(intro acc ar;refine ay ?_;rintro rfl rfl)
   have hE:=KW (l:=(r.slots.map (sv (ak M.rows))).map pv) (ga (o':=.list ((r.slots.map (sv (ak M.rows))).map pv)) (by exact U (tZ aE Vz dG ..) (U Vy rfl))) gl (D3 _ fun v hv=>(I.slots r cK v hv).dp)
   refine U List.take_length (U (show (r.slots.map fun v=>pv (sv (ak M.rows) v))=(r.slots.map (sv (ak M.rows))).map pv by rw [List.map_map];rfl) ?_)
   wtm_at "w"
   exact kk _ _ ⟨g.trans (Gr.app _ _),d1,d2⟩
 ·(intro ae V;refine bS ?_;intro g d1 d2)
  wtm_at "w"
  exact q V
end
section
variable {C:Cx} {M M':Mo} {pos pos':Tg->Nat} {σ V:AH} {Q:AV->AH->Prop}
theorem VA (I:Inv M) {i:Nat}:Inv ((M.oE (M.roots.set i (.dat 9))).oF (M.cells.set i (.dat 9))) :=
 ⟨I.iH,⟨I.R.rl,I.R.nd,I.R.pos,I.R.len,I.R.sl⟩,I.lV,I.gens,fun r hr v hv=>⟨(I.slots r hr v hv).nums,(I.slots r hr v hv).np,(I.slots r hr v hv).dp⟩,
  fun v hv=>by
   rcases List.mem_or_eq_of_mem_set hv with h | rfl
   ·have:=I.roots v h
    induction v using Vl.casesOn with
    | bQ n off p=>exact this
    | dat c=>exact ⟨this.nums,this.np,this.dp⟩
    | ref n=>exact ⟨this.nums,this.np,this.dp⟩
    | str a b=>exact ⟨this.nums,this.np,this.dp⟩
   ·exact ⟨fun n hn=>by simp [bU] at hn,trivial,by simp [ci]⟩,
  I.k6,I.lay,I.ac,I.tl,I.idx,I.top,I.bv,I.hmade,by
   show M.cells.set i _=(M.roots.set i _).map _
   refine U List.map_set (U I.cells ?_);rfl,
  I.qt,I.b1,I.b2,by show (M.roots.set i _).length<=M.d;refine U List.length_set ?_;exact I.b3,I.b4,I.b5,I.bits⟩
structure VB (M M':Mo) (pos:Tg->Nat) (σ V:AH) (ρ:Loc) (a z:Int) (b:Bool):Prop where
 I:Inv M'
 W:Wd M' pos V
 S:aL M pos σ M' pos V
 nx:Nx M M' 20
 hl:M'.roots.length=M.roots.length
 e1:ρ .aJ=some (.ref (pos .w))
 e2:ρ .o9=some (.int a)
 e3:ρ .vp=some (.int z)
 e4:ρ .km=some (.bool b)
theorem VC (G:Good C) (W:Wd M pos σ) (I:Inv M) (hd:M.d+20<=10000) (bu:0<M.roots.length)
  (q:∀ V M',Inv M'->Wd M' pos V->aL M pos σ M' pos V->Nx M M' 20->M'.roots.length=M.roots.length->Q .none V) :
  FW C 2 .yR [.ref (pos .nums),.ref (pos .d),.ref (pos .w)] Q σ:=by
 refine bo G (b:=Bi) (ps:=Ch) rfl rfl rfl rfl ?_
 delta Ch Bi
 have N:iG M:=⟨I.iH.1,I.iH.2,by have:=I.b5;lia⟩
 have g6:=I.lay
 have hk:(0:Int)<(M.roots.length:Int):=by lia
 have md:(M.roots.length:Int)<=10000:=by have:=I.r4;lia
 wtm_at "w"
 refine FW.up (ia G W N bu fun ai a aE ah ha=>?_) (by decide)
 wtm_at "w"
 refine FW.up (ia G aE (N.sD (by lia)) bu fun aH b bc av hb=>?_) (by decide)
 wtm_at "w"
 refine FW.up (ia G bc ((N.sD (by lia)).sD (by show M.d+1+1<=100000;lia)) (n:=8) (by decide) fun bn c bg aV hc=>?_) (by decide)
 have gq:Inv (M.sD (M.d+1+1+1)):=I.draw (c':=M.count) (by lia) (by lia)
 have xG:=(ah.trans av).trans aV
 change Wd (M.sD (M.d+1+1+1)) pos bn at bg
 change aL M pos σ (M.sD (M.d+1+1+1)) pos bn at xG
 have VD:Nx M (M.sD (M.d+1+1+1)) 20:=⟨rfl,rfl,by show M.d<=M.d+1+1+1;lia,by show M.d+1+1+1<=M.d+20;lia,Nat.le_refl _⟩
 have VE:(M.sD (M.d+1+1+1)).roots.length=M.roots.length:=rfl
 clear ah av aV aE bc W
 generalize M.sD (M.d+1+1+1)=ib at *
 wtm_at "w"
 refine jQ M.roots.length (fun i ae V=>∃ M',VB M M' pos σ V ae a (((a:Int)+1+b) % (M.roots.length:Int)) ((c:Int)==7)) rfl (by lia) ⟨ib,gq,bg,xG,VD,VE,rfl,rfl,rfl,rfl⟩ ?_ ?_
 ·(intro i ae V K hi;refine aM ?_;intro M' D;intro kk)
  have W':=D.W
  have e1:=D.e1
  have e2:=D.e2
  have e3:=D.e3
  have e4:=D.e4
  have acg:=D.I.lay
  have hz:(0:Int)<=i:=Int.natCast_nonneg i
  have iQ:i<M'.roots.length:=by refine U D.hl ?_;exact hi
  have fY:M'.cells.length=M'.roots.length:=by exact U D.I.cells (U (List.length_map ..) rfl)
  have VF:∃ t,Ec (co ae .ez (.int i)) V (.or [.nm .km,.eq false (.nm .ez) (.nm .o9),.eq false (.nm .ez) (.nm .vp)]) t:=by
   generalize ((c:Int)==7)=t at e4
   induction t
   ·by_cases h1:(i:Int)=a
    ·exact (aQ true (by wtm_at "c"))
    ·by_cases h2:(i:Int)=((a:Int)+1+b) % (M.roots.length:Int)
     ·exact (aQ true (by wtm_at "c"))
     ·exact (aQ false (by wtm_at "c"))
   ·exact (aQ true (by wtm_at "c"))
  (revert VF;refine aM ?_;intro t ht)
  wtm_at "k";wtm_at "x"
  refine Ro ht ?_
  induction t
  ·wtm_at "w"
   exact kk _ _ ⟨M',D.I,W',D.S,D.nx,D.hl,e1,e2,e3,e4⟩
  ·have hR:V[pos .roots]?=some (.list (M'.roots.map lv)):=W'.get .roots _ rfl
   have Ks:(i:Int)<((M'.roots.map lv).length:Int):=by refine U (List.length_map ..) ?_;lia
   have DR:(i:Int)<((M'.cells.map pv).length:Int):=by refine U (List.length_map ..) ?_;lia
   (refine ay ?_ (DK W' (l:=M'.roots.set i (.dat 9)) (o:=.list ((M'.roots.map lv).set (i:Int).toNat (.tup [.int 1,.int 9]))) (by refine U (Int.toNat_natCast ..) (U (List.map_set ..) ?_);rfl));intro cR dk)
   have hC:(V.set (pos .roots) (.list ((M'.roots.map lv).set (i:Int).toNat (.tup [.int 1,.int 9]))))[pos .cells]?=some (.list (M'.cells.map pv)):=cR.get .cells _ rfl
   (refine ay ?_ (DL cR (l:=M'.cells.set i (.dat 9)) (o:=.list ((M'.cells.map pv).set (i:Int).toNat (.tup [.int 1,.int 9]))) (by refine U (Int.toNat_natCast ..) (U (List.map_set ..) ?_);rfl));intro cJ dm)
   wtm_at "w"
   refine kk _ _ ⟨_,VA D.I (i:=i),cJ,(D.S.trans dk).trans dm,⟨D.nx.ns,D.nx.asked,D.nx.k7,D.nx.fN,?_⟩,?_,e1,e2,e3,e4⟩
   ·show M.roots.length<=(M'.roots.set i _).length
    refine U List.length_set ?_;exact D.nx.j6
   ·show (M'.roots.set i _).length=_
    refine U List.length_set ?_;exact D.hl
 ·(intro ae V;refine aM ?_;intro M' D)
  wtm_at "w"
  exact q _ _ D.I D.W D.S D.nx D.hl
end
noncomputable def bk (A:Nat->Int) (r:aq):Th:={ af:=r.num,addr:=A r.num,slots:=r.slots.map (sv A),gen:=r.gen,size:=bw r }
theorem D4 {l:List aq} (hn:(l.map (·.num)).Nodup):dz (ak l) 0 l=l.map (bk (ak l)):=by
 refine List.ext_getElem? fun i=>?_
 refine U xq (U List.getElem?_map ?_)
 induction h:l[i]? with
 | none=>rfl
 | some r =>
  simp only [Option.map_some]
  congr 1
  unfold bk
  refine U (gN hn h ..) ?_
  simp
noncomputable def bump (g:Nat) (r:aq):aq:=if r.gen<=g then { r with gen:=if r.gen+1<2 then r.gen+1 else 2 } else r
noncomputable def cS (g:Nat) (K:List Nat) (r:aq):Bool:=decide (g<r.gen)||decide (r.num∈K)
noncomputable def be (g:Nat) (K:List Nat) (l:List aq):List aq:=(l.filter (cS g K)).map (bump g)
theorem lh {g:Nat} {r:aq}:(bump g r).num=r.num:=by unfold bump;split <;> rfl
theorem r9 {g:Nat} {r:aq}:(bump g r).slots=r.slots:=by unfold bump;split <;> rfl
theorem KY {g:Nat} {r:aq}:bw (bump g r)=bw r:=by unfold bw;exact U r9 rfl
inductive Lr (M:Mo) (g:Nat):aq->Prop
 | root {v:Vl} {n:Nat} {r:aq}:v∈M.roots->n∈a0 v->r∈M.rows->r.num=n->r.gen<=g->Lr M g r
 | old {u:aq} {i:Nat} {v:Vl} {n:Nat} {r:aq}:u∈M.rows->g<u.gen->u.slots[i]?=some v->cP (ak M.rows u.num) i M.bits∈M.cards->n∈a0 v->r∈M.rows->r.num=n->r.gen<=g->Lr M g r
 | step {u:aq} {v:Vl} {n:Nat} {r:aq}:Lr M g u->v∈u.slots->n∈a0 v->r∈M.rows->r.num=n->r.gen<=g->Lr M g r
theorem Lr.mem {M:Mo} {g:Nat} {r:aq} (h:Lr M g r):r∈M.rows/\r.gen<=g:=by cases h <;> exact ⟨by assumption,by assumption⟩
noncomputable def oJ (M:Mo) (g:Nat) (K:List Nat):Prop:=∀ r∈M.rows,r.num∈K↔Lr M g r
section
variable {M:Mo} {g:Nat} {K:List Nat}
theorem Inv.li (I:Inv M):M.ac=M.rows.map (bk (ak M.rows)):=by exact U I.ac (U (D4 I.R.nd ..) rfl)
theorem Inv.m7 (I:Inv M) {r u:aq} (hr:r∈M.rows) (hu:u∈M.rows) (h:r.num=u.num):r=u:=by
 (refine aM ?_ (List.mem_iff_getElem?.mp hr);intro i hi)
 (refine aM ?_ (List.mem_iff_getElem?.mp hu);intro j hj)
 have:=EU I.R.nd hi hj h
 subst this
 rw [hi] at hj
 exact Option.some.inj hj
theorem Inv.D5 (I:Inv M) {r:aq} (hr:r∈M.rows):16<=ak M.rows r.num:=by
 (refine aM ?_ (List.mem_iff_getElem?.mp hr);intro i hi)
 refine U (gN I.R.nd hi ..) ?_;lia
theorem Inv.KZ (I:Inv M) {r:aq} (hr:r∈M.rows) {w:Int} (h1:ak M.rows r.num<=w) (h2:w<ak M.rows r.num+bw r):gJ M.ac w=some (bk (ak M.rows) r):=by
 (refine aM ?_ (List.mem_iff_getElem?.mp hr);intro i hi)
 exact I.find hi h1 h2
theorem Inv.VG (I:Inv M) {n:Nat} (h:∃ r∈M.rows,r.num=n):ak M.rows n≠0:=by
 (revert h;refine au ?_;rintro r hr rfl)
 have:=I.D5 hr;lia
theorem qy (I:Inv M) {r:aq} (hr:r∈M.rows) {v:Vl} (hv:v∈r.slots):qs M v:=by
 have:=I.slots r hr v hv
 induction v using Vl.casesOn with
 | bQ n off p=>exact this.np.elim
 | _=>exact this
theorem uQ (I:Inv M) {v:Vl} (hv:qs M v) {n:Nat} (hn:n∈a0 v):∃ r∈M.rows,r.num=n:=by
 (refine ay ?_ (m6 hn);intro h1 h2)
 exact (xu hv n h1).resolve_left h2
theorem sb (I:Inv M) {v:Vl} (hv:qs M v) {u:Th}:(∃ w∈fv (sv (ak M.rows) v),hit M.ac g w u)↔∃ n∈a0 v,∃ r∈M.rows,r.num=n/\r.gen<=g/\u=bk (ak M.rows) r:=by
 have one:∀ {n:Nat},n≠0->(∃ r∈M.rows,r.num=n)->∀ {w:Int},(∃ r∈M.rows,r.num=n/\ak M.rows n<=w/\w<ak M.rows n+bw r)->(hit M.ac g w u↔∃ r∈M.rows,r.num=n/\r.gen<=g/\u=bk (ak M.rows) r):=by
  (rintro n h0 - w;refine kj ?_;rintro r hr rfl h1 h2)
  have hf:=I.KZ hr h1 h2
  have:=I.D5 hr
  constructor
  ·(refine bS ?_;intro _ h3 h4)
   rw [hf] at h3
   (revert h3;refine si ?_;rintro rfl)
   exact (l4 r hr rfl h4 rfl)
  ·(refine kj ?_;rintro r' dP e h4 rfl)
   have:=I.m7 dP hr e
   subst this
   exact ⟨by lia,hf,h4⟩
 have self:∀ {n:Nat},n≠0->(∃ r∈M.rows,r.num=n)->(hit M.ac g (ak M.rows n) u↔∃ r∈M.rows,r.num=n/\r.gen<=g/\u=bk (ak M.rows) r):=fun {n} h0 h=>one h0 h (by
  (revert h;refine au ?_;intro r hr e)
  have:=qr r
  exact (l4 r hr e (Int.le_refl _) (by lia)))
 induction v using Vl.casesOn with
 | dat c=>simp [sv,fv,b8,a0]
 | ref n =>
  by_cases h0:n=0
  ·subst h0
   simp [sv,fv,a0,m0 I.R.pos,hit]
  ·have hl:=(hv.nums n (by simp [bU])).resolve_left h0
   simp only [sv,fv,a0,if_neg h0,List.mem_singleton,exists_eq_left]
   exact self h0 hl
 | str a b =>
  have hp:b8 (sv (ak M.rows) (.str a b))=(a0 (.str a b)).map (ak M.rows):=uO (m0 I.R.pos) hv.np fun n hn h0=>I.VG ((hv.nums n hn).resolve_left h0)
  have:fv (sv (ak M.rows) (.str a b))=(a0 (.str a b)).map (ak M.rows):=hp
  refine U this ?_
  constructor
  ·(refine au ?_;intro w hw h)
   (refine au ?_ (List.mem_map.mp hw);rintro n hn rfl)
   exact (aB n hn ((self (m6 hn).2 (uQ I hv hn)).mp h))
  ·(refine au ?_;intro n hn h)
   exact (aB _ (List.mem_map_of_mem hn) ((self (m6 hn).2 (uQ I hv hn)).mpr h))
 | bQ n off p =>
  (revert hv;refine bO ?_;intro r hr e ho)
  have h0:n≠0:=by have:=I.R.pos r hr;lia
  simp only [sv,fv,a0,if_neg h0,List.mem_singleton,exists_eq_left]
  exact one h0 (aB r hr e) (l4 r hr e (by lia) (by lia))
theorem VH (I:Inv M) {r:aq} (hr:r∈M.rows):Rc M.ac g (n9 M g) (bk (ak M.rows) r)↔Lr M g r:=by
 have inj:∀ {r u:aq},r∈M.rows->u∈M.rows->bk (ak M.rows) r=bk (ak M.rows) u->r=u:=fun hr hu e=>I.m7 hr hu (congrArg Th.af e)
 constructor
 ·intro h
  have key:∀ t,Rc M.ac g (n9 M g) t->∃ r∈M.rows,t=bk (ak M.rows) r/\Lr M g r:=by
   intro t h
   induction h with
   | @base w t hS hh =>
    rcases hS with ⟨K2,hc,hw⟩ | ⟨hg,x,hx,K2,hs,hw⟩
    ·rw [I.cells] at hc
     (refine au ?_ (List.mem_map.mp hc);rintro v hv rfl)
     (refine yk ?_ ((sb I (I.roots v hv)).mp (aB w hw hh));rintro n hn r hr e hg rfl)
     exact (ff r hr rfl (.root hv hn hr e hg))
    ·(refine jw ?_ (Jd hx);intro h1 h2 h3 h4)
     rw [I.li] at h1
     (refine au ?_ (List.mem_map.mp h1);intro u hu e)
     obtain ⟨t,i⟩:=x
     dsimp only at e h2 h3 h4 hs
     subst e
     simp only [bk,List.getElem?_map] at hs h4
     induction hv:u.slots[i]? with
     | none=>rw [hv] at hs;exact aZ hs
     | some v =>
      rw [hv] at hs
      (revert hs;refine si ?_;rintro rfl)
      (refine yk ?_ ((sb I (qy I hu (List.mem_of_getElem? hv))).mp (aB w hw hh));rintro n hn r hr e hg rfl)
      rw [I.bv] at h4
      exact (ff r hr rfl (.old hu h3 hv h4 hn hr e hg))
   | @step u t K2 w h1 h2 h3 h4 ih =>
    (revert ih;refine bO ?_;rintro r hr rfl hL)
    (refine au ?_ (List.mem_map.mp h2);rintro v hv rfl)
    (refine yk ?_ ((sb I (qy I hr hv)).mp (aB w h3 h4));rintro n hn r' dP e hg rfl)
    exact (ff r' dP rfl (.step hL hv hn dP e hg))
  (refine bO ?_ (key _ h);intro r' dP e hL)
  refine U (inj hr dP e ..) ?_;exact hL
 ·intro h
  clear hr
  induction h with
  | @root v n r hv hn hr e hg =>
   (refine au ?_ ((sb I (I.roots v hv) (u:=bk (ak M.rows) r)).mpr (yn n hn r hr e hg rfl));intro w hw hh)
   exact .base (.inl (aB _ (by rw [I.cells];exact List.mem_map_of_mem hv) hw)) hh
  | @old u i v n r hu uR hs hc hn hr e hg =>
   (refine au ?_ ((sb I (qy I hu (List.mem_of_getElem? hs)) (u:=bk (ak M.rows) r)).mpr (yn n hn r hr e hg rfl));intro w hw hh)
   have h2:=I.lV u hu
   refine .base (.inr (MG (by lia) (bk (ak M.rows) u,i) ?_ (sv (ak M.rows) v) (by simp [bk,hs]) hw)) hh
   unfold iZ
   refine List.mem_flatMap.mpr (aB (bk (ak M.rows) u) (by refine U I.li ?_;exact List.mem_map_of_mem hu) ?_)
   rw [if_pos (show (bk (ak M.rows) u).gen>g from uR)]
   refine List.mem_map.mpr (aB i ?_ rfl)
   rw [List.mem_filter]
   have hi:=(List.getElem?_eq_some_iff.mp hs).1
   exact ⟨by simp [bk];exact hi,by simp only [decide_eq_true_eq];refine U I.bv ?_;exact hc⟩
  | @step u v n r hL hv hn hr e hg ih =>
   have hu:=hL.mem.1
   (refine au ?_ ((sb I (qy I hu hv) (u:=bk (ak M.rows) r)).mpr (yn n hn r hr e hg rfl));intro w hw hh)
   exact .step ih (List.mem_map_of_mem hv) hw hh
theorem K3 (I:Inv M) (L:oJ M g K) {Kh:List Int} (H:mP M g Kh) {r:aq} (hr:r∈M.rows):ak M.rows r.num∈Kh↔r.num∈K:=by
 rw [L r hr,<- VH I hr]
 exact H.iff (bk (ak M.rows) r) (by refine U I.li ?_;exact List.mem_map_of_mem hr)
end
noncomputable def eS (l:List aq):Nat:=(l.map bw).sum
theorem K4 (l m:List aq):bF (l++m) l.length=eS l:=by unfold bF eS;simp
theorem VI {g:Nat} {e:Int} (l m:List Th):f0 (l++m) g e=f0 m g (f0 l g e):=by unfold f0;exact U List.foldl_append rfl
theorem K5 {g:Nat}:∀ {l:List Th} {e:Int},(∀ t∈l,t.gen<=g)->f0 l g e=e
 | [],e,h=>rfl
 | t::l,e,h=>by
  have h1:=h t (.head _)
  have h2:=K5 (l:=l) (e:=e) fun t ht=>h t (.tail _ ht)
  unfold f0 at h2 ⊢
  refine U List.foldl_cons (U (if_neg (by lia) ..) ?_)
  exact h2
theorem K6 {g:Nat} {A:Nat->Int}:∀ {l:List aq} {a:Nat},(∀ r∈l,g<r.gen)->f0 (dz A a l) g (16+(a:Int))=16+((a+eS l:Nat):Int)
 | [],a,h=>by simp [dz,f0,eS]
 | r::l,a,h=>by
  have h1:=h r (.head _)
  have h2:=K6 (A:=A) (l:=l) (a:=a+bw r) fun t ht=>h t (.tail _ ht)
  have h3:=qr r
  unfold f0 at h2 ⊢
  simp only [dz,List.foldl_cons]
  refine U (if_pos ⟨h1,by lia⟩ ..) ?_
  have e:(16:Int)+(a:Int)+((bw r:Nat):Int)=16+((a+bw r:Nat):Int):=by lia
  refine U e (U h2 ?_)
  simp [eS];lia
theorem K7 {g:Nat}:∀ {l:List aq},l.Pairwise (fun a b=>b.gen<=a.gen)->∃ P S,l=P++S/\(∀ r∈P,g<r.gen)/\∀ r∈S,r.gen<=g
 | [],_=>(cA ([]) ([]) rfl (by simp) (by simp))
 | r::l,h=>by
  rw [List.pairwise_cons] at h
  by_cases c:g<r.gen
  ·(refine cW ?_ (K7 (g:=g) h.2);rintro P S rfl h1 h2)
   exact (cA (r::P) S rfl (by intro x hx;rcases List.mem_cons.mp hx with rfl | hx;exact c;exact h1 x hx) h2)
  ·refine (cA ([]) (r::l) rfl (by simp) (fun x hx=>?_))
   rcases List.mem_cons.mp hx with rfl | hx
   ·lia
   ·have:=h.1 x hx;lia
theorem filter_all {α:Type} {p:α->Bool} {l:List α} (h:∀ x∈l,p x=true):l.filter p=l:=List.filter_eq_self.mpr h
theorem D6 {g:Nat} {K:List Nat} {r:aq} (h:g<r.gen):cS g K r=true:=by simp [cS,h]
theorem K8 {g:Nat} {K:List Nat} (l m:List aq):be g K (l++m)=be g K l++be g K m:=by simp [be]
theorem D7 {g:Nat} {K:List Nat} {l:List aq}:(be g K l).map (·.num)=(l.filter (cS g K)).map (·.num):=by
 unfold be;refine U List.map_map ?_;exact List.map_congr_left fun r Y=>lh
theorem uS {g:Nat} {K:List Nat} {l:List aq} (h:(l.map (·.num)).Nodup):((be g K l).map (·.num)).Nodup:=by
 refine U D7 ?_
 exact h.sublist (List.filter_sublist.map _)
theorem VJ {g:Nat} {K:List Nat} {l:List aq}:eS (be g K l)=eS (l.filter (cS g K)):=by
 unfold eS be;refine U List.map_map ?_;congr 1;exact List.map_congr_left fun r Y=>KY
theorem uT {g:Nat} {K:List Nat} {l:List aq} {x:aq} (h:x∈be g K l):∃ r∈l,cS g K r=true/\x=bump g r:=by
 (refine au ?_ (List.mem_map.mp h);rintro r hr rfl)
 rw [List.mem_filter] at hr
 exact (ff r hr.1 hr.2 rfl)
theorem K9 {g:Nat} {K:List Nat} {l:List aq} {r:aq} (h:r∈l) (hk:cS g K r=true):bump g r∈be g K l :=
 List.mem_map_of_mem (List.mem_filter.mpr ⟨h,hk⟩)
theorem La {g:Nat} {K:List Nat} {l R1 R2:List aq} {r:aq} (hn:(l.map (·.num)).Nodup) (e:l=R1++r::R2) (hk:cS g K r=true):ak (be g K l) r.num=16+((eS (R1.filter (cS g K)):Nat):Int):=by
 have hi:(be g K l)[(be g K R1).length]?=some (bump g r):=by
  refine U e (U (K8 ..) ?_)
  have:be g K (r::R2)=bump g r::be g K R2:=by unfold be;refine U (List.filter_cons ..) (U (if_pos hk ..) ?_);rfl
  refine U this ?_;simp
 have:=gN (uS hn) hi
 rw [lh] at this
 exact U this (U e (U (K8 ..) (U (K4 ..) (U (VJ ..) rfl))))
section
variable {M:Mo} {g:Nat} {K:List Nat} {Kh:List Int}
theorem VK (I:Inv M) {P S:List aq} (e:M.rows=P++S) (hP:∀ r∈P,g<r.gen) (hS:∀ r∈S,r.gen<=g):f0 M.ac g 16=16+((eS P:Nat):Int):=by
 rw [I.ac,e,DJ,VI,K5]
 ·have:=K6 (A:=ak (P++S)) (a:=0) hP
  simpa using this
 ·intro t ht
  (refine aM ?_ (List.mem_iff_getElem?.mp ht);intro i hi)
  rw [xq] at hi
  induction hr:S[i]? with
  | none=>rw [hr] at hi;exact aZ hi
  | some r=>rw [hr] at hi;(revert hi;refine si ?_;rintro rfl);exact hS r (List.mem_of_getElem? hr)
theorem Lc {A:Nat->Int} (hK:∀ r∈M.rows,A r.num∈Kh↔r.num∈K):∀ {l:List aq} {b:Int},(∀ r∈l,r∈M.rows)->jW g Kh b (l.map (bk A))=b+((eS (l.filter fun r=>decide (r.gen<=g)&&decide (r.num∈K)):Nat):Int)
 | [],b,h=>by simp [jW,eS]
 | r::l,b,h=>by
  have h1:=hK r (h r (.head _))
  have h2:∀ b,jW g Kh b (l.map (bk A))=_:=fun b=>Lc hK (l:=l) (b:=b) fun x hx=>h x (.tail _ hx)
  unfold jW at h2 ⊢
  simp only [List.map_cons,List.foldl_cons,List.filter_cons]
  rw [h2]
  by_cases c:r.gen<=g/\r.num∈K
  ·have:(bk A r).gen<=g/\(bk A r).addr∈Kh:=⟨c.1,h1.mpr c.2⟩
   rw [if_pos this,if_pos (by simp [c.1,c.2])]
   simp [eS,bk];lia
  ·have:¬ ((bk A r).gen<=g/\(bk A r).addr∈Kh):=fun h=>c ⟨h.1,h1.mp h.2⟩
   rw [if_neg this,if_neg (by simp;intro a b;exact c ⟨a,b⟩)]
theorem VL {a:Int} {l m:List (Int × Int)} (h:a∉l.map (·.1)):lk (l++m) a=lk m a:=by
 unfold lk
 rw [List.find?_append,List.find?_eq_none.mpr,Option.none_or]
 intro x hx
 simp only [decide_eq_true_eq]
 exact fun e=>h (List.mem_map.mpr (aB x hx e))
theorem Ld {a:Int} {l:List (Int × Int)} (h:a∉l.map (·.1)):lk l a=none:=by
 unfold lk
 rw [List.find?_eq_none.mpr];rfl
 intro x hx
 simp only [decide_eq_true_eq]
 exact fun e=>h (List.mem_map.mpr (aB x hx e))
theorem VM {g:Nat} {K:List Nat} {l:List aq}:eS (l.filter (cS g K))=eS (l.filter fun r=>decide (g<r.gen))+eS (l.filter fun r=>decide (r.gen<=g)&&decide (r.num∈K)):=by
 induction l with
 | nil=>rfl
 | cons r l ih =>
  simp only [List.filter_cons]
  have e:cS g K r=(decide (g<r.gen)||decide (r.num∈K)):=rfl
  refine U e ?_
  by_cases c:g<r.gen
  ·have:¬ r.gen<=g:=by lia
   simp [c,this,eS] at ih ⊢;lia
  ·have:r.gen<=g:=by lia
   by_cases d:r.num∈K <;> simp [c,d,this,eS] at ih ⊢ <;> wtm_at "o"
theorem Le (I:Inv M) (hK:∀ r∈M.rows,ak M.rows r.num∈Kh↔r.num∈K) {r:aq} (hr:r∈M.rows) :
  lk (c9 M g Kh) (ak M.rows r.num)=if r.gen<=g/\r.num∈K then some (ak (be g K M.rows) r.num) else none:=by
 (refine gA ?_ (List.append_of_mem hr);intro R1 R2 e)
 (refine cW ?_ (K7 (g:=g) I.gens);intro P S eP hP hS)
 have Lf:∀ x∈R1,x∈M.rows:=fun x hx=>by refine U e ?_;exact List.mem_append_left _ hx
 have nd:=I.R.nd
 have VN:∀ x∈R1,ak M.rows x.num≠ak M.rows r.num:=fun x hx he=>by
  have xE:=Lf x hx
  (refine aM ?_ (List.mem_iff_getElem?.mp hx);intro i hi)
  have Lg:=(List.getElem?_eq_some_iff.mp hi).1
  have h1:M.rows[i]?=some x:=by refine U e (U (List.getElem?_append_left Lg ..) ?_);exact hi
  have h2:M.rows[R1.length]?=some r:=by refine U e ?_;simp
  rw [gN nd h1,gN nd h2] at he
  have:=rY h1 Lg
  have:=qr x
  lia
 have key:∀ a∈(c9 M g Kh).map (·.1),∃ t∈M.ac,t.addr=a/\t.gen<=g/\a∈Kh:=rR _ _
 by_cases c:r.gen<=g/\r.num∈K
 ·refine U (if_pos c ..) ?_
  unfold c9
  have VO:M.ac=R1.map (bk (ak M.rows))++bk (ak M.rows) r::R2.map (bk (ak M.rows)):=by
   refine U I.li ?_;exact (congrArg (List.map (bk (ak M.rows))) e).trans (by simp)
  have VP:=VK (g:=g) I eP hP hS
  refine U VP (U VO (U (xb ..) ?_))
  rw [VL (by
   intro hm
   (refine bO ?_ (rR _ _ _ hm);intro t ht ha _)
   (refine au ?_ (List.mem_map.mp ht);rintro x hx rfl)
   exact VN x hx ha)]
  have hc:(bk (ak M.rows) r).gen<=g/\(bk (ak M.rows) r).addr∈Kh:=⟨c.1,(hK r hr).mpr c.2⟩
  have e1:∀ b,fK g Kh b (bk (ak M.rows) r::R2.map (bk (ak M.rows)))=(ak M.rows r.num,b)::fK g Kh (b+(bw r:Nat)) (R2.map (bk (ak M.rows))):=fun b=>by
   show (if _ then _ else _)=_
   refine U (if_pos hc ..) ?_;rfl
  rw [e1]
  have e2:∀ b l,lk ((ak M.rows r.num,b)::l) (ak M.rows r.num)=some b:=fun b l=>by unfold lk;simp
  rw [e2,Lc hK Lf,La nd e (by simp [cS,c.2])]
  refine U VM ?_
  have:R1.filter (fun r=>decide (g<r.gen))=P:=by
   have h1:M.rows.filter (fun r=>decide (g<r.gen))=P:=by
    refine U eP (U (List.filter_append ..) (U (filter_all (fun x hx=>by simpa using hP x hx) ..) (U (List.filter_eq_nil_iff.mpr (fun x hx=>by have:=hS x hx;simp;lia) ..) ?_)))
    simp
   have h2:∀ x∈r::R2,¬ (g<x.gen):=by
    have hg:=I.gens
    rw [e,List.pairwise_append,List.pairwise_cons] at hg
    intro x hx
    rcases List.mem_cons.mp hx with rfl | hx
    ·lia
    ·have:=hg.2.1.1 x hx;lia
   have h3:(r::R2).filter (fun r=>decide (g<r.gen))=[]:=List.filter_eq_nil_iff.mpr fun x hx=>by simpa using h2 x hx
   rw [e,List.filter_append,h3,List.append_nil] at h1
   exact h1
  refine U this ?_
  congr 1
  lia
 ·refine U (if_neg c ..) ?_
  refine Ld fun hm=>?_
  (refine kj ?_ (key _ hm);intro t ht ha hg hk)
  rw [I.li] at ht
  (refine au ?_ (List.mem_map.mp ht);rintro x hx rfl)
  have hh:=w4 I.cM (t:=bk (ak M.rows) x) (u:=bk (ak M.rows) r) (by refine U I.li ?_;exact List.mem_map_of_mem hx) (by refine U I.li ?_;exact List.mem_map_of_mem hr) ha
  have:x=r:=I.m7 hx hr (congrArg Th.af hh)
  subst this
  exact c ⟨hg,(hK x hr).mp hk⟩
theorem Lh (I:Inv M) {r:aq} (hr:r∈M.rows) (h:g<r.gen):ak (be g K M.rows) r.num=ak M.rows r.num:=by
 (refine gA ?_ (List.append_of_mem hr);intro R1 R2 e)
 refine U (La I.R.nd e (D6 h) ..) ?_
 have h2:M.rows[R1.length]?=some r:=by refine U e ?_;simp
 refine U (gN I.R.nd h2 ..) ?_
 have hg:=I.gens
 rw [e,List.pairwise_append] at hg
 refine U (filter_all fun x hx=>D6 (by have:=hg.2.2 x hx r (.head _);lia) ..) ?_
 have:bF M.rows R1.length=eS R1:=by refine U e ?_;exact K4 _ _
 exact U this rfl
theorem VQ (I:Inv M) (hK:∀ r∈M.rows,ak M.rows r.num∈Kh↔r.num∈K) {r:aq} (hr:r∈M.rows):bB g (c9 M g Kh) (bk (ak M.rows) r)=cS g K r:=by
 unfold bB cS
 show (decide (g<r.gen)||(lk (c9 M g Kh) (ak M.rows r.num)).isSome)=_
 refine U (Le I hK hr ..) ?_
 by_cases c:g<r.gen
 ·simp [c]
 ·have:r.gen<=g:=by lia
  by_cases d:r.num∈K <;> simp [c,d,this]
theorem D8 (I:Inv M) (hK:∀ r∈M.rows,ak M.rows r.num∈Kh↔r.num∈K) {r:aq} (hr:r∈M.rows) (hk:cS g K r=true):(lk (c9 M g Kh) (ak M.rows r.num)).getD (ak M.rows r.num)=ak (be g K M.rows) r.num:=by
 refine U (Le I hK hr ..) ?_
 by_cases c:r.gen<=g
 ·have:r.num∈K:=by
   unfold cS at hk
   simp at hk
   exact hk.resolve_left (by lia)
  refine U (if_pos ⟨c,this⟩ ..) ?_;rfl
 ·refine U (if_neg (fun h=>c h.1) ..) (U (Lh I hr (by lia) ..) ?_);rfl
noncomputable def qz (M:Mo) (g:Nat) (K:List Nat) (v:Vl):Prop:=∀ n∈bU v,n=0∨∃ r∈M.rows,r.num=n/\cS g K r=true
theorem VS (I:Inv M):lk (c9 M g Kh) 0=none:=Ld fun hm=>by
 (refine bO ?_ (rR _ _ _ hm);intro t ht ha _)
 rw [I.li] at ht
 (refine au ?_ (List.mem_map.mp ht);rintro x hx rfl)
 have:=I.D5 hx
 have ha:ak M.rows x.num=0:=ha
 lia
theorem VU (I:Inv M):ak (be g K M.rows) 0=0:=m0 fun x hx=>by
 (refine bO ?_ (uT hx);rintro r hr _ rfl)
 refine U lh ?_;exact I.R.pos r hr
theorem uU (I:Inv M) (hK:∀ r∈M.rows,ak M.rows r.num∈Kh↔r.num∈K):∀ {v:Vl},kZ v->qz M g K v->cQ M.ac (c9 M g Kh) (sv (ak M.rows) v)=sv (ak (be g K M.rows)) v
 | .dat c,_,_=>rfl
 | .ref n,_,h=>by
  simp only [sv,cQ]
  rcases h n (by simp [bU]) with rfl | ⟨r,hr,rfl,hk⟩
  ·refine U (m0 I.R.pos ..) (U (VS I ..) (U (VU I ..) ?_));rfl
  ·exact U (D8 I hK hr hk ..) rfl
 | .str a b,hn,h=>by
  simp only [sv,cQ]
  exact U (uU I hK hn.1 fun n hn=>h n (by simp [bU,hn]) ..) (U (uU I hK hn.2 fun n hn=>h n (by simp [bU,hn]) ..) rfl)
 | .bQ _ _ _,hn,_=>hn.elim
theorem Li (I:Inv M) (hK:∀ r∈M.rows,ak M.rows r.num∈Kh↔r.num∈K) {v:Vl} (hv:qs M v) (h:qz M g K v):cQ M.ac (c9 M g Kh) (sv (ak M.rows) v)=sv (ak (be g K M.rows)) v:=by
 induction v using Vl.casesOn with
 | bQ n off p =>
  (revert hv;refine bO ?_;rintro u hu rfl ho)
  simp only [sv,cQ]
  have hk:cS g K u=true:=by
   rcases h u.num (by simp [bU]) with h0 | ⟨r,hr,e,hk⟩
   ·have:=I.R.pos u hu;lia
   ·refine aT (I.m7 hr hu e ..) ?_;exact hk
  unfold mw
  refine U (I.KZ hu (w:=ak M.rows u.num+off) (by lia) (by lia) ..) ?_
  show Pv.bQ (match lk (c9 M g Kh) (ak M.rows u.num) with | some b=>_ | none=>_) p=_
  have hd:=D8 I hK hu hk
  induction hl:lk (c9 M g Kh) (ak M.rows u.num) with
  | none=>rw [hl] at hd;simp only [Option.getD_none] at hd;simp only;exact U hd rfl
  | some b =>
   rw [hl] at hd
   simp only [Option.getD_some] at hd
   simp only [bk]
   refine U hd ?_
   congr 1
   lia
 | dat c=>exact uU I hK hv.np h
 | ref n=>exact uU I hK hv.np h
 | str a b=>exact uU I hK hv.np h
theorem VV {g:Nat} {mv:List (Int × Int)} {t:Th} (h:t.gen>g):bE g mv t=t:=by unfold bE;exact if_pos h
theorem VW {g:Nat} {mv:List (Int × Int)} {t:Th} (h:¬ t.gen>g):bE g mv t={ t with addr:=(lk mv t.addr).getD t.addr,gen:=if t.gen<2 then t.gen+1 else t.gen }:=by unfold bE;exact if_neg h
theorem VX (I:Inv M) (hK:∀ r∈M.rows,ak M.rows r.num∈Kh↔r.num∈K) {r:aq} (hr:r∈M.rows) (hk:cS g K r=true) (hs:∀ v∈r.slots,qz M g K v) :
  xi M g (c9 M g Kh) (bk (ak M.rows) r)=bk (ak (be g K M.rows)) (bump g r):=by
 have fD:(r.slots.map (sv (ak M.rows))).map (cQ M.ac (c9 M g Kh))=r.slots.map (sv (ak (be g K M.rows))):=by
  refine U List.map_map ?_
  exact List.map_congr_left fun v hv=>Li I hK (qy I hr hv) (hs v hv)
 unfold xi
 by_cases c:g<r.gen
 ·have hb:bump g r=r:=by unfold bump;exact U (if_neg (by lia) ..) rfl
  refine U (VV (by exact c) ..) (U hb ?_)
  simp only [bk]
  exact U fD (U (Lh I hr c ..) rfl)
 ·refine U (VW (by show ¬ r.gen>g;lia) ..) ?_
  have hb:bump g r={ r with gen:=if r.gen+1<2 then r.gen+1 else 2 }:=by unfold bump;exact U (if_pos (by lia) ..) rfl
  refine U hb ?_
  have:=D8 I hK hr hk
  simp only [bk]
  refine U fD (U this ?_)
  have qw:=I.lV r hr
  have VY:(if r.gen<2 then r.gen+1 else r.gen)=if r.gen+1<2 then r.gen+1 else 2:=by split <;> split <;> wtm_at "o"
  exact congrArg (fun k:Nat=>({ af:=r.num,addr:=ak (be g K M.rows) r.num,slots:=r.slots.map (sv (ak (be g K M.rows))),gen:=k,size:=bw r }:Th)) VY
theorem Lj (I:Inv M) (hK:∀ r∈M.rows,ak M.rows r.num∈Kh↔r.num∈K) (hs:∀ r∈M.rows,cS g K r=true->∀ v∈r.slots,qz M g K v) :
  jZ M g (c9 M g Kh)=dz (ak (be g K M.rows)) 0 (be g K M.rows)/\M.ac.filter (bB g (c9 M g Kh))=(M.rows.filter (cS g K)).map (bk (ak M.rows)):=by
 have hf:M.ac.filter (bB g (c9 M g Kh))=(M.rows.filter (cS g K)).map (bk (ak M.rows)):=by
  refine U I.li (U List.filter_map ?_)
  congr 1
  exact List.filter_congr fun r hr=>VQ I hK hr
 refine ⟨?_,hf⟩
 refine U (D4 (uS I.R.nd) ..) ?_
 unfold jZ
 refine U hf (U List.map_map ?_)
 unfold be
 refine U List.map_map ?_
 refine List.map_congr_left fun r hr=>?_
 rw [List.mem_filter] at hr
 exact VX I hK hr.1 hr.2 (hs r hr.1 hr.2)
end
theorem Lk {A:Nat->Int}:∀ {l:List aq} {a:Nat},(dz A a l).foldl (fun (_:Int) (t:Th)=>t.addr+(t.size:Int)) (16+(a:Int))=16+((a+eS l:Nat):Int)
 | [],a=>by simp [dz,eS]
 | r::l,a=>by
  have h:=Lk (A:=A) (l:=l) (a:=a+bw r)
  simp only [dz,List.foldl_cons]
  have e:(16:Int)+(a:Int)+((bw r:Nat):Int)=16+((a+bw r:Nat):Int):=by lia
  refine U e (U h ?_)
  simp [eS];lia
theorem xH:∀ {v:Vl} {n:Nat},n∈bU v->n≠0->n∈a0 v
 | .dat _,n,h,_=>by simp [bU] at h
 | .ref m,n,h,h0=>by simp [bU] at h;subst h;simp [a0,h0]
 | .str a b,n,h,h0=>by
  simp only [bU,a0,List.mem_append] at h ⊢
  exact h.imp (fun h=>xH h h0) fun h=>xH h h0
 | .bQ m _ _,n,h,h0=>by simp [bU] at h;subst h;simp [a0,h0]
noncomputable def lj (l:List aq) (g:Nat) (v:Vl):Bool:=(a0 v).any fun n=>match l.find? (fun r=>decide (r.num=n)) with
 | some u=>decide (u.gen<g)
 | none=>false
noncomputable def f4 (l0:List aq) (r:aq) (k:Nat):List Nat:=(List.range k).filter fun i=>match r.slots[i]? with | some v=>lj l0 r.gen v | none=>false
noncomputable def eT (l0 l:List aq):List (aq × Nat):=l.flatMap fun r=>(f4 l0 r r.slots.length).map fun i=>(r,i)
noncomputable def eG (A:Nat->Int) (b:Nat) (l:List (aq × Nat)) (c:List Int):List Int:=l.foldl (fun c x=>cV c (cP (A x.1.num) x.2 b)) c
theorem D9 (l0:List aq):∀ (l:List aq),(∀ r∈l,r.slots.length<=3)->(eT l0 l).length<=3*l.length
 | [],h=>by simp [eT]
 | r::l,h=>by
  have h1:=h r (.head _)
  have h2:=D9 l0 l fun x hx=>h x (.tail _ hx)
  have h3:((f4 l0 r r.slots.length).map fun i=>(r,i)).length<=r.slots.length:=by
   refine U (List.length_map ..) ?_;unfold f4
   exact Nat.le_trans (List.length_filter_le ..) (by simp)
  have:eT l0 (r::l)=(f4 l0 r r.slots.length).map (fun i=>(r,i))++eT l0 l:=rfl
  refine U this (U List.length_append (U List.length_cons ?_));lia
theorem xI (A:Nat->Int) (b:Nat):∀ (l:List (aq × Nat)) (c:List Int),(eG A b l c).length<=c.length+l.length
 | [],c=>Nat.le_refl _
 | x::l,c=>by
  have h1:=xI A b l (cV c (cP (A x.1.num) x.2 b))
  have h2:=@CY c (cP (A x.1.num) x.2 b)
  show (eG A b l _).length<=_
  simp only [List.length_cons];lia
theorem Ll {A:Nat->Int} {b:Nat}:∀ {l:List (aq × Nat)} {c:List Int} {k:Int},k∈c->k∈eG A b l c
 | [],c,k,h=>h
 | x::l,c,k,h=>Ll (l:=l) (KP h)
theorem Lm {A:Nat->Int} {b:Nat}:∀ {l:List (aq × Nat)} {c:List Int} {x:aq × Nat},x∈l->cP (A x.1.num) x.2 b∈eG A b l c
 | y::l,c,x,h=>by
  rcases List.mem_cons.mp h with rfl | h
  ·exact Ll (l:=l) KQ
  ·exact Lm (l:=l) h
theorem Ln {A:Nat->Int} {b:Nat}:∀ {l:List (aq × Nat)} {c:List Int},gZ b (l.map fun x=>(bk A x.1,x.2)) c=eG A b l c
 | [],c=>rfl
 | x::l,c=>by
  show gZ b (l.map _) (cV c (cP (bk A x.1).addr x.2 b))=eG A b l (cV c (cP (A x.1.num) x.2 b))
  refine U (Ln (l:=l) ..) ?_;rfl
theorem VZ {l:List aq} {A:Nat->Int} (inj:∀ r∈l,∀ u∈l,A r.num=A u.num->r.num=u.num) {g:Nat} {v:Vl} (hp:b8 (sv A v)=(a0 v).map A) (hl:∀ n∈a0 v,∃ r∈l,r.num=n):hZ (l.map (bk A)) g (sv A v)=lj l g v:=by
 unfold hZ lj
 refine U hp (U List.any_map ?_)
 have one:∀ n∈a0 v,(match (l.map (bk A)).find? (fun t=>decide (t.addr=A n)) with | some u=>decide (u.gen<g) | none=>false)=(match l.find? (fun r=>decide (r.num=n)) with | some u=>decide (u.gen<g) | none=>false):=fun n hn=>by
  refine U List.find?_map ?_
  have e:l.find? ((fun t:Th=>decide (t.addr=A n)) ∘ bk A)=l.find? (fun r=>decide (r.num=n)):=by
   (refine au ?_ (hl n hn);rintro u hu rfl)
   clear hl hp hn
   revert inj hu
   suffices ∀ l':List aq,(∀ r∈l',A r.num=A u.num->r.num=u.num)->l'.find? ((fun t:Th=>decide (t.addr=A u.num)) ∘ bk A)=l'.find? (fun r=>decide (r.num=u.num)) from fun inj hu=>this l fun r hr=>inj r hr u hu
   intro l' h
   induction l' with
   | nil=>rfl
   | cons r l' ih =>
    refine U List.find?_cons (U List.find?_cons ?_)
    have e:((fun t:Th=>decide (t.addr=A u.num)) ∘ bk A) r=decide (r.num=u.num):=by
     show decide (A r.num=A u.num)=_
     by_cases c:r.num=u.num
     ·simp [c]
     ·have:¬ A r.num=A u.num:=fun e=>c (h r (.head _) e)
      simp [c,this]
    rw [e,ih fun x hx=>h x (.tail _ hx)]
  refine U e ?_
  induction l.find? (fun r=>decide (r.num=n)) <;> rfl
 clear hp
 generalize mx:a0 v=vs at one hl
 clear mx hl
 induction vs with
 | nil=>rfl
 | cons n vs ih =>
  refine U List.any_cons (U List.any_cons (U (ih fun n hn=>one n (.tail _ hn) ..) ?_))
  congr 1
  exact one n (.head _)
theorem V0 {l:List aq} {A:Nat->Int} (inj:∀ r∈l,∀ u∈l,A r.num=A u.num->r.num=u.num) (hp:∀ r∈l,∀ v∈r.slots,b8 (sv A v)=(a0 v).map A/\∀ n∈a0 v,∃ r∈l,r.num=n):gY (l.map (bk A))=(eT l l).map fun x=>(bk A x.1,x.2):=by
 suffices ∀ l':List aq,(∀ r∈l',r∈l)->js (l.map (bk A)) (l'.map (bk A))=(eT l l').map fun x=>(bk A x.1,x.2) from this l fun Y h=>h
 intro l' pq
 induction l' with
 | nil=>rfl
 | cons r l' ih =>
  have hr:=pq r (.head _)
  have e1:eT l (r::l')=(f4 l r r.slots.length).map (fun i=>(r,i))++eT l l':=rfl
  have e2:js (l.map (bk A)) ((r::l').map (bk A))=(if (bk A r).gen>0 then ((List.range (bk A r).slots.length).filter fun i=>match (bk A r).slots[i]? with | some v=>hZ (l.map (bk A)) (bk A r).gen v | none=>false).map fun i=>(bk A r,i) else [])++js (l.map (bk A)) (l'.map (bk A)):=rfl
  refine U e1 (U e2 (U (ih fun x hx=>pq x (.tail _ hx) ..) (U List.map_append ?_)))
  congr 1
  have e3:∀ i:Nat,(match (bk A r).slots[i]? with | some v=>hZ (l.map (bk A)) (bk A r).gen v | none=>false)=(match r.slots[i]? with | some v=>lj l r.gen v | none=>false):=fun i=>by
   have hs:(bk A r).slots[i]?=(r.slots[i]?).map (sv A):=List.getElem?_map
   refine U hs ?_
   induction h:r.slots[i]? with
   | none=>rfl
   | some v =>
    show hZ (l.map (bk A)) r.gen (sv A v)=lj l r.gen v
    (refine ay ?_ (hp r hr v (List.mem_of_getElem? h));intro h1 h2)
    exact VZ inj h1 h2
  have e4:(bk A r).slots.length=r.slots.length:=by simp [bk]
  have e5:((List.range (bk A r).slots.length).filter fun i=>match (bk A r).slots[i]? with | some v=>hZ (l.map (bk A)) (bk A r).gen v | none=>false)=f4 l r r.slots.length:=by
   refine U e4 ?_;exact List.filter_congr fun i Y=>e3 i
  refine U e5 ?_
  by_cases c:r.gen>0
  ·refine U (if_pos (show (bk A r).gen>0 from c) ..) (U List.map_map ?_);rfl
  ·rw [if_neg (show ¬ (bk A r).gen>0 from c)]
   have:f4 l r r.slots.length=[]:=by
    unfold f4
    rw [List.filter_eq_nil_iff]
    intro i hi
    have c0:r.gen=0:=by lia
    refine U c0 ?_
    induction r.slots[i]? with
    | none=>simp
    | some v =>
     simp only [lj,List.any_eq_true,not_exists,not_and]
     intro n hn
     induction l.find? (fun r=>decide (r.num=n)) <;> simp
   refine U this ?_;rfl
section
variable {M:Mo} {g:Nat} {K:List Nat} {Kh:List Int}
theorem Lo (L:oJ M g K) {u:aq} (hu:u∈M.rows) (h:u.gen<=g->Lr M g u):cS g K u=true:=by
 unfold cS
 by_cases c:g<u.gen
 ·simp [c]
 ·have:u.num∈K:=(L u hu).mpr (h (by lia))
  simp [this]
theorem xJ (I:Inv M) (L:oJ M g K) {r:aq} (hr:r∈M.rows) (hk:cS g K r=true) {v:Vl} (hv:v∈r.slots):qz M g K v:=by
 intro n hn
 rcases (I.slots r hr v hv).nums n hn with h | ⟨u,hu,e⟩
 ·exact .inl h
 ·refine .inr (ff u hu e (Lo L hu fun hg=>?_))
  have qx:n≠0:=by have:=I.R.pos u hu;lia
  have iN:=xH hn qx
  by_cases c:g<r.gen
  ·(refine aM ?_ (List.mem_iff_getElem?.mp hv);intro i hi)
   exact .old hr c hi (I.qt r hr i v hi n iN u hu e (by lia)) iN hu e hg
  ·unfold cS at hk
   simp only [Bool.or_eq_true,decide_eq_true_eq] at hk
   exact .step ((L r hr).mp (hk.resolve_left c)) hv iN hu e hg
theorem Lp (I:Inv M) (L:oJ M g K) {v:Vl} (hv:v∈M.roots):qz M g K v:=by
 intro n hn
 rcases xu (I.roots v hv) n hn with h | ⟨u,hu,e⟩
 ·exact .inl h
 ·refine .inr (ff u hu e (Lo L hu fun hg=>?_))
  have qx:n≠0:=by have:=I.R.pos u hu;lia
  exact .root hv (xH hn qx) hu e hg
noncomputable def dI (M:Mo) (g:Nat) (K:List Nat):Mo :=
 { M with
  rows:=be g K M.rows
  rl:=(be g K M.rows).map (·.num)
  lay:=some (fM (be g K M.rows))
  cards:=eG (ak (be g K M.rows)) M.bits (eT (be g K M.rows) (be g K M.rows)) [] }
theorem Ea {r:aq}:(bump g r).gen=if r.gen<=g then (if r.gen+1<2 then r.gen+1 else 2) else r.gen:=by unfold bump;split <;> rfl
theorem V1 {r:aq} (h:r.gen<=2):(bump g r).gen<=2:=by refine U Ea ?_;split <;> (try split) <;> wtm_at "o"
theorem V2 {a b:aq} (h:b.gen<=a.gen) (ha:a.gen<=2):(bump g b).gen<=(bump g a).gen:=by
 refine U Ea (U Ea ?_)
 (repeat' split) <;> wtm_at "o"
theorem Eb {n:Nat} (h:∃ r∈M.rows,r.num=n/\cS g K r=true):∃ r∈be g K M.rows,r.num=n:=by
 (revert h;refine bO ?_;intro r hr e hk)
 exact (aB (bump g r) (K9 hr hk) (by refine U lh ?_;exact e))
theorem Lq (I:Inv M) (L:oJ M g K) (H:mP M g Kh) {bX lim:Int}:Inv (qq (dI M g K) g Kh bX lim):=by
 have hK:∀ r∈M.rows,ak M.rows r.num∈Kh↔r.num∈K:=fun r hr=>K3 I L H hr
 (refine ay ?_ (Lj I hK fun r hr hk v hv=>xJ I L hr hk hv);intro hm hf)
 have fq:jZ (dI M g K) g (c9 (dI M g K) g Kh)=dz (ak (be g K M.rows)) 0 (be g K M.rows):=hm
 have nd:=uS (g:=g) (K:=K) I.R.nd
 have sub:∀ x∈be g K M.rows,∃ r∈M.rows,cS g K r=true/\x=bump g r:=fun x hx=>uT hx
 have bC:(be g K M.rows).length<=M.rows.length:=by unfold be;refine U (List.length_map ..) ?_;exact List.length_filter_le ..
 have pos:∀ x∈be g K M.rows,0<x.num:=fun x hx=>by
  (refine bO ?_ (sub x hx);rintro r hr _ rfl)
  refine U lh ?_;exact I.R.pos r hr
 have slot:∀ x∈be g K M.rows,∀ v∈x.slots,(∀ n∈bU v,n=0∨∃ r∈be g K M.rows,r.num=n)/\kZ v/\ci v<=4:=fun x hx v hv=>by
  (refine bO ?_ (sub x hx);rintro r hr hk rfl)
  rw [r9] at hv
  have:=I.slots r hr v hv
  exact ⟨fun n hn=>(xJ I L hr hk hv n hn).imp id Eb,this.np,this.dp⟩
 have zero:ak (be g K M.rows) 0=0:=m0 pos
 have V3:∀ x∈be g K M.rows,ak (be g K M.rows) x.num≠0:=fun x hx=>by
  (refine aM ?_ (List.mem_iff_getElem?.mp hx);intro i hi)
  refine U (gN nd hi ..) ?_;lia
 have inj:∀ r∈be g K M.rows,∀ u∈be g K M.rows,ak (be g K M.rows) r.num=ak (be g K M.rows) u.num->r.num=u.num:=fun r hr u hu e=>by
  (refine aM ?_ (List.mem_iff_getElem?.mp hr);intro i hi)
  (refine aM ?_ (List.mem_iff_getElem?.mp hu);intro j hj)
  rw [gN nd hi,gN nd hj] at e
  rcases Nat.lt_trichotomy i j with q | q | q
  ·have:=rY hi q;have:=qr r;lia
  ·subst q;rw [hi] at hj;(revert hj;refine si ?_;rintro rfl);rfl
  ·have:=rY hj q;have:=qr u;lia
 have V4:∀ x∈be g K M.rows,∀ v∈x.slots,b8 (sv (ak (be g K M.rows)) v)=(a0 v).map (ak (be g K M.rows))/\∀ n∈a0 v,∃ r∈be g K M.rows,r.num=n:=fun x hx v hv=>by
  (refine bS ?_ (slot x hx v hv);intro h1 h2 h3)
  refine ⟨uO zero h2 fun n hn h0=>?_,fun n hn=>?_⟩
  ·(refine au ?_ ((h1 n hn).resolve_left h0);intro r hr e)
   refine aT e ?_;exact V3 r hr
  ·(refine ay ?_ (m6 hn);intro h4 h5)
   exact (h1 n h4).resolve_left h5
 have len:(be g K M.rows).length<=100000:=by have:=I.R.len;lia
 have sl:∀ x∈be g K M.rows,x.slots.length<=3:=fun x hx=>by
  (refine bO ?_ (sub x hx);rintro r hr _ rfl)
  rw [r9];exact I.R.sl r hr
 refine ⟨I.iH,⟨rfl,nd,pos,len,sl⟩,?_,?_,?_,?_,?_,rfl,fq,?_,rfl,?_,?_,I.hmade,?_,?_,?_,I.b2,I.b3,?_,I.b5,I.bits⟩
 ·intro x hx
  (refine bO ?_ (sub x hx);rintro r hr _ rfl)
  exact V1 (I.lV r hr)
 ·show (be g K M.rows).Pairwise _
  unfold be
  rw [List.pairwise_map]
  have hp:M.rows.Pairwise fun a b=>b.gen<=a.gen/\a.gen<=2:=by
   have:=I.gens
   have h2:=I.lV
   revert this h2
   generalize M.rows=l
   intro hp h2
   induction l with
   | nil=>exact .nil
   | cons a l ih =>
    rw [List.pairwise_cons] at hp ⊢
    exact ⟨fun b hb=>⟨hp.1 b hb,h2 a (.head _)⟩,ih hp.2 fun x hx=>h2 x (.tail _ hx)⟩
  exact (hp.sublist List.filter_sublist).imp fun h=>V2 h.1 h.2
 ·intro x hx v hv
  (refine bS ?_ (slot x hx v hv);intro h1 h2 h3)
  exact ⟨h1,h2,h3⟩
 ·intro v hv
  have h1:=I.roots v hv
  have h2:=Lp I L hv
  have base:∀ {v:Vl},dy M 4 v->qz M g K v->dy (qq (dI M g K) g Kh bX lim) 4 v:=fun h1 h2=>⟨fun n hn=>(h2 n hn).imp id Eb,h1.np,h1.dp⟩
  induction v using Vl.casesOn with
  | bQ n off p =>
   (revert h1;refine bO ?_;intro u hu e ho)
   have hk:cS g K u=true:=by
    rcases h2 n (by simp [bU]) with h0 | ⟨r,hr,e',hk⟩
    ·have:=I.R.pos u hu;lia
    ·refine aT (I.m7 hr hu (e'.trans e.symm) ..) ?_;exact hk
   exact (ff (bump g u) (K9 hu hk) (by refine U lh ?_;exact e) (by refine U KY ?_;exact ho))
  | dat c=>exact base h1 h2
  | ref n=>exact base h1 h2
  | str a b=>exact base h1 h2
 ·intro x hx
  (refine bO ?_ (sub x hx);rintro r hr _ rfl)
  refine U lh ?_;exact I.k6 r hr
 ·show (M.ac.filter (bB g (c9 M g Kh))).map (·.af)=(be g K M.rows).map (·.num)
  refine U hf (U List.map_map (U D7 ?_));rfl
 ·show og (jZ (dI M g K) g (c9 (dI M g K) g Kh))=16+((bF (be g K M.rows) (be g K M.rows).length:Nat):Int)
  refine U fq ?_
  have h1:=@Lk (ak (be g K M.rows)) (be g K M.rows) 0
  have h2:bF (be g K M.rows) (be g K M.rows).length=eS (be g K M.rows):=by unfold bF eS;exact U List.take_length rfl
  refine U h2 ?_
  unfold og
  simpa using h1
 ·show gZ M.bits (gY (jZ (dI M g K) g (c9 (dI M g K) g Kh))) []=eG _ _ _ _
  rw [fq,D4 nd,V0 inj V4,Ln]
 ·show M.cells.map (cQ M.ac (c9 M g Kh))=M.roots.map _
  rw [I.cells,List.map_map]
  exact List.map_congr_left fun v hv=>Li I hK (I.roots v hv) (Lp I L hv)
 ·intro x hx i v hi n hn x' xE lW aS
  show cP (ak (be g K M.rows) x.num) i M.bits∈eG (ak (be g K M.rows)) M.bits (eT (be g K M.rows) (be g K M.rows)) []
  refine Lm (x:=(x,i)) (List.mem_flatMap.mpr (aB x hx (List.mem_map.mpr (aB i ?_ rfl))))
  unfold f4
  rw [List.mem_filter]
  refine ⟨by simpa using (List.getElem?_eq_some_iff.mp hi).1,?_⟩
  rw [hi]
  simp only
  unfold lj
  rw [List.any_eq_true]
  refine (aB n hn ?_)
  have:=p8 nd xE
  rw [lW] at this
  refine U this ?_
  simp [aS]
 ·show (be g K M.rows).length<=M.made
  have:=I.b1;lia
 ·show (eG _ _ _ _).length<=4*M.d
  have h1:=xI (ak (be g K M.rows)) M.bits (eT (be g K M.rows) (be g K M.rows)) []
  have h2:=D9 (be g K M.rows) (be g K M.rows) sl
  have:=I.b1;have:=I.b2
  simp only [List.length_nil] at h1
  lia
end
noncomputable def ll (A:Nat->Int) (b:Nat) (c:List Int) (r:aq) (k:Nat):List Nat:=(List.range k).flatMap fun i=>if cP (A r.num) i b∈c then (match r.slots[i]? with | some v=>a0 v | none=>[]) else []
noncomputable def j9 (A:Nat->Int) (b:Nat) (c:List Int) (g:Nat) (l:List aq):List Nat:=l.flatMap fun r=>if g<r.gen then ll A b c r r.slots.length else []
noncomputable def lX (M:Mo) (g:Nat):List Nat:=M.roots.flatMap a0++j9 (ak M.rows) M.bits M.cards g M.rows
structure LI (M:Mo) (g:Nat) (T K:List Nat):Prop where
 nd:K.Nodup
 kl:∀ n∈K,∃ r∈M.rows,r.num=n/\Lr M g r
 tl:∀ n∈T,∃ r∈M.rows,r.num=n/\(r.gen<=g->Lr M g r)
 xK:∀ n∈lX M g,∀ r∈M.rows,r.num=n->r.gen<=g->n∈K∨n∈T
 step:∀ u∈M.rows,u.num∈K->∀ v∈u.slots,∀ n∈a0 v,∀ r∈M.rows,r.num=n->r.gen<=g->n∈K∨n∈T
section
variable {M:Mo} {g:Nat} {T K:List Nat}
theorem Ed (n:Nat):n∈lX M g↔(∃ v∈M.roots,n∈a0 v)∨∃ u∈M.rows,g<u.gen/\∃ i v,u.slots[i]?=some v/\cP (ak M.rows u.num) i M.bits∈M.cards/\n∈a0 v:=by
 unfold lX
 rw [List.mem_append,List.mem_flatMap]
 refine or_congr Iff.rfl ?_
 unfold j9
 rw [List.mem_flatMap]
 constructor
 ·(refine au ?_;intro u hu h)
  refine (aB u hu ?_)
  split at h
  ·refine ⟨by assumption,?_⟩
   unfold ll at h
   (refine au ?_ (List.mem_flatMap.mp h);intro i hi h)
   split at h
   ·induction hv:u.slots[i]? with
    | none=>rw [hv] at h;cases h
    | some v=>rw [hv] at h;exact (cA i v hv (by assumption) h)
   ·cases h
  ·cases h
 ·(refine Mz ?_;intro u hu hg i v hv hc hn)
  refine (aB u hu ?_)
  rw [if_pos hg]
  unfold ll
  refine List.mem_flatMap.mpr (aB i (by simpa using (List.getElem?_eq_some_iff.mp hv).1) ?_)
  rw [if_pos hc,hv];exact hn
theorem V5 (I:Inv M):LI M g (lX M g) []:=by
 refine ⟨.nil,by simp,fun n hn=>?_,fun n hn r hr e hg=>.inr hn,fun u hu h=>by cases h⟩
 rcases (Ed n).mp hn with ⟨v,hv,h⟩ | ⟨u,hu,uR,i,v,hv,hc,h⟩
 ·(refine au ?_ (uQ I (I.roots v hv) h);intro r hr e)
  exact (ff r hr e (fun hg=>.root hv h hr e hg))
 ·(refine au ?_ (uQ I (qy I hu (List.mem_of_getElem? hv)) h);intro r hr e)
  exact (ff r hr e (fun hg=>.old hu uR hv hc h hr e hg))
theorem V6 (I:Inv M) {n:Nat} {r:aq} (L:LI M g (T++[n]) K) (hr:r∈M.rows) (e:r.num=n) (h:r.gen<=g->n∈K):LI M g T K:=by
 have key:∀ m,m∈K∨m∈T++[n]->(∃ r∈M.rows,r.num=m/\r.gen<=g)->m∈K∨m∈T:=fun m hm=>bO fun r' dP e' eR=>by
  rcases hm with hm | hm
  ·exact .inl hm
  ·rcases List.mem_append.mp hm with hm | hm
   ·exact .inr hm
   ·simp at hm
    subst hm
    have:=I.m7 dP hr (e'.trans e.symm)
    subst this
    exact .inl (h eR)
 exact ⟨L.nd,L.kl,fun m hm=>L.tl m (List.mem_append_left _ hm),fun m hm r' dP e' eR=>key m (L.xK m hm r' dP e' eR) (ff r' dP e' eR),
  fun u hu hk v hv m hm r' dP e' eR=>key m (L.step u hu hk v hv m hm r' dP e' eR) (ff r' dP e' eR)⟩
theorem V7 (I:Inv M) {n:Nat} {r:aq} (L:LI M g (T++[n]) K) (hr:r∈M.rows) (e:r.num=n) (hg:r.gen<=g) (hn:n∉K):LI M g (T++r.slots.flatMap a0) (K++[n]):=by
 have hL:Lr M g r:=by
  (refine bO ?_ (L.tl n (by simp));intro r' dP e' h)
  have:=I.m7 dP hr (e'.trans e.symm)
  subst this
  exact h hg
 have key:∀ m,m∈K∨m∈T++[n]->m∈K++[n]∨m∈T++r.slots.flatMap a0:=fun m hm=>by
  rcases hm with hm | hm
  ·exact .inl (List.mem_append_left _ hm)
  ·rcases List.mem_append.mp hm with hm | hm
   ·exact .inr (List.mem_append_left _ hm)
   ·exact .inl (List.mem_append_right _ hm)
 refine ⟨?_,fun m hm=>?_,fun m hm=>?_,fun m hm r' dP e' eR=>key m (L.xK m hm r' dP e' eR),fun u hu hk v hv m hm r' dP e' eR=>?_⟩
 ·rw [List.nodup_append]
  refine ⟨L.nd,by simp,?_⟩
  intro a ha b hb e2
  simp at hb
  rw [e2,hb] at ha;exact hn ha
 ·rcases List.mem_append.mp hm with hm | hm
  ·exact L.kl m hm
  ·simp at hm;subst hm;exact (ff r hr e hL)
 ·rcases List.mem_append.mp hm with hm | hm
  ·exact L.tl m (List.mem_append_left _ hm)
  ·(refine au ?_ (List.mem_flatMap.mp hm);intro v hv h)
   (refine au ?_ (uQ I (qy I hr hv) h);intro r' dP e')
   exact (ff r' dP e' (fun eR=>.step hL hv h dP e' eR))
 ·rcases List.mem_append.mp hk with hk | hk
  ·exact key m (L.step u hu hk v hv m hm r' dP e' eR)
  ·simp at hk
   have:=I.m7 hu hr (hk.trans e.symm)
   subst this
   exact .inr (List.mem_append_right _ (List.mem_flatMap.mpr (aB v hv hm)))
theorem V8 (I:Inv M) (L:LI M g [] K):oJ M g K:=fun r hr=>by
 constructor
 ·intro h
  (refine bO ?_ (L.kl _ h);intro r' dP e hL)
  refine aT (I.m7 dP hr e ..) ?_;exact hL
 ·intro h
  clear hr
  induction h with
  | @root v n r hv hn hr e hg=>refine U e ?_;exact (L.xK n ((Ed n).mpr (.inl (aB v hv hn))) r hr e hg).resolve_right (by simp)
  | @old u i v n r hu uR hs hc hn hr e hg=>refine U e ?_;exact (L.xK n ((Ed n).mpr (.inr (MK u hu uR i v hs hc hn))) r hr e hg).resolve_right (by simp)
  | @step u v n r hL hv hn hr e hg ih=>refine U e ?_;exact (L.step u hL.mem.1 ih v hv n hn r hr e hg).resolve_right (by simp)
theorem Ls (I:Inv M) (L:LI M g T K):K.length<=M.rows.length:=by
 have:=C6 (L:=M.rows.map (·.num)) L.nd fun n hn=>by
  (refine bO ?_ (L.kl n hn);intro r hr e _)
  exact List.mem_map.mpr (aB r hr e)
 simpa using this
theorem oK {α β:Type} {f:α->List β} {k:Nat}:∀ {l:List α},(∀ x∈l,(f x).length<=k)->(l.flatMap f).length<=k*l.length
 | [],h=>by simp
 | a::l,h=>by
  have h1:=h a (.head _)
  have h2:=oK (f:=f) (k:=k) (l:=l) fun x hx=>h x (.tail _ hx)
  refine U List.flatMap_cons (U List.length_append (U List.length_cons (U (Nat.mul_succ ..) ?_)));lia
theorem vrefs_15 {v:Vl} (h:ci v<=4):(a0 v).length<=15:=Nat.le_trans (t4 v) (qu h)
end
section
variable {C:Cx} {M M':Mo} {pos pos':Tg->Nat} {σ V:AH} {Q:AV->AH->Prop} {n:Nat} {N:Loc->AH->Prop} {R:AV->AH->Prop} {ρ:Loc}
theorem oL:∀ (a b:List Sm) (ρ:Loc) (σ:AH),ax C n (a++b) N R ρ σ=ax C n a (fun ae V=>ax C n b N R ae V) R ρ σ
 | [],b,ρ,σ=>rfl
 | s::a,b,ρ,σ=>congrArg (fun N=>wpS C n s N R ρ σ) (funext fun ae=>funext fun V=>oL a b ae V)
noncomputable def Ee:List Sm:=jn.take 4
noncomputable def Ef:List Sm:=(jn.drop 4).take 3
noncomputable def Eg:List Sm:=(jn.drop 7).take 3
noncomputable def Eh:List Sm:=(jn.drop 10).take 2
noncomputable def Ei:List Sm:=jn.drop 12
theorem V9:jn=Ee++(Ef++(Eg++(Eh++Ei))):=rfl
noncomputable def d9 (T:List Nat):List AV:=T.map fun n=>.int (n:Nat)
noncomputable def fQ (pos:Tg->Nat) (l:List aq):List (Int × AV):=l.map fun r=>((r.num:Int),.ref (pos (.row r.num)))
theorem Lu (b:Nat) (h:b<=3):(0:Int)<(2:Int) ^ ((b:Nat):Int).toNat/\(2:Int) ^ ((b:Nat):Int).toNat<2 ^ 64:=by
 revert b;decide
theorem Ej {a b:List Nat}:d9 a++d9 b=d9 (a++b):=List.map_append.symm
theorem Ek {α β:Type} {l:List α} {f:α->List β} {i:Nat} {a:α} (h:l[i]?=some a):(l.take i).flatMap f++f a=(l.take (i+1)).flatMap f:=by
 refine U List.take_add_one (U h (U List.flatMap_append ?_));simp
theorem Wa {l:List aq} {i:Nat} {r:aq} (nd:(l.map (·.num)).Nodup) (h:l[i]?=some r):ee (fQ pos (l.take i)) r.num (.ref (pos (.row r.num)))=fQ pos (l.take (i+1)):=by
 rw [xe]
 ·refine U List.take_add_one (U h ?_);simp [fQ]
 ·intro hm
  unfold fQ at hm
  rw [List.map_map] at hm
  (refine au ?_ (List.mem_map.mp hm);intro u hu e)
  have e':u.num=r.num:=by simp at e;lia
  (refine aM ?_ (List.mem_iff_getElem?.mp hu);intro j hj)
  have Wb:=(List.getElem?_eq_some_iff.mp hj).1
  have xc:j<i:=by simp at Wb;lia
  rw [List.getElem?_take_of_lt xc] at hj
  have:=EU nd hj h e'
  lia
theorem Lv (I:Inv M) {r:aq} (hr:r∈M.rows) (k:Nat):(ll (ak M.rows) M.bits M.cards r k).length<=15*k:=by
 unfold ll
 have:=oK (f:=fun i=>if cP (ak M.rows r.num) i M.bits∈M.cards then (match r.slots[i]? with | some v=>a0 v | none=>[]) else []) (k:=15) (l:=List.range k) fun i Y=>by
  split
  ·induction hv:r.slots[i]? with
   | none=>simp
   | some v=>exact vrefs_15 (I.slots r hr v (List.mem_of_getElem? hv)).dp
  ·simp
 rw [List.length_range] at this
 exact this
theorem Lw (I:Inv M) {g:Nat} (l:List aq) (hl:∀ r∈l,r∈M.rows):(j9 (ak M.rows) M.bits M.cards g l).length<=45*l.length:=by
 unfold j9
 refine oK fun r hr=>?_
 split
 ·have:=Lv I (hl r hr) r.slots.length
  have:=I.R.sl r (hl r hr)
  lia
 ·simp
theorem Wc {A:Nat->Int} {b:Nat} {c:List Int} {r:aq} {j:Nat} {v:Vl} (h:r.slots[j]?=some v):ll A b c r (j+1)=ll A b c r j++(if cP (A r.num) j b∈c then a0 v else []):=by
 unfold ll
 refine U List.range_succ (U List.flatMap_append ?_)
 simp [h]
theorem We {A:Nat->Int} {b g:Nat} {c:List Int} {l:List aq} {i:Nat} {r:aq} (h:l[i]?=some r):j9 A b c g (l.take (i+1))=j9 A b c g (l.take i)++(if g<r.gen then ll A b c r r.slots.length else []):=by
 unfold j9
 exact aT (Ek h ..) rfl
structure C1 (pos:Tg->Nat) (g:Nat) (σ:AH) (T:List Nat) (ae:Loc) (V:AH):Prop where
 gr:Gr σ V
 w:ae .aJ=some (.ref (pos .w))
 g:ae .aW=some (.int g)
 t:ae .eA=some (.ref σ.length)
 T:V[σ.length]?=some (.list (d9 T))
structure C2 (pos:Tg->Nat) (g:Nat) (σ:AH) (ro:Nat) (T:List Nat) (l:List aq) (ae:Loc) (V:AH):Prop extends C1 pos g σ T ae V where
 o:ae .ig=some (.ref ro)
 O:V[ro]?=some (.an (fQ pos l))
theorem Wf (G:Good C) (W:Wd M pos σ) (I:Inv M) (hd:M.d<=2000) {g:Nat} (hn:4<=n) (hw:ρ .aJ=some (.ref (pos .w))) (hg:ρ .aW=some (.int g))
  (q:∀ ae V rt ro,Gr σ V->ae .aJ=some (.ref (pos .w))->ae .aW=some (.int g)->ae .eA=some (.ref rt)->ae .ig=some (.ref ro)->σ[rt]?=none->σ[ro]?=none->rt≠ro->V[rt]?=some (.list (d9 (lX M g)))->V[ro]?=some (.an (fQ pos M.rows))->N ae V) :
  ax C n Ee N R ρ σ:=by
 delta Ee jn
 change ax C n [_,_,_,_] N R ρ σ
 have g6:=I.lay
 have El:σ[pos .roots]?=some (.list (M.roots.map lv)):=W.get .roots _ rfl
 have Lx:M.rl=M.rows.map (·.num):=I.R.rl
 have m8:σ[pos .rows]?=some (.list (M.rows.map fun r=>AV.ref (pos (.row r.num)))):=oA W I.R
 have bA:Gr σ (σ++[AO.list []]):=Gr.app _ _
 have Wg:=I.b3
 have uu:=I.b1
 have xn:=I.b2
 have Em:∀ v∈M.roots,(a0 v).length<=15:=fun v hv=>vrefs_15 (rZ (I.roots v hv))
 have hT0:(M.roots.flatMap a0).length<=15*M.roots.length:=oK Em
 have aE:=W.gr bA
 have Wh:=bA _ _ El
 wtm_at "w"
 refine e9 (fun i ae V=>C1 pos g σ ((M.roots.take i).flatMap a0) ae V) Wh ⟨bA,hw,hg,rfl,gl⟩ ?_ ?_
 ·rintro i v ae V K i9 D kk
  have jp:=List.mem_of_getElem? i9
  have Ly:=rZ (I.roots v jp)
  have hvl:=Em v jp
  have gX:=oK (f:=a0) (k:=15) (l:=M.roots.take i) fun x hx=>Em x (List.mem_of_mem_take hx)
  have Wi:(M.roots.take i).length<=M.roots.length:=by simp;lia
  have e3:=D.t
  wtm_at "w"
  refine FW.up (p9 G v (by have:=qu Ly;lia) fun aH iX dx bI rK=>?_) (by lia)
  have d4:=dx _ _ D.T
  have kb:Gr σ (aH.set σ.length (.list (d9 ((M.roots.take i).flatMap a0)++d9 (a0 v)))):=(D.gr.trans dx).set cL
  change aH[iX]?=some (.list (d9 (a0 v))) at bI
  refine CK d4 bI (by simp only [d9,List.length_map];lia) ?_
  refine kk _ _ (kb _ _ El) ⟨kb,D.w,D.g,rfl,?_⟩
  exact U (gs d4 ..) (U Ej (U (Ek i9 ..) rfl))
 ·rintro jl ai D
  obtain ⟨qA,d1,d2,d3,d4⟩:=D
  rw [List.take_length] at d4
  have Lz:σ.length<=ai.length:=List.getElem?_eq_none_iff.mp qA.len
  have aS:=jN d4
  have kb:Gr σ (ai++[AO.an []]):=qA.mK _
  have bc:=W.gr kb
  have Wj:=kb _ _ m8
  wtm_at "w"
  refine e9 (fun i ae V=>C2 pos g σ ai.length (M.roots.flatMap a0++j9 (ak M.rows) M.bits M.cards g (M.rows.take i)) (M.rows.take i) ae V) Wj ⟨⟨kb,d1,d2,d3,by simpa [j9] using ga d4⟩,rfl,gl⟩ ?_ ?_
  ·rintro i r ae V K dN D kk
   have cK:=List.mem_of_getElem? dN
   have bg:=W.gr D.gr
   have nd:=I.R.nd
   have t1:=gU bg nd cK
   have fD:=I.R.sl r cK
   have e1:=D.w
   have e2:=D.g
   have e3:=D.t
   have e4:=D.o
   have e6:=D.O
   have JU:(M.rows.take i).length<=2000:=by simp;lia
   have hol:(fQ pos (M.rows.take i)).length<1000000:=by unfold fQ;refine U (List.length_map ..) ?_;lia
   have Wk:(M.roots.flatMap a0++j9 (ak M.rows) M.bits M.cards g (M.rows.take i)).length<=15*2000+45*2000:=by
    have:=Lw I (g:=g) (M.rows.take i) fun r hr=>List.mem_of_mem_take hr
    refine U List.length_append ?_;lia
   wtm_at "k";wtm_at "s"
   refine U (Wa nd dN ..) ?_
   have uV:Gr σ (V.set ai.length (.an (fQ pos (M.rows.take (i+1))))):=D.gr.set (mJ Lz)
   have f5:(V.set ai.length (.an (fQ pos (M.rows.take (i+1)))))[σ.length]?=some (.list (d9 (M.roots.flatMap a0++j9 (ak M.rows) M.bits M.cards g (M.rows.take i)))):=by refine U (gn (by lia) ..) ?_;exact D.T
   have f6:(V.set ai.length (.an (fQ pos (M.rows.take (i+1)))))[ai.length]?=some (.an (fQ pos (M.rows.take (i+1)))):=gs e6
   clear bg t1 e6 D
   generalize V.set ai.length (.an (fQ pos (M.rows.take (i+1))))=cg at uV f5 f6 ⊢
   have bT:=W.gr uV
   have Wl:=uV _ _ m8
   have t1:=gU bT nd cK
   have t2:=mI bT nd cK
   have xL:=@We (ak M.rows) M.bits g M.cards M.rows i r dN
   by_cases qe:g<r.gen
   ·rw [if_pos qe] at xL
    wtm_at "w"
    refine jQ r.slots.length (fun j ae V=>C2 pos g σ ai.length (M.roots.flatMap a0++j9 (ak M.rows) M.bits M.cards g (M.rows.take i)++ll (ak M.rows) M.bits M.cards r j) (M.rows.take (i+1)) ae V/\ae .bW=some (.ref (pos (.row r.num)))) rfl (by lia) ⟨⟨⟨uV,e1,e2,e3,by simpa [ll] using f5⟩,e4,f6⟩,rfl⟩ ?_ ?_
    ·(intro j ae V K' hj;refine ay ?_;intro D d5;intro ke)
     obtain ⟨v,qB⟩:∃ v,r.slots[j]?=some v:=(aQ _ (List.getElem?_eq_getElem hj))
     have ov:=I.slots r cK v (List.mem_of_getElem? qB)
     have d1:=D.w
     have d2:=D.t
     have cR:=W.gr D.gr
     have t1:=gU cR nd cK
     have t2:=mI cR nd cK
     have hCa:V[pos .cards]?=some (.an (cx M.cards)):=cR.get .cards _ rfl
     have hA:=xz cR I.jv
     have ad:=r3 I.R.nd I.R.pos (.inr (aB r cK rfl))
     have Wm:=Lu _ I.bits
     (revert Wm;refine ay ?_;intro p1 p2)
     have p0:(0:Int)<=(M.bits:Int):=Int.natCast_nonneg _
     have p3:(M.bits:Int)<=1000:=by have:=I.bits;lia
     have ach:=Lv I cK j
     have xM:=@Wc (ak M.rows) M.bits M.cards r j v qB
     have hz:(0:Int)<=j:=Int.natCast_nonneg j
     have hf:(bL (cx M.cards) ((ak M.rows r.num+2+(j:Int)) / 2 ^ ((M.bits:Nat):Int).toNat)).isSome=decide (cP (ak M.rows r.num) j M.bits∈M.cards):=wW
     by_cases hc:cP (ak M.rows r.num) j M.bits∈M.cards
     ·rw [decide_eq_true hc] at hf
      rw [if_pos hc] at xM
      rw [<- Int.toNat_natCast j] at qB
      wtm_at "w"
      refine FW.up (p9 G v (by have:=qu ov.dp;lia) fun cU uW En wj aci=>?_) (by have:=ov.dp;lia)
      have a6:=En _ _ D.T
      have LA:=vrefs_15 ov.dp
      change cU[uW]?=some (.list (d9 (a0 v))) at wj
      refine CK a6 wj (by simp only [d9,List.length_map,List.length_append] at Wk ⊢;lia) ?_
      have bu:σ.length≠ai.length:=by lia
      wtm_at "w"
      refine ke _ _ ⟨⟨⟨(D.gr.trans En).set cL,d1,D.g,rfl,?_⟩,D.o,?_⟩,d5⟩
      ·exact U (gs a6 ..) (U Ej (U xM (U (List.append_assoc ..) rfl)))
      ·refine U (gn bu ..) ?_;exact En _ _ D.O
     ·rw [decide_eq_false hc] at hf
      rw [if_neg hc,List.append_nil] at xM
      wtm_at "w"
      exact ke _ _ ⟨⟨⟨D.gr,d1,D.g,d2,by refine U xM ?_;exact D.T⟩,D.o,D.O⟩,d5⟩
    ·(intro ae V;refine ay ?_;intro D d5)
     wtm_at "w"
     exact kk _ _ (D.gr _ _ m8) ⟨⟨D.gr,D.w,D.g,D.t,by refine U xL (aT (List.append_assoc ..) ?_);exact D.T⟩,D.o,D.O⟩
   ·rw [if_neg qe,List.append_nil] at xL
    wtm_at "w"
    exact kk _ _ Wl ⟨⟨uV,e1,e2,e3,by refine U xL ?_;exact f5⟩,e4,f6⟩
  ·rintro ae V D
   obtain ⟨⟨g',a1,a2,a3,a4⟩,a5,a6⟩:=D
   rw [List.take_length] at a4 a6
   exact p6 (q ae V σ.length ai.length g' a1 a2 a3 a5 cL (mJ Lz) (by lia) a4 a6)
end
section
variable {C:Cx} {M M':Mo} {pos pos':Tg->Nat} {σ V aX:AH} {Q:AV->AH->Prop} {n:Nat} {N:Loc->AH->Prop} {R:AV->AH->Prop} {ρ:Loc}
theorem LB (hn:(M.rows.map (·.num)).Nodup) {r:aq} (hr:r∈M.rows):bL (fQ pos M.rows) r.num=some (.ref (pos (.row r.num))):=by
 unfold fQ
 refine U (wU (f:=fun r:aq=>(r.num:Int)) (g:=fun r=>AV.ref (pos (.row r.num))) ..) ?_
 have:(fun x:aq=>decide ((x.num:Int)=(r.num:Int)))=fun x=>decide (x.num=r.num):=by funext x;congr 1;simp;lia
 refine U this (U (n5 hn hr ..) ?_);rfl
theorem Wn {l:List Int} {k:Int} (h:k∉l):cV l k=l++[k]:=by unfold cV;exact U (if_neg h ..) rfl
theorem Wo (g:Gr σ V):σ.length<=V.length:=Nat.le_of_not_lt fun h=>by
 have:=g V.length σ[V.length] (List.getElem?_eq_getElem h)
 simp at this
noncomputable def gy (K:List Nat):List (Int × AV):=cx (K.map fun (n:Nat)=>(n:Int))
theorem LD {K:List Nat} {x:Nat}:((x:Int)∈K.map fun (n:Nat)=>(n:Int))↔x∈K :=
 ⟨fun h=>by
  (refine au ?_ (List.mem_map.mp h);intro y hy e)
  have:y=x:=by lia
  subst this;exact hy,fun h=>List.mem_map.mpr (aB x h rfl)⟩
theorem LF {K:List Nat} {x:Nat}:(bL (gy K) x).isSome=decide (x∈K):=by
 unfold gy
 refine U wW ?_
 exact decide_eq_decide.mpr LD
theorem Wp {K:List Nat} {x:Nat} (h:x∉K):ee (gy K) x (.int 1)=gy (K++[x]):=by
 unfold gy
 refine U rM (U (Wn fun h'=>h (LD.mp h') ..) (U List.map_append ?_))
 rfl
theorem Wq {K:List Nat}:(gy K).length=K.length:=by unfold gy cx;exact U (List.length_map ..) (U (List.length_map ..) rfl)
theorem Wr (I:Inv M) (hd:M.d<=2000) {g:Nat}:(lX M g).length<=120000:=by
 unfold lX
 refine U List.length_append ?_
 have a1:=oK (f:=a0) (k:=15) (l:=M.roots) fun v hv=>vrefs_15 (rZ (I.roots v hv))
 have a2:=Lw I (g:=g) M.rows fun Y h=>h
 have:=I.b3
 have:=I.b1
 have:=I.b2
 lia
structure CW (pos:Tg->Nat) (g:Nat) (aX:AH) (rt ro rk:Nat) (D:List (Int × AV)) (T K:List Nat) (ρ:Loc) (σ:AH):Prop where
 gr:Gr aX σ
 w:ρ .aJ=some (.ref (pos .w))
 g:ρ .aW=some (.int g)
 t:ρ .eA=some (.ref rt)
 o:ρ .ig=some (.ref ro)
 k:ρ .kn=some (.ref rk)
 T:σ[rt]?=some (.list (d9 T))
 O:σ[ro]?=some (.an D)
 K:σ[rk]?=some (.an (gy K))
structure CN (pos:Tg->Nat) (M:Mo) (g:Nat) (aX:AH) (rt ro rk:Nat) (T K:List Nat) (m:Nat) (ρ:Loc) (σ:AH):Prop where
 C:CW pos g aX rt ro rk (fQ pos M.rows) T K ρ σ
 L:LI M g T K
 h1:T.length<=120000+45*K.length
 h2:m+50*K.length=T.length+50*M.rows.length
theorem Ws (G:Good C) (W:Wd M pos aX) (I:Inv M) (hd:M.d<=2000) {g:Nat} (hn:4<=n) {rt ro:Nat} (Eo:Gr aX σ) (hw:ρ .aJ=some (.ref (pos .w))) (hg:ρ .aW=some (.int g))
  (ht:ρ .eA=some (.ref rt)) (ho:ρ .ig=some (.ref ro)) (nt:aX[rt]?=none) (no:aX[ro]?=none) (bu:rt≠ro) (h1:σ[rt]?=some (.list (d9 (lX M g)))) (h2:σ[ro]?=some (.an (fQ pos M.rows)))
  (q:∀ ae V rk K,Gr aX V->ae .aJ=some (.ref (pos .w))->ae .aW=some (.int g)->ae .ig=some (.ref ro)->ae .kn=some (.ref rk)->ae .lB=some (.int M.rows.length)->aX[rk]?=none->V[ro]?=some (.an (fQ pos M.rows))->V[rk]?=some (.an (gy K))->oJ M g K->N ae V) :
  ax C n Ef N R ρ σ:=by
 delta Ef jn
 change ax C n [_,_,_] N R ρ σ
 have g6:=I.lay
 have uu:=I.b1
 have xn:=I.b2
 have nd:=I.R.nd
 have Wt:=jN h1
 have Wu:=jN h2
 have nk:aX[σ.length]?=none:=mJ (Wo Eo)
 have acj:=Wr I hd (g:=g)
 have g0:Gr aX (σ++[AO.an []]):=Eo.mK _
 have b1:=ga (o':=AO.an []) h1
 have b2:=ga (o':=AO.an []) h2
 have b3:(σ++[AO.an []])[σ.length]?=some (.an (gy [])):=gl
 have n1:rt≠σ.length:=by lia
 have n2:ro≠σ.length:=by lia
 wtm_at "w"
 generalize σ++[AO.an []]=ai at g0 b1 b2 b3 ⊢
 generalize σ.length=rk at nk n1 n2 b3 ⊢
 clear h1 h2 Wt Wu Eo
 refine rF ((lX M g).length+50*M.rows.length) (fun m ae V=>∃ T K,CN pos M g aX rt ro rk T K m ae V) ⟨lX M g,[],⟨g0,hw,hg,ht,ho,rfl,b1,b2,b3⟩,V5 I,by lia,rfl⟩ ?_
 (intro m ae V Kn;refine gA ?_;intro T K D;intro kk)
 have hL:=D.L
 have hh1:=D.h1
 have hh2:=D.h2
 have hKl:=Ls I hL
 have d1:=D.C.w
 have d2:=D.C.g
 have d3:=D.C.t
 have d4:=D.C.o
 have d5:=D.C.k
 have d6:=D.C.T
 have d7:=D.C.O
 have d8:=D.C.K
 have qA:=D.C.gr
 clear D
 rcases List.eq_nil_or_concat T with rfl | ⟨T',x,hT⟩
 ·have aE:=W.gr qA
  have m8:V[pos .rows]?=some (.list (M.rows.map fun r=>AV.ref (pos (.row r.num)))):=oA aE I.R
  change V[rt]?=some (.list []) at d6
  wtm_at "w"
  exact q _ V rk K qA d1 d2 d4 d5 rfl nk d7 d8 (V8 I hL)
 ·rw [List.concat_eq_append] at hT
  subst hT
  (refine bO ?_ (hL.tl x (List.mem_append_right _ (List.mem_singleton_self _)));rintro r hr hx -)
  subst hx
  have T8:(T'++[r.num]).length=T'.length+1:=List.length_append
  change V[rt]?=some (.list (List.map _ (T'++[r.num]))) at d6
  rw [List.map_append] at d6
  change V[rt]?=some (.list (d9 T'++[.int (r.num:Int)])) at d6
  have y0:(0:Int)<((d9 T'++[AV.int (r.num:Int)]).length:Int):=by refine U List.length_append (U List.length_singleton ?_);lia
  have iS:=LB (pos:=pos) nd hr
  have kb:Gr aX (V.set rt (.list (d9 T'))):=qA.set nt
  have c7:(V.set rt (.list (d9 T')))[ro]?=some (.an (fQ pos M.rows)):=by refine U (gn bu ..) ?_;exact d7
  have c8:(V.set rt (.list (d9 T')))[rk]?=some (.an (gy K)):=by refine U (gn n1 ..) ?_;exact d8
  have c6:(V.set rt (.list (d9 T')))[rt]?=some (.list (d9 T')):=gs d6
  wtm_at "w"
  clear d6 d7 d8 qA
  generalize V.set rt (.list (d9 T'))=aH at kb c6 c7 c8 ⊢
  have t1:=gU (W.gr kb) nd hr
  have uX:=@LF K r.num
  have Ep:(r.gen<=g->r.num∈K)->Kn (co ae .bW (.ref (pos (.row r.num)))) aH:=fun h =>
   kk (m - 1) _ _ (by lia) ⟨T',K,⟨kb,d1,d2,d3,d4,d5,c6,c7,c8⟩,V6 I hL hr rfl h,by lia,by lia⟩
  by_cases eR:r.gen<=g
  ·by_cases hk:r.num∈K
   ·rw [decide_eq_true hk] at uX
    wtm_at "w"
    exact Ep fun Y=>hk
   ·rw [decide_eq_false hk] at uX
    have L':=V7 I hL hr rfl eR hk
    have ack:=Ls I L'
    have hKa:(K++[r.num]).length=K.length+1:=List.length_append
    have hkl:(gy K).length<1000000:=by refine U Wq ?_;lia
    clear Ep hL
    wtm_at "w"
    refine U (Wp hk ..) ?_
    have e8:(aH.set rk (.an (gy (K++[r.num]))))[rk]?=some (.an (gy (K++[r.num]))):=gs c8
    have e7:(aH.set rk (.an (gy (K++[r.num]))))[ro]?=some (.an (fQ pos M.rows)):=by refine U (gn n2.symm ..) ?_;exact c7
    have e6:(aH.set rk (.an (gy (K++[r.num]))))[rt]?=some (.list (d9 T')):=by refine U (gn n1.symm ..) ?_;exact c6
    have xN:Gr aX (aH.set rk (.an (gy (K++[r.num])))):=kb.set nk
    clear kb c6 c7 c8 t1
    generalize aH.set rk (.an (gy (K++[r.num])))=bn at xN e6 e7 e8 ⊢
    have t1:=gU (W.gr xN) nd hr
    have t2:=mI (W.gr xN) nd hr
    have LG:∀ v∈r.slots,(a0 v).length<=15:=fun v hv=>vrefs_15 (I.slots r hr v hv).dp
    have Vx:=I.R.sl r hr
    wtm_at "w"
    refine e9 (fun i ae V=>CW pos g aX rt ro rk (fQ pos M.rows) (T'++(r.slots.take i).flatMap a0) (K++[r.num]) ae V) t2 ⟨xN,d1,d2,d3,d4,d5,by simpa using e6,e7,e8⟩ ?_ ?_
    ·rintro i v ρ'' ar K' i9 D ke
     have ov:=I.slots r hr v (List.mem_of_getElem? i9)
     have LA:=vrefs_15 ov.dp
     have gX:=oK (f:=a0) (k:=15) (l:=r.slots.take i) fun x hx=>LG x (List.mem_of_mem_take hx)
     have Wi:(r.slots.take i).length<=r.slots.length:=by simp;lia
     have a3:=D.t
     wtm_at "w"
     refine FW.up (p9 G v (by have:=qu ov.dp;lia) fun dY xO j8 iy LH=>?_) (by have:=ov.dp;lia)
     have a6:=j8 _ _ D.T
     change dY[xO]?=some (.list (d9 (a0 v))) at iy
     refine CK a6 iy (by simp only [d9,List.length_map,List.length_append];lia) ?_
     have LJ:Gr aX (dY.set rt (.list (d9 (T'++(r.slots.take i).flatMap a0)++d9 (a0 v)))):=(D.gr.trans j8).set nt
     refine ke _ _ (mI (W.gr LJ) nd hr) ⟨LJ,D.w,D.g,rfl,D.o,D.k,?_,?_,?_⟩
     ·exact U (gs a6 ..) (U Ej (U (List.append_assoc ..) (U (Ek i9 ..) rfl)))
     ·refine U (gn bu ..) ?_;exact j8 _ _ D.O
     ·refine U (gn n1 ..) ?_;exact j8 _ _ D.K
    ·rintro ρ'' ar D
     rw [List.take_length] at D
     have gX:=oK (f:=a0) (k:=15) (l:=r.slots) LG
     have hTn:(T'++r.slots.flatMap a0).length=T'.length+(r.slots.flatMap a0).length:=List.length_append
     exact p6 (kk (m+(r.slots.flatMap a0).length - 51) _ _ (by lia) ⟨T'++r.slots.flatMap a0,K++[r.num],D,L',by lia,by lia⟩)
  ·wtm_at "w"
   exact Ep fun h=>absurd h eR
end
section
variable {C:Cx} {M M':Mo} {pos pos':Tg->Nat} {σ V aX:AH} {Q:AV->AH->Prop} {n:Nat} {N:Loc->AH->Prop} {R:AV->AH->Prop} {ρ:Loc}
theorem Wv {A B:List aq} {r r':aq} (h:r'.num=r.num) {n:Nat} (hn:n≠r.num):(A++r'::B).find? (fun t=>decide (t.num=n))=(A++r::B).find? (fun t=>decide (t.num=n)):=by
 refine U List.find?_append (U List.find?_append (U List.find?_cons (U List.find?_cons ?_)))
 have h1:¬ r'.num=n:=by lia
 have h2:¬ r.num=n:=by lia
 simp only [h1,h2,decide_false]
theorem Ww {A B:List aq} {r:aq} (hn:((A++r::B).map (·.num)).Nodup):(A++r::B).find? (fun t=>decide (t.num=r.num))=some r:=p8 hn (by simp)
theorem Wd.Wx (W:Wd M pos σ) (H:(M.rows.map (·.num)).Nodup) {A B:List aq} {r:aq} {k:Nat} (e:M.rows=A++r::B) {fs:List AV} (ef:fs=[.int r.num,.ref (pos (.cb r.num)),.int k]) :
  Wd (M.gO (A++{ r with gen:=k }::B)) pos (σ.set (pos (.row r.num)) (.list fs)) /\
  aL M pos σ (M.gO (A++{ r with gen:=k }::B)) pos (σ.set (pos (.row r.num)) (.list fs)):=by
 subst ef
 have H':((A++({ r with gen:=k }:aq)::B).map (·.num)).Nodup:=by rw [e] at H;simpa using H
 have f1:M.rows.find? (fun t=>decide (t.num=r.num))=some r:=p8 H (by refine U e ?_;simp)
 have f2:(A++({ r with gen:=k }:aq)::B).find? (fun t=>decide (t.num=r.num))=some { r with gen:=k }:=Ww (r:={ r with gen:=k }) H'
 have fn:∀ n,n≠r.num->(A++({ r with gen:=k }:aq)::B).find? (fun t=>decide (t.num=n))=M.rows.find? (fun t=>decide (t.num=n)):=fun n hn=>by
  exact U (Wv (A:=A) (B:=B) (r:=r) (r':={ r with gen:=k }) rfl hn ..) (U e rfl)
 refine W.upd (t:=.row r.num) (o:=.list [.int r.num,.ref (pos (.cb r.num)),.int r.gen]) (congrArg (Option.map fun u:aq=>AO.list [.int u.num,.ref (pos (.cb r.num)),.int u.gen]) f1) (congrArg (Option.map fun u:aq=>AO.list [.int u.num,.ref (pos (.cb r.num)),.int u.gen]) f2) fun t' ht=>?_
 induction t' with
 | row n=>exact congrArg (Option.map fun u:aq=>AO.list [.int u.num,.ref (pos (.cb n)),.int u.gen]) (fn n fun h=>ht (by exact U h rfl))
 | cb n =>
  by_cases hn:n=r.num
  ·subst hn;exact (congrArg (Option.map fun u:aq=>AO.list (u.slots.map lv)) f2).trans (congrArg (Option.map fun u:aq=>AO.list (u.slots.map lv)) f1).symm
  ·exact congrArg (Option.map fun u:aq=>AO.list (u.slots.map lv)) (fn n hn)
 | _=>rfl
theorem Wy {p:aq->Bool}:∀ {l:List aq} {n:Nat} {r:aq},(l.map (·.num)).Nodup->(l.filter p).find? (fun t=>decide (t.num=n))=some r->l.find? (fun t=>decide (t.num=n))=some r:=fun {l n r} hn h=>by
 have h1:r.num=n:=by simpa using List.find?_some h
 have h2:=(List.mem_filter.mp (List.mem_of_find?_eq_some h)).1
 refine aT h1 ?_;exact p8 hn h2
noncomputable def Mo.qC (M:Mo) (l:List Nat):Mo:={ M with rl:=l }
noncomputable def Er (M:Mo) (g:Nat) (K:List Nat):Mo:=((M.qC ((be g K M.rows).map (·.num))).gO (be g K M.rows)).dZ (fM (be g K M.rows))
theorem Wz (W:Wd M pos σ) {F:List aq} :
  Wd (M.qC (F.map (·.num))) (cn pos .rows σ.length) ((σ++[AO.list (F.map fun r=>AV.ref (pos (.row r.num)))]).set (pos .w) (.bl (bp (wF M pos) .dh (.ref σ.length)))) /\
  aL M pos σ (M.qC (F.map (·.num))) (cn pos .rows σ.length) ((σ++[AO.list (F.map fun r=>AV.ref (pos (.row r.num)))]).set (pos .w) (.bl (bp (wF M pos) .dh (.ref σ.length)))):=by
 obtain ⟨aE,ah⟩:=(W.app (.list (F.map fun r=>AV.ref (pos (.row r.num))))).move (M':=M.qC (F.map (·.num))) (t:=.rows) (k:=.w) (r:=σ.length) (o':=.list (F.map fun r=>AV.ref (pos (.row r.num)))) (ok':=.bl (bp (wF M pos) .dh (.ref σ.length)))
  (by decide) (W.fresh (Nat.le_refl _)) gl (mY M pos) (congrArg (fun l=>some (AO.list l)) List.map_map)
  ((mY _ _).trans (by show some (AO.bl (_++j5 _ M.lay))=some (AO.bl (bp (_++j5 _ M.lay) _ _));cases M.lay <;> rfl))
  (fun t' h1 h2=>by induction t' <;> first | rfl | exact absurd rfl h1 | exact absurd rfl h2)
 exact ⟨aE,ah σ (Gr.app _ _) cL⟩
theorem WA (W:Wd M pos σ) {F:List aq} (h:∀ n r,F.find? (fun t=>decide (t.num=n))=some r->M.rows.find? (fun t=>decide (t.num=n))=some r):Wd (M.gO F) pos σ/\aL M pos σ (M.gO F) pos σ :=
 W.drop fun t o ho=>by
  have key:∀ n (f:aq->AO),(F.find? (fun t=>decide (t.num=n))).map f=some o->(M.rows.find? (fun t=>decide (t.num=n))).map f=some o:=fun n f e=>by
   induction hf:F.find? (fun t=>decide (t.num=n)) with
   | none=>rw [hf] at e;exact aZ e
   | some u=>rw [hf] at e;refine U (h n u hf ..) ?_;exact e
  induction t with
  | row n=>exact key n (fun u:aq=>AO.list [.int u.num,.ref (pos (.cb n)),.int u.gen]) ho
  | cb n=>exact key n (fun u:aq=>AO.list (u.slots.map lv)) ho
  | _=>exact ho
structure CB (pos p:Tg->Nat) (M M':Mo) (σ:AH) (g ro:Nat) (iJ:Int) (ρ:Loc) (V:AH):Prop where
 W:Wd M' p V
 S:aL M pos σ M' p V
 w:ρ .aJ=some (.ref (p .w))
 g:ρ .aW=some (.int g)
 o:ρ .ig=some (.ref ro)
 iJ:ρ .lB=some (.int iJ)
theorem WB (G:Good C) (W:Wd M pos σ) (I:Inv M) {g:Nat} {K:List Nat} (hn:4<=n) {rk ro:Nat} {iJ:Int} (hw:ρ .aJ=some (.ref (pos .w))) (hg:ρ .aW=some (.int g))
  (ho:ρ .ig=some (.ref ro)) (hk:ρ .kn=some (.ref rk)) (xP:ρ .lB=some (.int iJ)) (h2:σ[rk]?=some (.an (gy K)))
  (q:∀ ae V pos',Wd (Er M g K) pos' V->aL M pos σ (Er M g K) pos' V->(∀ t,t≠.rows->t≠.addrs->t≠.words->pos' t=pos t) ->
   ae .aJ=some (.ref (pos .w))->ae .aW=some (.int g)->ae .ig=some (.ref ro)->ae .lB=some (.int iJ)->N ae V) :
  ax C n Eg N R ρ σ:=by
 delta Eg jn
 change ax C n [_,_,_] N R ρ σ
 have g6:=I.lay
 have Ks:=I.R.len
 have nd:=I.R.nd
 have m8:σ[pos .rows]?=some (.list (M.rows.map fun r=>AV.ref (pos (.row r.num)))):=oA W I.R
 have Es:=oq W
 wtm_at "w"
 refine rG (fun i acc V=>V=σ/\acc=((M.rows.take i).filter (cS g K)).map fun r=>AV.ref (pos (.row r.num))) m8 ⟨rfl,rfl⟩ ?_ ?_
 ·(intro i r acc V Kc dN;refine ay ?_;rintro rfl rfl;intro kk)
  have cK:=List.mem_of_getElem? dN
  have t1:=gU W nd cK
  have uX:=@LF K r.num
  have gX:((M.rows.take i).filter (cS g K)).length<=M.rows.length:=by
   have:=List.length_filter_le (cS g K) (M.rows.take i)
   have:(M.rows.take i).length<=M.rows.length:=by simp;lia
   lia
  have tY:M.rows.take (i+1)=M.rows.take i++[r]:=by refine U List.take_add_one (U dN ?_);rfl
  have yes:cS g K r=true->Kc (some (AV.ref (pos (.row r.num)))) V:=fun WC=>kk (some _) _ m8 (by refine U List.length_append (U (List.length_map ..) ?_);show _+1<=_;lia) ⟨rfl,by refine U tY (U (List.filter_append ..) ?_);simp [WC]⟩
  by_cases qe:g<r.gen
  ·wtm_at "w"
   exact yes (D6 qe)
  ·by_cases iz:r.num∈K
   ·rw [decide_eq_true iz] at uX
    wtm_at "w"
    exact yes (by simp [cS,iz])
   ·rw [decide_eq_false iz] at uX
    wtm_at "w"
    exact kk none _ m8 (by refine U List.length_append (U (List.length_map ..) ?_);show _+0<=_;lia) ⟨rfl,by refine U tY (U (List.filter_append ..) ?_);simp [cS,iz,qe]⟩
 ·(intro acc σs;refine ay ?_;rintro rfl rfl)
  refine U List.take_length ?_
  generalize hF:M.rows.filter (cS g K)=F
  have hFl:F.length<=M.rows.length:=by refine aT hF ?_;exact List.length_filter_le ..
  have WD:(F.map (·.num)).Nodup:=by refine aT hF ?_;exact nd.sublist (List.filter_sublist.map _)
  have WE:=ga (o':=AO.list (F.map fun r=>AV.ref (pos (.row r.num)))) Es
  (refine ay ?_ (Wz W (F:=F));intro aE ah)
  wtm_at "k"
  have kp:∀ {x:Tg},x≠.rows->cn pos .rows σs.length x=pos x:=fun h=>ft h
  generalize cn pos .rows σs.length=cp at aE ah kp
  generalize (σs++[AO.list (F.map fun r=>AV.ref (pos (.row r.num)))]).set (pos .w) (.bl (bp (wF M pos) .dh (.ref σs.length)))=ai at aE ah ⊢
  (refine ay ?_ (WA aE (F:=F) fun n r h=>Wy (p:=cS g K) (l:=M.rows) nd (by refine U hF ?_;exact h));intro bc av)
  replace av:=ah.trans av
  clear ah aE Es WE m8 W
  have kw:=kp (x:=.w) (by decide)
  have LK:ai[cp .rows]?=some (.list (F.map fun r=>AV.ref (cp (.row r.num)))):=(bc.get .rows _ rfl).trans (congrArg (fun l=>some (AO.list l)) List.map_map)
  rw [<- kw] at hw
  have c0:CB pos cp M ((M.qC (F.map (·.num))).gO ((F.take 0).map (bump g)++F.drop 0)) σs g ro iJ ρ ai:=⟨bc,av,hw,hg,ho,xP⟩
  wtm_at "w"
  refine e9 (fun i ae ar=>CB pos cp M ((M.qC (F.map (·.num))).gO ((F.take i).map (bump g)++F.drop i)) σs g ro iJ ae ar) LK c0 ?_ ?_
  ·rintro i r ae ar K' dN D kk
   have hi:=(List.getElem?_eq_some_iff.mp dN).1
   have LM:F.drop i=r::F.drop (i+1):=by
    exact U (List.drop_eq_getElem_cons hi ..) (U ((List.getElem?_eq_some_iff.mp dN).2 ..) rfl)
   have tY:F.take (i+1)=F.take i++[r]:=by refine U List.take_add_one (U dN ?_);rfl
   have bP:(((F.take i).map (bump g)++F.drop i).map (·.num)).Nodup:=by
    have:((F.take i).map (bump g)++F.drop i).map (·.num)=F.map (·.num):=by
     refine U List.map_append (U List.map_map ?_)
     have:(F.take i).map ((fun x=>x.num) ∘ bump g)=(F.take i).map (·.num):=List.map_congr_left fun r Y=>lh
     exact U this (aT List.map_append (U (List.take_append_drop ..) rfl))
    refine U this ?_;exact WD
   have cK:r∈(F.take i).map (bump g)++F.drop i:=by refine U LM ?_;exact List.mem_append_right _ (.head _)
   have oB:∀ {M':Mo} {σ:AH},M'.rl=F.map (·.num)->Wd M' cp σ->σ[cp .rows]?=some (.list (F.map fun r=>AV.ref (cp (.row r.num)))):=fun h W=>(W.get .rows _ rfl).trans (by refine U h (U List.map_map ?_);rfl)
   have Et:(F.take i).map (bump g)++bump g r::F.drop (i+1)=(F.take (i+1)).map (bump g)++F.drop (i+1):=by refine U tY ?_;simp
   obtain ⟨bg,aV,d1,d2,d3,d4⟩:=D
   generalize (F.take i).map (bump g)=A at *
   generalize (F.take (i+1)).map (bump g)=A' at *
   rw [LM] at bg aV bP cK
   have t1:=gU bg bP cK
   by_cases eR:r.gen<=g
   ·have hb:bump g r={ r with gen:=if r.gen+1<2 then r.gen+1 else 2 }:=by unfold bump;exact U (if_pos eR ..) rfl
    obtain ⟨bT,bK⟩:=bg.Wx bP (A:=A) (B:=F.drop (i+1)) (r:=r) (k:=if r.gen+1<2 then r.gen+1 else 2) rfl (fs:=[AV.int r.num,.ref (cp (.cb r.num)),.int r.gen].set (2:Int).toNat (.int (if (r.gen:Int)+1<2 then (r.gen:Int)+1 else 2))) (by
     have:(AV.int (if (r.gen:Int)+1<2 then (r.gen:Int)+1 else 2))=.int ((if r.gen+1<2 then r.gen+1 else 2:Nat):Int):=by
      congr 1;split <;> split <;> wtm_at "o"
     refine U this ?_;rfl)
    rw [<- hb,Et] at bT bK
    wtm_at "w"
    exact kk _ _ (oB rfl bT) ⟨bT,aV.trans bK,d1,d2,d3,d4⟩
   ·have hb:bump g r=r:=by unfold bump;exact U (if_neg eR ..) rfl
    rw [hb] at Et
    rw [Et] at bg aV
    wtm_at "w"
    exact kk _ _ (oB rfl bg) ⟨bg,aV,d1,d2,d3,d4⟩
  ·rintro ae ar ⟨bg,aV,d1,d2,d3,d4⟩
   have LN:F.map (bump g)=be g K M.rows:=by refine aT hF ?_;rfl
   have jm:F.map (·.num)=(be g K M.rows).map (·.num):=by exact U D7 (U hF rfl)
   have RO:gL ((M.qC ((be g K M.rows).map (·.num))).gO (be g K M.rows)):=by
    refine ⟨rfl,uS nd,fun x hx=>?_,?_,fun x hx=>?_⟩
    ·(refine bO ?_ (uT hx);rintro r hr _ rfl)
     refine U lh ?_;exact I.R.pos r hr
    ·show (be g K M.rows).length<=_
     refine aT LN (U (List.length_map ..) ?_);lia
    ·(refine bO ?_ (uT hx);rintro r hr _ rfl)
     refine U r9 ?_;exact I.R.sl r hr
   rw [List.take_length,List.drop_length,List.append_nil,LN,jm] at bg aV
   clear LK bc av c0
   wtm_at "w"
   refine FW.up (DB G bg RO fun cg oh bT bK k4=>?_) (by lia)
   rw [kw] at d1
   exact p6 (q _ _ oh bT (aV.trans bK) (fun t h1 h2 h3=>(k4 t h2 h3).trans (kp h1)) d1 d2 d3 d4)
end
section
variable {C:Cx} {M M':Mo} {pos pos':Tg->Nat} {σ V aX:AH} {Q:AV->AH->Prop} {n:Nat} {N:Loc->AH->Prop} {R:AV->AH->Prop} {ρ:Loc}
noncomputable def m9 (l:List aq) (g:Nat) (n:Nat):Bool:=match l.find? (fun r=>decide (r.num=n)) with
 | some u=>decide (u.gen<g)
 | none=>false
theorem WF {l:List aq} {g:Nat} {v:Vl}:lj l g v=decide (0<((a0 v).filter (m9 l g)).length):=by
 have:lj l g v=(a0 v).any (m9 l g):=rfl
 refine U this ?_
 generalize a0 v=vs
 induction vs with
 | nil=>rfl
 | cons a vs ih =>
  refine U List.any_cons (U List.filter_cons ?_)
  induction h:m9 l g a with
  | true=>simp
  | false=>simpa using ih
theorem LO {A:Nat->Int} {b:Nat} {l m:List (aq × Nat)} {c:List Int}:eG A b (l++m) c=eG A b m (eG A b l c):=by unfold eG;exact U List.foldl_append rfl
theorem WG {l0 l m:List aq}:eT l0 (l++m)=eT l0 l++eT l0 m:=by simp [eT]
theorem WH (W:Wd M pos σ) :
  Wd (M.gP []) (cn pos .cards σ.length) ((σ++[AO.an []]).set (pos .w) (.bl (bp (wF M pos) .de (.ref σ.length)))) /\
  aL M pos σ (M.gP []) (cn pos .cards σ.length) ((σ++[AO.an []]).set (pos .w) (.bl (bp (wF M pos) .de (.ref σ.length)))):=by
 obtain ⟨aE,ah⟩:=(W.app (.an [])).move (M':=M.gP []) (t:=.cards) (k:=.w) (r:=σ.length) (o':=.an []) (ok':=.bl (bp (wF M pos) .de (.ref σ.length)))
  (by decide) (W.fresh (Nat.le_refl _)) gl (mY M pos) rfl
  ((mY _ _).trans (by show some (AO.bl (_++j5 _ M.lay))=some (AO.bl (bp (_++j5 _ M.lay) _ _));cases M.lay <;> rfl))
  (fun t' h1 h2=>by induction t' <;> first | rfl | exact absurd rfl h1 | exact absurd rfl h2)
 exact ⟨aE,ah σ (Gr.app _ _) cL⟩
theorem WI {l:List aq} {r:aq} {j:Nat} {v:Vl} (h:r.slots[j]?=some v):f4 l r (j+1)=f4 l r j++if lj l r.gen v then [j] else []:=by
 unfold f4
 refine U List.range_succ (U (List.filter_append ..) ?_)
 induction h':lj l r.gen v <;> simp [h,h']
theorem WJ {l:List aq} {i:Nat} {r:aq} (h:l[i]?=some r):eT l (l.take (i+1))=eT l (l.take i)++(f4 l r r.slots.length).map fun k=>(r,k):=by
 refine U List.take_add_one (U h (U WG ?_));simp [eT]
theorem WK {A:Nat->Int} {b:Nat} {l0 l:List aq} (h:∀ r∈l,r.slots.length<=3):(eG A b (eT l0 l) []).length<=3*l.length:=by
 have h1:=xI A b (eT l0 l) []
 have h2:=D9 l0 l h
 simp only [List.length_nil] at h1
 lia
structure CD (pos p:Tg->Nat) (M:Mo) (c:List Int) (σ:AH) (g ro:Nat) (iJ:Int) (ρ:Loc) (V:AH):Prop where
 W:Wd (M.gP c) p V
 S:aL M pos σ (M.gP c) p V
 w:ρ .aJ=some (.ref (p .w))
 g:ρ .aW=some (.int g)
 o:ρ .ig=some (.ref ro)
 iJ:ρ .lB=some (.int iJ)
theorem WL (G:Good C) (W:Wd M pos σ) (L:ju M) (hb:M.bits<=3) (hs:∀ r∈M.rows,∀ v∈r.slots,ci v<=4/\∀ n∈a0 v,∃ u∈M.rows,u.num=n) {g:Nat} (hn:4<=n) {ro:Nat} {iJ:Int} (hw:ρ .aJ=some (.ref (pos .w))) (hg:ρ .aW=some (.int g))
  (ho:ρ .ig=some (.ref ro)) (xP:ρ .lB=some (.int iJ)) {D:List (Int × AV)} (h2:σ[ro]?=some (.an D)) (oo:cm M pos ro) (hD:∀ r∈M.rows,bL D r.num=some (.ref (pos (.row r.num))))
  (q:∀ ae V pos',Wd (M.gP (eG (ak M.rows) M.bits (eT M.rows M.rows) [])) pos' V->aL M pos σ (M.gP (eG (ak M.rows) M.bits (eT M.rows M.rows) [])) pos' V->(∀ t,t≠.cards->pos' t=pos t) ->
   ae .aJ=some (.ref (pos .w))->ae .aW=some (.int g)->ae .lB=some (.int iJ)->N ae V) :
  ax C n Eh N R ρ σ:=by
 delta Eh jn
 change ax C n [_,_] N R ρ σ
 have nd:=L.R.nd
 have g6:=L.lay
 have acl:=L.R.len
 have Es:=ga (o':=AO.an []) (oq W)
 (refine ay ?_ (WH W);intro aE ah)
 wtm_at "x";wtm_at "x";wtm_at "k"
 have kp:∀ {x:Tg},x≠.cards->cn pos .cards σ.length x=pos x:=fun h=>ft h
 generalize cn pos .cards σ.length=cp at aE ah kp
 generalize (σ++[AO.an []]).set (pos .w) (.bl (bp (wF M pos) .de (.ref σ.length)))=ai at aE ah ⊢
 have kw:=kp (x:=.w) (by decide)
 have ndM:(M.rows.map (·.num)).Nodup:=nd
 have LC:∀ c,ju (M.gP c):=fun c=>⟨⟨L.R.rl,L.R.nd,L.R.pos,L.R.len,L.R.sl⟩,L.lay⟩
 have oB:∀ {c V},Wd (M.gP c) cp V->V[cp .rows]?=some (.list (M.rows.map fun r=>AV.ref (cp (.row r.num)))):=fun {c V} W'=>oA (M:=M.gP c) W' (LC c).R
 have LP:=oB aE
 rw [<- kw] at hw
 wtm_at "w"
 refine e9 (fun i ae V=>CD pos cp M (eG (ak M.rows) M.bits (eT M.rows (M.rows.take i)) []) σ g ro iJ ae V) LP ⟨aE,ah,hw,hg,ho,xP⟩ ?_ ?_
 ·rintro i r ae V K' dN ⟨bg,aV,d1,d2,d3,d4⟩ kk
  have cK:=List.mem_of_getElem? dN
  have fD:=L.R.sl r cK
  have t1:=gU bg nd cK
  have t2:=mI bg nd cK
  have hy:=WJ dN
  have cl:=@WK (ak M.rows) M.bits M.rows (M.rows.take i) fun r hr=>L.R.sl r (List.mem_of_mem_take hr)
  have h3:(M.rows.take i).length<=M.rows.length:=List.length_take_le' ..
  generalize eT M.rows (M.rows.take i)=Y at bg aV cl hy
  rw [hy] at kk
  clear hy
  have e0:Y++(f4 M.rows r 0).map (fun k=>(r,k))=Y:=List.append_nil _
  wtm_at "w"
  refine jQ r.slots.length (fun j ρ'' ar=>CD pos cp M (eG (ak M.rows) M.bits (Y++(f4 M.rows r j).map fun k=>(r,k)) []) σ g ro iJ ρ'' ar/\ρ'' .bW=some (.ref (cp (.row r.num)))) rfl (by lia) ⟨⟨by refine U e0 ?_;exact bg,by refine U e0 ?_;exact aV,d1,d2,d3,d4⟩,rfl⟩ ?_ ?_
  ·clear t1 t2 bg aV d1 d2 d3 d4 e0
   (intro j ρ'' ar K1 hj;refine ay ?_;rintro ⟨bT,bK,a1,a2,a3,a4⟩ a5;intro ke)
   obtain ⟨v,qB⟩:∃ v,r.slots[j]?=some v:=(aQ _ (List.getElem?_eq_getElem hj))
   (refine ay ?_ (hs r cK v (List.mem_of_getElem? qB));intro vd vl)
   have LA:=vrefs_15 vd
   have LQ:=@WI M.rows r j v qB
   have yj:(f4 M.rows r j).length<=j:=by unfold f4;exact Nat.le_trans (List.length_filter_le ..) (by simp)
   have fY:(eG (ak M.rows) M.bits (Y++(f4 M.rows r j).map fun k=>(r,k)) []).length<=300003:=by
    refine U LO ?_
    have:=xI (ak M.rows) M.bits ((f4 M.rows r j).map fun k=>(r,k)) (eG (ak M.rows) M.bits Y [])
    rw [List.length_map] at this
    lia
   have hz:(0:Int)<=j:=Int.natCast_nonneg j
   rw [<- Int.toNat_natCast j] at qB
   have t1:=gU bT nd cK
   have t2:=mI bT nd cK
   rw [LQ] at ke
   generalize f4 M.rows r j=ys at ke bT bK fY
   clear LQ yj
   wtm_at "w"
   refine FW.up (p9 G v (by have:=qu vd;lia) fun dY xO j8 iy LH=>?_) (by lia)
   have cR:=bT.gr j8
   have dk:=bK.trans (aL.gr j8)
   have WM:=dk.keep _ _ oo h2
   clear t1 t2 bT bK
   have t1:=gU cR nd cK
   wtm_at "w"
   refine rG (fun k acc V=>V=dY/\acc=(((a0 v).take k).filter (m9 M.rows r.gen)).map fun n=>AV.int (n:Nat)) iy ⟨rfl,rfl⟩ ?_ ?_
   ·(intro k m acc xQ Kc LR;refine ay ?_;rintro rfl rfl;intro kc)
    (refine au ?_ (vl m (List.mem_of_getElem? LR));rintro u hu rfl)
    have u1:=gU cR nd hu
    have WN:=hD u hu
    rw [<- kp (x:=.row u.num) (fun h=>nomatch h)] at WN
    have hyp:m9 M.rows r.gen u.num=decide (u.gen<r.gen):=by unfold m9;exact U (p8 nd hu ..) rfl
    have gX:(((a0 v).take k).filter (m9 M.rows r.gen)).length<=15:=by
     have:=List.length_filter_le (m9 M.rows r.gen) ((a0 v).take k)
     have:((a0 v).take k).length<=(a0 v).length:=List.length_take_le' ..
     lia
    have LS:(a0 v).take (k+1)=(a0 v).take k++[u.num]:=by refine U List.take_add_one (U LR ?_);rfl
    by_cases aS:u.gen<r.gen
    ·wtm_at "w"
     refine kc (some _) _ iy (by refine U List.length_append (U (List.length_map ..) ?_);show _+1<=_;lia) ⟨rfl,?_⟩
     refine U LS (U (List.filter_append ..) ?_)
     simp [hyp,aS]
    ·wtm_at "w"
     refine kc none _ iy (by refine U List.length_append (U (List.length_map ..) ?_);show _+0<=_;lia) ⟨rfl,?_⟩
     refine U LS (U (List.filter_append ..) ?_)
     simp [hyp,aS]
   ·(intro acc xQ;refine ay ?_;rintro rfl rfl)
    refine U List.take_length ?_
    have pA:=@WF M.rows r.gen v
    generalize (a0 v).filter (m9 M.rows r.gen)=F at pA
    have cJ:=cR.app (.list (F.map fun n=>AV.int (n:Nat)))
    have dm:=dk.trans (aL.gr (Gr.app _ (AO.list (F.map fun n=>AV.int (n:Nat)))))
    have hL:(xQ++[AO.list (F.map fun n=>AV.int (n:Nat))])[xQ.length]?=some (.list (F.map fun n=>AV.int (n:Nat))):=gl
    clear WM cR dk t1 iy j8 LH
    generalize xQ++[AO.list (F.map fun n=>AV.int (n:Nat))]=cU at cJ dm hL ⊢
    have t1:=gU cJ nd cK
    rw [pA] at ke
    by_cases aS:0<F.length
    ·have hC:cU[cp .cards]?=some (.an (cx (eG (ak M.rows) M.bits (Y++ys.map fun k=>(r,k)) []))):=cJ.get .cards _ rfl
     have DR:(cx (eG (ak M.rows) M.bits (Y++ys.map fun k=>(r,k)) [])).length<1000000:=by refine U wZ ?_;lia
     have ab:gR cU (.ref (cp .w)) .fg=some (.int M.bits):=oz cJ rfl
     have hA:cU[cp .addrs]?=some (.an ((fM M.rows).1.map fun y=>((y.1:Int),AV.int y.2))):=xz (M:=M.gP (eG (ak M.rows) M.bits (Y++ys.map fun k=>(r,k)) [])) cJ (LC _)
     have aA:gR cU (.ref (cp .w)) .eH=some (.ref (cp .addrs)):=Ua cJ g6
     have ad:=r3 nd L.R.pos (.inr (aB r cK rfl))
     (refine ay ?_ (Lu _ hb);intro p1 p2)
     have p0:(0:Int)<=(M.bits:Int):=Int.natCast_nonneg _
     have p3:(M.bits:Int)<=1000:=by lia
     (refine ay ?_ (KR cJ (l:=cV (eG (ak M.rows) M.bits (Y++ys.map fun k=>(r,k)) []) (cP (ak M.rows r.num) j M.bits)) rfl);intro gK xf)
     have ek:(ak M.rows r.num+2+(j:Int)) / 2 ^ ((M.bits:Nat):Int).toNat=cP (ak M.rows r.num) j M.bits:=by unfold cP;rfl
     rw [decide_eq_true aS,if_pos rfl,List.map_append,<- List.append_assoc,LO (m:=[(j)].map fun k=>(r,k))] at ke
     wtm_at "w"
     refine U ek (U rM ?_)
     exact ke _ _ ⟨⟨gK,dm.trans xf,a1,a2,a3,a4⟩,a5⟩
    ·rw [decide_eq_false aS,if_neg Bool.false_ne_true,List.append_nil] at ke
     wtm_at "w"
     exact ke _ _ ⟨⟨cJ,dm,a1,a2,a3,a4⟩,a5⟩
  ·(intro ρ'' ar;refine ay ?_;intro D a5)
   exact p6 (kk _ _ (oB D.W) D)
 ·rintro ae V ⟨bg,aV,d1,d2,d3,d4⟩
  rw [List.take_length] at bg aV
  rw [kw] at d1
  exact p6 (q _ _ cp bg aV (fun t h=>kp h) d1 d2 d4)
end
section
variable {C:Cx} {M M':Mo} {pos pos':Tg->Nat} {σ V aX:AH} {Q:AV->AH->Prop} {n:Nat} {N:Loc->AH->Prop} {R:AV->AH->Prop} {ρ:Loc}
theorem Inv.small (I:Inv M):mN M/\(∀ t∈M.ac,t.slots.length<=3)/\(∀ t∈M.ac,∀ v∈t.slots,mu v<=100000)/\∀ v∈M.cells,ch v<=100000/\mu v<=100000:=by
 have key:∀ t∈M.ac,t.slots.length<=3/\∀ v∈t.slots,ch v<=100000/\mu v<=100000:=fun t ht=>by
  rw [I.li] at ht
  (refine au ?_ (List.mem_map.mp ht);rintro r hr rfl)
  refine ⟨by simp only [bk,List.length_map];exact I.R.sl r hr,fun v hv=>?_⟩
  (refine au ?_ (List.mem_map.mp hv);rintro x hx rfl)
  exact DI (I.slots r hr x hx).dp
 refine ⟨fun t ht v hv=>((key t ht).2 v hv).1,fun t ht=>(key t ht).1,fun t ht v hv=>((key t ht).2 v hv).2,fun v hv=>?_⟩
 rw [I.cells] at hv
 (refine au ?_ (List.mem_map.mp hv);rintro x hx rfl)
 exact DI (rZ (I.roots x hx))
theorem bR.WO (H:bR M):(M.ac.map (·.addr)).Nodup:=by
 unfold List.Nodup
 rw [List.pairwise_map,List.pairwise_iff_getElem]
 intro i j hi hj ik e
 have h1:=H.ap i j _ _ (List.getElem?_eq_getElem hi) (List.getElem?_eq_getElem hj) ik
 have h2:=H.pos _ (List.getElem_mem hi)
 have e:M.ac[i].addr=M.ac[j].addr:=e
 lia
theorem WP (G:Good C) (I:Inv M) {g:Nat} {K:List Nat} (L:oJ M g K) (W:Wd (dI M g K) pos σ) (hn:10<=n) (hw:ρ .aJ=some (.ref (pos .w))) (hg:ρ .aW=some (.int g)) (xP:ρ .lB=some (.int M.rows.length))
  (q:∀ V M' pos',Inv M'->Wd M' pos' V->aL (dI M g K) pos σ M' pos' V->Nx M M' 0->(∀ t,t≠.things->t≠.idx->t≠.fZ->t≠.bv->pos' t=pos t)->R (.bool true) V) :
  ax C n Ei N R ρ σ:=by
 delta Ei jn
 change ax C n [_,_] N R ρ σ
 (refine jw ?_ (I.small);intro Z Zs Zm Zc)
 have H:bR (dI M g K):=⟨I.cM.tl,I.cM.nd,I.cM.idx,I.cM.ap,I.cM.pos,I.cM.len⟩
 have fY:(dI M g K).cells.length<=500000:=by show M.cells.length<=_;have:=I.r4;lia
 have mk:∀ Kh,mP (dI M g K) g Kh->mP M g Kh:=fun Kh h=>⟨h.iff,h.nd,h.ka⟩
 wtm_at "w"
 refine FW.up (TX G H Z Zs (fun v hv=>(Zc v hv).1) fY (fun v hv=>(Zc v hv).2) Zm (fun Kh uY=>?_) (W.app _) gl (W.fresh (Nat.le_refl _)) fun ai cp Kh bX lim uY aE ah kp=>?_) (by lia)
 ·have I':∀ bX,Inv (qq (dI M g K) g Kh bX 0):=fun bX=>Lq I L (mk Kh uY)
  refine ⟨?_,fun bX=>?_⟩
  ·have:=(I' 0).cM.WO
   have e2:((((dI M g K).ac.filter (bB g (c9 (dI M g K) g Kh))).map (bE g (c9 (dI M g K) g Kh))).map (·.addr))=(jZ (dI M g K) g (c9 (dI M g K) g Kh)).map (·.addr):=by
    unfold jZ
    refine U List.map_map (U List.map_map ?_)
    exact List.map_congr_left fun t Y=>by simp only [Function.comp,xi];exact JK.symm
   refine U e2 ?_;exact this
  ·have h:=I' bX
   (refine jw ?_ (h.small);intro a b _ _)
   exact ⟨⟨h.cM.tl,h.cM.nd,h.cM.idx,h.cM.ap,h.cM.pos,h.cM.len⟩,a,b⟩
 ·have I':Inv (qq (dI M g K) g Kh bX lim):=Lq I L (mk Kh uY)
  have hK:∀ r∈M.rows,ak M.rows r.num∈Kh↔r.num∈K:=fun r hr=>K3 I L (mk Kh uY) hr
  (refine ay ?_ (Lj I hK fun r hr hk v hv=>xJ I L hr hk hv);intro _ hf)
  generalize Eu:qq (dI M g K) g Kh bX lim=cE at aE ah I' ⊢
  have WQ:=(aL.gr (Gr.app σ (AO.list [.ref (pos .cells)]))).trans ah
  have kw:=kp .w (by decide) (by decide) (by decide) (by decide)
  have LP:=aE.get .rows _ rfl
  have mR:ai[cp .cells]?=some (.list (cE.cells.map pv)):=aE.get .cells _ rfl
  have LU:ai[cp .roots]?=some (.list (cE.roots.map lv)):=aE.get .roots _ rfl
  rw [<- kw] at hw
  have bC:((dI M g K).ac.length:Int) - (((dI M g K).ac.filter (bB g (c9 (dI M g K) g Kh))).length:Int)=(M.rows.length:Int) - ((be g K M.rows).length:Int):=by
   have e1:(dI M g K).ac.length=M.rows.length:=by show M.ac.length=_;exact U I.li (U (List.length_map ..) rfl)
   have e2:((dI M g K).ac.filter (bB g (c9 (dI M g K) g Kh))).length=(be g K M.rows).length:=by
    have:(dI M g K).ac.filter (bB g (c9 (dI M g K) g Kh))=_:=hf
    refine U this ?_;unfold be;exact U (List.length_map ..) (U (List.length_map ..) rfl)
   exact U e1 (U e2 rfl)
  have Lx:cE.rl.length=(be g K M.rows).length:=by refine aT Eu ?_;show ((be g K M.rows).map (·.num)).length=_;exact U (List.length_map ..) rfl
  have nx:Nx (dI M g K) cE 0:=by refine aT Eu ?_;exact ⟨rfl,rfl,Nat.le_refl _,Nat.le_refl _,Nat.le_refl _⟩
  have WR:Nx M cE 0:=⟨nx.ns,nx.asked,nx.k7,nx.fN,nx.j6⟩
  clear Eu nx hK hf ah uY
  have rl:=I'.r4
  wtm_at "w"
  refine rG (fun j acc ar=>ar=ai/\acc=(cE.roots.take j).map fun v=>pv (sv (ak cE.rows) v)) LU ⟨rfl,rfl⟩ ?_ ?_
  ·(intro j v acc LV K' i9;refine ay ?_;rintro rfl rfl;intro kc)
   have jp:=List.mem_of_getElem? i9
   have Ly:=rZ (I'.roots v jp)
   wtm_at "w"
   refine FW.up (r7 G aE I' (xu (I'.roots v jp)) ?_) (by lia)
   wtm_at "w"
   refine kc (some _) _ LU ?_ ⟨rfl,(uh i9).symm⟩
   have h1:(cE.roots.take j).length<=cE.roots.length:=List.length_take_le' ..
   refine U List.length_append (U (List.length_map ..) ?_);show _+1<=_;lia
  ·(intro acc LV;refine ay ?_;rintro rfl rfl)
   refine U List.take_length (U (show (cE.roots.map fun v=>pv (sv (ak cE.rows) v))=(cE.roots.map (sv (ak cE.rows))).map pv by rw [List.map_map];rfl) (aT I'.cells ?_))
   have hE:=KW (ga mR) (gl (σ:=LV) (o':=AO.list (cE.cells.map pv))) (by refine U I'.cells ?_;exact D3 _ fun v hv=>rZ (I'.roots v hv))
   wtm_at "w"
   exact q _ _ cp I' (aE.app _) (WQ.trans (aL.gr (Gr.app _ _))) WR kp
end
section
variable {C:Cx} {M M':Mo} {pos pos':Tg->Nat} {σ V aX:AH} {Q:AV->AH->Prop} {n:Nat} {N:Loc->AH->Prop} {R:AV->AH->Prop} {ρ:Loc}
theorem Wd.WS (W:Wd M pos σ) {r:Nat} (h:σ[r]?=none):cm M pos r:=W.fresh (by simpa using h)
theorem WT (G:Good C) (W:Wd M pos σ) (I:Inv M) (hd:M.d<=2000) {g:Nat}
  (q:∀ V M' pos',Inv M'->Wd M' pos' V->aL M pos σ M' pos' V->Nx M M' 0->Fx pos pos'->Q (.bool true) V):FW C 11 .yP [.ref (pos .w),.int g] Q σ:=by
 refine bo G (b:=jn) (ps:=Im) rfl rfl rfl rfl ?_
 refine U V9 (U (oL ..) ?_)
 refine Wf (g:=g) G W I hd (by decide) rfl rfl fun jl ai rt ro bA a1 a2 a3 a4 nt no bu h1 h2=>?_
 refine U (oL ..) ?_
 refine Ws G W I hd (by decide) bA a1 a2 a3 a4 nt no bu h1 h2 fun dE aH rk K dx b1 b2 b3 b4 b5 nk h3 h4 L=>?_
 refine U (oL ..) ?_
 have bc:=W.gr dx
 refine WB G bc I (by decide) b1 b2 b3 b4 b5 h4 fun nU bn qp bg aV k3 c1 c2 c3 c4=>?_
 refine U (oL ..) ?_
 have oo:=W.WS no
 have nd:=uS (g:=g) (K:=K) I.R.nd
 have sub:∀ x∈be g K M.rows,∃ r∈M.rows,cS g K r=true/\x=bump g r:=fun x hx=>uT hx
 have RO:gL (Er M g K):=by
  refine ⟨rfl,nd,fun x hx=>?_,?_,fun x hx=>?_⟩
  ·(refine bO ?_ (sub x hx);rintro r hr _ rfl)
   refine U lh ?_;exact I.R.pos r hr
  ·show (be g K M.rows).length<=_
   have:=I.R.len
   have:(be g K M.rows).length<=M.rows.length:=by unfold be;refine U (List.length_map ..) ?_;exact List.length_filter_le ..
   lia
  ·(refine bO ?_ (sub x hx);rintro r hr _ rfl)
   refine U (r9 ..) ?_;exact I.R.sl r hr
 have kw:qp .w=pos .w:=k3 .w (by decide) (by decide) (by decide)
 rw [<- kw] at c1
 refine WL G bg ⟨RO,rfl⟩ I.bits (fun x hx v hv=>?_) (by decide) c1 c2 c3 c4 (aV.keep _ _ oo h3) (aV.out oo h3) (fun x hx=>?_) fun acm cg oh bT bK k4 d1 d2 d3=>?_
 ·(refine bO ?_ (sub x hx);rintro r hr hk rfl)
  rw [r9] at hv
  refine ⟨(I.slots r hr v hv).dp,fun m hm=>?_⟩
  (refine ay ?_ (m6 hm);intro h4 h5)
  exact Eb ((xJ I L hr hk hv m h4).resolve_left h5)
 ·(refine bO ?_ (sub x hx);rintro r hr hk rfl)
  exact U lh (U (LB I.R.nd hr ..) (U (k3 _ (by simp) (by simp) (by simp) ..) rfl))
 ·rw [<- k4 .w (by decide)] at d1
  have WU:=(aL.gr dx).trans (aV.trans bK)
  refine WP G I L bT (by decide) d1 d2 d3 fun dY Ew JL wi cR dk nx k5=>?_
  refine q dY Ew JL wi cR (WU.trans dk) nx fun t ht=>?_
  have hx:t≠.rows/\t≠.addrs/\t≠.words/\t≠.cards/\t≠.things/\t≠.idx/\t≠.fZ/\t≠.bv:=by
   simp at ht
   rcases ht with rfl | rfl | rfl | rfl | rfl | rfl <;> simp
  (revert hx;refine Mv ?_;intro x1 x2 x3 x4 x5 x6 x7 x8)
  exact (k5 t x5 x6 x7 x8).trans ((k4 t x4).trans (k3 t x1 x2 x3))
end
section
variable {C:Cx} {M M' iU:Mo} {pos pos' iD:Tg->Nat} {σ V ar aX:AH} {Q:AV->AH->Prop} {n:Nat} {N:Loc->AH->Prop} {R:AV->AH->Prop} {ρ:Loc}
structure Rn (M:Mo) (pos:Tg->Nat) (σ:AH) (M':Mo) (pos':Tg->Nat) (V:AH) (k:Nat):Prop where
 I:Inv M'
 W:Wd M' pos' V
 S:aL M pos σ M' pos' V
 fx:Fx pos pos'
 ns:M'.ns=M.ns
 k7:M.d<=M'.d
 fN:M'.d<=M.d+k
 j6:M.roots.length<=M'.roots.length
theorem Fx.refl:Fx pos pos:=fun Y Y=>rfl
theorem Fx.trans (x:Fx pos pos') (y:Fx pos' iD):Fx pos iD:=fun t ht=>(y t ht).trans (x t ht)
theorem Rn.trans {k k' k'':Nat} (x:Rn M pos σ M' pos' V k) (y:Rn M' pos' V iU iD ar k') (h:k+k'<=k''):Rn M pos σ iU iD ar k'' :=
 ⟨y.I,y.W,x.S.trans y.S,x.fx.trans y.fx,y.ns.trans x.ns,Nat.le_trans x.k7 y.k7,by have:=x.fN;have:=y.fN;lia,Nat.le_trans x.j6 y.j6⟩
theorem Rn.of {k:Nat} (I:Inv M') (W:Wd M' pos' V) (S:aL M pos σ M' pos' V) (fx:Fx pos pos') (nx:Nx M M' k):Rn M pos σ M' pos' V k:=⟨I,W,S,fx,nx.ns,nx.k7,nx.fN,nx.j6⟩
structure RL (ρ:Loc) (pos:Tg->Nat):Prop where
 nums:ρ .bG=some (.ref (pos .nums))
 at_:ρ .bz=some (.ref (pos .d))
 w:ρ .aJ=some (.ref (pos .w))
 asked:ρ .eW=some (.ref (pos .asked))
theorem RL.fx (r:RL ρ pos) (f:Fx pos pos'):RL ρ pos' :=
 ⟨by refine U (f .nums (by simp) ..) ?_;exact r.nums,by refine U (f .d (by simp) ..) ?_;exact r.at_,by refine U (f .w (by simp) ..) ?_;exact r.w,by refine U (f .asked (by simp) ..) ?_;exact r.asked⟩
theorem RL.set (r:RL ρ pos) {x:Nm} {v:AV} (h1:x≠.bG) (h2:x≠.bz) (h3:x≠.aJ) (h4:x≠.eW):RL (co ρ x v) pos :=
 ⟨by refine U (n0 (Ne.symm h1) ..) ?_;exact r.nums,by refine U (n0 (Ne.symm h2) ..) ?_;exact r.at_,by refine U (n0 (Ne.symm h3) ..) ?_;exact r.w,by refine U (n0 (Ne.symm h4) ..) ?_;exact r.asked⟩
theorem Inv.oM (I:Inv M):iG M:=⟨I.iH.1,I.iH.2,by have:=I.b5;lia⟩
theorem Inv.Ey (I:Inv M) (hd:M.d+1<=10000):Inv (M.sD (M.d+1)):=I.draw (c':=M.count) (by lia) hd
theorem sd (I:Inv M) (hd:M.d+1<=10000) (aE:Wd (M.sD (M.d+1)) pos V) (ah:aL M pos σ (M.sD (M.d+1)) pos V):Rn M pos σ (M.sD (M.d+1)) pos V 1 :=
 ⟨I.Ey hd,aE,ah,Fx.refl,rfl,Nat.le_succ _,Nat.le_refl _,Nat.le_refl _⟩
theorem LW (G:Good C) (W:Wd M pos σ) (I:Inv M) (hd:M.d+40<=10000) (hn:4<=n) (r:RL ρ pos) {a:Nat} (ha:0<a) {i b:Int} (hi:i=a)
  (q:∀ V M' pos',Rn M pos σ M' pos' V 21->M'.asked=M.asked->N ρ V) :
  wpS C n (.iff (.and [(.eq false (.call .eB [(.nm .bG),(.nm .bz),(.int i)]) (.int b)),(.not (.call .sB [(.nm .bG),(.nm .bz),(.nm .aJ)]))]) [.ret (.bool false)] []) N R ρ σ:=by
 subst hi
 change ax C n [_] N R ρ σ
 have e1:=r.nums
 have e2:=r.at_
 have e3:=r.w
 wtm_at "w"
 refine FW.up (ia G W I.oM ha fun ai v aE ah hv=>?_) (by lia)
 have dq:=sd I (by lia) aE ah
 by_cases hb:(v:Int)=b
 ·wtm_at "w"
  refine FW.up (Kx G aE dq.I (by show M.d+1+20<=_;lia) fun aH iK Ez gp bc av nx EA Y=>?_) (by lia)
  wtm_at "w"
  exact q aH iK Ez (dq.trans (Rn.of gp bc av EA nx) (by decide)) nx.asked
 ·wtm_at "w"
  exact q ai _ _ ⟨dq.I,dq.W,dq.S,dq.fx,rfl,dq.k7,by show M.d+1<=M.d+21;lia,dq.j6⟩ rfl
noncomputable def Mo.lm (M:Mo) (l:Option (List (Int × List Int))):Mo:={ M with asked:=l }
theorem Inv.asked (I:Inv M) {l:Option (List (Int × List Int))}:Inv (M.lm l) :=
 ⟨I.iH,⟨I.R.rl,I.R.nd,I.R.pos,I.R.len,I.R.sl⟩,I.lV,I.gens,fun r hr v hv=>⟨(I.slots r hr v hv).nums,(I.slots r hr v hv).np,(I.slots r hr v hv).dp⟩,
  fun v hv=>by
   have:=I.roots v hv
   induction v using Vl.casesOn with
   | bQ n off p=>exact this
   | dat c=>exact ⟨this.nums,this.np,this.dp⟩
   | ref n=>exact ⟨this.nums,this.np,this.dp⟩
   | str a b=>exact ⟨this.nums,this.np,this.dp⟩,
  I.k6,I.lay,I.ac,I.tl,I.idx,I.top,I.bv,I.hmade,I.cells,I.qt,I.b1,I.b2,I.b3,I.b4,I.b5,I.bits⟩
theorem Inv.bQ (I:Inv M) {r:aq} (hr:r∈M.rows) {off:Nat} (ho:off<bw r) {p:List Int} {w:Int} (hw:w=ak M.rows r.num+off) (hb:M.roots.length+1<=M.d):Inv ((M.oE (M.roots++[.bQ r.num off p])).oF (M.cells++[.bQ w p])) :=
 ⟨I.iH,⟨I.R.rl,I.R.nd,I.R.pos,I.R.len,I.R.sl⟩,I.lV,I.gens,fun r hr v hv=>⟨(I.slots r hr v hv).nums,(I.slots r hr v hv).np,(I.slots r hr v hv).dp⟩,
  fun v hv=>by
   rcases List.mem_append.mp hv with h | h
   ·have:=I.roots v h
    induction v using Vl.casesOn with
    | bQ n off p=>exact this
    | dat c=>exact ⟨this.nums,this.np,this.dp⟩
    | ref n=>exact ⟨this.nums,this.np,this.dp⟩
    | str a b=>exact ⟨this.nums,this.np,this.dp⟩
   ·simp at h;subst h
    exact (ff r hr rfl ho),
  I.k6,I.lay,I.ac,I.tl,I.idx,I.top,I.bv,I.hmade,by
   show M.cells++[_]=(M.roots++[_]).map _
   refine U List.map_append (U I.cells (U hw ?_));rfl,
  I.qt,I.b1,I.b2,by show (M.roots++[_]).length<=M.d;simp;exact hb,I.b4,I.b5,I.bits⟩
theorem uZ (W:Wd M pos σ) {l:List (Int × List Int)} (h:M.asked=some l):σ[pos .asked]?=some (.list (l.map kP)):=W.get .asked _ (congrArg (Option.map fun l:List (Int × List Int)=>AO.list (l.map kP)) h)
theorem WV (W:Wd M pos σ) {l l':List (Int × List Int)} (h:M.asked=some l) {o:AO} (e:o=.list (l'.map kP)):Wd (M.lm (some l')) pos (σ.set (pos .asked) o)/\aL M pos σ (M.lm (some l')) pos (σ.set (pos .asked) o):=by
 subst e
 exact W.upd (t:=.asked) (congrArg (Option.map fun l:List (Int × List Int)=>AO.list (l.map kP)) h) rfl fun t' ht=>by induction t' <;> first | rfl | exact absurd rfl ht
theorem WW (G:Good C) (W:Wd M pos σ) (I:Inv M) (hd:M.d+40<=10000) (hn:5<=n) (r:RL ρ pos) {l:List (Int × List Int)} (hl:M.asked=some l) (WX:l.length<=1000)
  (q:∀ ae V M' x,RL ae pos->Rn M pos σ M' pos V 2->M'.asked=some (l++[x])->N ae V) :
  ax C n [.as .bx (.bin .add (.int 14) (.call .eB [(.nm .bG),(.nm .bz),(.bin .add (.len (.ss (.nm .aJ) .cT)) (.int 5))])),.ex (.app (.nm .eW) (.tup [(.nm .bx),(.call .vB [(.nm .bG),(.nm .bz)])])),.iff (.not (.call .sC [(.nm .aJ),(.nm .bx),(.sub (.sub (.nm .eW) (.neg 1)) (.int 1))])) [.ret (.bool false)] []] N R ρ σ:=by
 have g6:=I.lay
 have hW:=uL W I.jv
 have e1:=r.nums
 have e2:=r.at_
 have e3:=r.w
 have e4:=r.asked
 wtm_at "w"
 refine FW.up (ia G W I.oM (n:=(layW M.rows).length+5) (by lia) fun ai v aE ah hv=>?_) (by lia)
 have dq:=sd I (by lia) aE ah
 have WY:=uZ aE hl
 have acn:(l.map kP).length<1000000:=by refine U (List.length_map ..) ?_;lia
 clear hW
 wtm_at "w"
 refine FW.up (J4 G aE dq.I.oM fun aH p bc av hp=>?_) (by lia)
 have ic:=dq.trans (sd dq.I (by show M.d+1+1<=_;lia) bc av) (k'':=2) (by decide)
 have WZ:=uZ bc hl
 (refine ay ?_ (WV bc (l:=l) (l':=l++[(14+(v:Int),p)]) hl (o:=.list (l.map kP++[.tup [.int (14+(v:Int)),ej p]])) (by refine U List.map_append ?_;rfl));intro bg aV)
 have oN:Rn M pos σ (((M.sD (M.d+1)).sD ((M.sD (M.d+1)).d+1)).lm (some (l++[(14+(v:Int),p)]))) pos _ 2:=⟨ic.I.asked,bg,ic.S.trans aV,Fx.refl,rfl,ic.k7,ic.fN,ic.j6⟩
 have hla:(l.map kP++[AV.tup [.int (14+(v:Int)),ej p]]).getLast?=some (AV.tup [.int (14+(v:Int)),ej p]):=List.getLast?_concat
 have hg:=gs WZ (o':=.list (l.map kP++[.tup [.int (14+(v:Int)),ej p]]))
 wtm_at "w"
 refine FW.up (KE G oN.W oN.I ?_) (by lia)
 wtm_at "w"
 exact q _ _ _ _ ⟨e1,e2,e3,e4⟩ oN rfl
end
section
variable {C:Cx} {M M' iU:Mo} {pos pos' iD:Tg->Nat} {σ V ar aX:AH} {Q:AV->AH->Prop} {n:Nat} {N:Loc->AH->Prop} {R:AV->AH->Prop} {ρ:Loc}
theorem LX (G:Good C) (W:Wd M pos σ) (I:Inv M) (hd:M.d+40<=10000) (hn:1<=n) (r:RL ρ pos) {l:List (Int × List Int)} (hl:M.asked=some l) (bu:0<l.length)
  (q:∀ ae V (x:Int × List Int),RL ae pos->ae .bx=some (.int x.1)->ae .cX=some (ej x.2)->Rn M pos σ (M.sD (M.d+1)) pos V 1->N ae V) :
  wpS C n (.at2 [.bx,.cX] (.sub (.nm .eW) (.call .eB [(.nm .bG),(.nm .bz),(.len (.nm .eW))]))) N R ρ σ:=by
 change ax C n [_] N R ρ σ
 have e1:=r.nums
 have e2:=r.at_
 have e3:=r.w
 have e4:=r.asked
 have hA:=uZ W hl
 have bC:(0:Int)<(l.length:Int):=by lia
 wtm_at "w"
 refine FW.up (ia G W I.oM bu fun ai v aE ah hv=>?_) hn
 have dq:=sd I (by lia) aE ah
 have WY:=uZ aE hl
 obtain ⟨x,hg⟩:∃ x,l[v]?=some x:=(aQ _ (List.getElem?_eq_getElem hv))
 have hx:(l.map kP)[(v:Int).toNat]?=some (.tup [.int x.1,ej x.2]):=by refine U (Int.toNat_natCast ..) (U (List.getElem?_map ..) (U hg ?_));rfl
 have hz:(0:Int)<=v:=Int.natCast_nonneg v
 wtm_at "w"
 exact q _ ai x ⟨e1,e2,e3,e4⟩ rfl rfl dq
theorem W0 (G:Good C) (W:Wd M pos σ) (I:Inv M) (hd:M.d+40<=10000) (hn:6<=n) (r:RL ρ pos) {w:Int} (hw:ρ .bx=some (.int w))
  (q:∀ V M',Rn M pos σ M' pos V 20->M'.asked=M.asked->N ρ V) :
  wpS C n (.iff (.not (.call .yO [(.nm .bG),(.nm .bz),(.nm .aJ),(.nm .bx)])) [.ret (.bool false)] []) N R ρ σ:=by
 change ax C n [_] N R ρ σ
 have e1:=r.nums
 have e2:=r.at_
 have e3:=r.w
 have e4:=r.asked
 wtm_at "w"
 refine FW.up (Vr G W I (by lia) fun ai cE jo aE ah nx=>?_) hn
 wtm_at "w"
 exact q ai cE (Rn.of jo aE ah Fx.refl nx) nx.asked
theorem W1 (G:Good C) (W:Wd M pos σ) (I:Inv M) (hd:M.d+40<=10000) (hn:1<=n) (r:RL ρ pos) {w:Int} {p:List Int} (hw:ρ .bx=some (.int w)) (hp:ρ .cX=some (ej p))
  (q:∀ ae V M',RL ae pos->Rn M pos σ M' pos V 1->M'.asked=M.asked->N ae V) :
  wpS C n (.iff (.and [(.eq false (.call .eB [(.nm .bG),(.nm .bz),(.int 3)]) (.int 1)),(.kB .le .lt (.int 16) (.nm .bx) (.bin .add (.int 16) (.len (.ss (.nm .aJ) .cT))))]) [.at2 [.bW,.jy] (.sub (.ss (.nm .aJ) .cT) (.bin .sub (.nm .bx) (.int 16))),.ex (.app (.ss (.nm .aJ) .eX) (.tup [(.int 6),(.sub (.nm .bW) (.int 0)),(.nm .jy),(.nm .cX)])),.ex (.app (.ss (.nm .aJ) .fh) (.tup [(.int 6),(.tup [(.int 3),(.nm .bx),(.nm .cX)])]))] []) N R ρ σ:=by
 change ax C n [_] N R ρ σ
 have e1:=r.nums
 have e2:=r.at_
 have e3:=r.w
 have e4:=r.asked
 wtm_at "w"
 refine FW.up (ia G W I.oM (n:=3) (by decide) fun ai v aE ah hv=>?_) hn
 have dq:=sd I (by lia) aE ah
 have LL:ju (M.sD (M.d+1)):=dq.I.jv
 by_cases tw:(v:Int)=1
 ·have g6:(M.sD (M.d+1)).lay=some (fM M.rows):=I.lay
  have hW:ai[pos .words]?=some (.list ((layW M.rows).map fun x=>AV.tup [.ref (pos (.row x.1)),.int x.2])):=uL (M:=M.sD (M.d+1)) aE LL
  rcases uH LL w with h | ⟨i,u,off,h⟩
  ·unfold oH at h
   change w<16∨16+((layW M.rows).length:Int)<=w at h
   by_cases c:(16:Int)<=w
   ·wtm_at "w"
    exact q ρ ai _ r dq rfl
   ·wtm_at "w"
    exact q ρ ai _ r dq rfl
  ·have t7:=h.lo
   have U5:w<16+((layW M.rows).length:Int):=Int.not_le.mp h.hi
   have LY:u∈M.rows:=List.mem_of_getElem? h.row
   have KG:=h.we
   have W2:(layW M.rows)[(w - 16).toNat]?=some (u.num,off):=h.word
   have t1:=gU aE LL.R.nd LY
   have hwx:((layW M.rows).map fun x=>AV.tup [.ref (pos (.row x.1)),.int x.2])[(w - 16).toNat]?=some (AV.tup [.ref (pos (.row u.num)),.int (off:Nat)]):=by refine U List.getElem?_map (U W2 ?_);rfl
   have hz:(0:Int)<=w - 16:=by lia
   have El:ai[pos .roots]?=some (.list (M.roots.map lv)):=aE.get .roots _ rfl
   have Wg:=I.b3
   have aco:=I.r4
   have Lx:(M.roots.map lv).length<1000000:=by refine U (List.length_map ..) ?_;lia
   have fY:(M.cells.map pv).length<1000000:=by refine U (List.length_map ..) ?_;lia
   (refine ay ?_ (DK aE (l:=M.roots++[.bQ u.num off p]) (o:=.list (M.roots.map lv++[AV.tup [.int 6,.int u.num,.int off,ej p]])) (by refine U List.map_append ?_;rfl));intro bg aV)
   have xG:=dq.S.trans aV
   have hC:(ai.set (pos .roots) (.list (M.roots.map lv++[AV.tup [.int 6,.int u.num,.int off,ej p]])))[pos .cells]?=some (.list (M.cells.map pv)):=bg.get .cells _ rfl
   (refine ay ?_ (DL bg (l:=M.cells++[.bQ w p]) (o:=.list (M.cells.map pv++[AV.tup [.int 6,.tup [.int 3,.int w,ej p]]])) (by refine U List.map_append ?_;rfl));intro bT bK)
   have nV:=dq.I.bQ LY h.Ky (p:=p) KG (by show M.roots.length+1<=M.d+1;lia)
   wtm_at "w"
   exact q _ _ _ ⟨e1,e2,e3,e4⟩ ⟨nV,bT,xG.trans bK,Fx.refl,rfl,dq.k7,dq.fN,by show M.roots.length<=(M.roots++[_]).length;simp⟩ rfl
 ·wtm_at "w"
  exact q ρ ai _ r dq rfl
theorem W3 (G:Good C) (W:Wd M pos σ) (I:Inv M) (hd:M.d+40<=10000) (bu:0<M.roots.length) (hn:2<=n) (r:RL ρ pos)
  (q:∀ V M',Rn M pos σ M' pos V 20->M'.asked=M.asked->N ρ V) :
  wpS C n (.ex (.call .yR [(.nm .bG),(.nm .bz),(.nm .aJ)])) N R ρ σ:=by
 change ax C n [_] N R ρ σ
 have e1:=r.nums
 have e2:=r.at_
 have e3:=r.w
 have e4:=r.asked
 wtm_at "w"
 refine FW.up (VC G W I (by lia) bu fun ai cE jo aE ah nx Y=>?_) hn
 wtm_at "w"
 exact q ai cE (Rn.of jo aE ah Fx.refl nx) nx.asked
theorem W4 (G:Good C) (W:Wd M pos σ) (I:Inv M) (hd:M.d+40<=2000) (hn:11<=n) (r:RL ρ pos)
  (q:∀ V M' pos',Rn M pos σ M' pos' V 1->M'.asked=M.asked->N ρ V) :
  wpS C n (.iff (.not (.call .yP [(.nm .aJ),(.sub (.tup [(.int 2),(.int 0),(.int 2),(.int 1)]) (.call .eB [(.nm .bG),(.nm .bz),(.int 4)]))])) [.ret (.bool false)] []) N R ρ σ:=by
 change ax C n [_] N R ρ σ
 have e1:=r.nums
 have e2:=r.at_
 have e3:=r.w
 have e4:=r.asked
 wtm_at "w"
 refine FW.up (ia G W I.oM (n:=4) (by decide) fun ai v aE ah hv=>?_) (by lia)
 have dq:=sd I (by lia) aE ah
 have hx:∃ g:Nat,[AV.int 2,.int 0,.int 2,.int 1][(v:Int).toNat]?=some (.int g):=by
  refine U (Int.toNat_natCast ..) ?_
  have:v=0∨v=1∨v=2∨v=3:=by lia
  rcases this with rfl | rfl | rfl | rfl
  ·exact (aQ 2 rfl)
  ·exact (aQ 0 rfl)
  ·exact (aQ 2 rfl)
  ·exact (aQ 1 rfl)
 (revert hx;refine aM ?_;intro g hx)
 have hz:(0:Int)<=v:=Int.natCast_nonneg v
 wtm_at "w"
 refine FW.up (WT G aE dq.I (by show M.d+1<=2000;lia) fun aH iK Ez gp bc av nx EA=>?_) hn
 wtm_at "w"
 exact q aH iK Ez (dq.trans (Rn.of gp bc av EA nx) (by decide)) nx.asked
theorem W5 (G:Good C) (W:Wd M pos σ) (I:Inv M) (hn:5<=n) (r:RL ρ pos) {l:List (Int × List Int)} (hl:M.asked=some l) (q:R (.bool true) σ) :
  ax C n [.fo [.bx,.cX] false (.nm .eW) [.iff (.not (.call .sC [(.nm .aJ),(.nm .bx),(.nm .cX)])) [.ret (.bool false)] []],.ret (.bool true)] N R ρ σ:=by
 have hA:=uZ W hl
 have e4:=r.asked
 wtm_at "w"
 refine e9 (fun i ae V=>V=σ/\RL ae pos) hA ⟨rfl,r⟩ ?_ ?_
 ·(intro i y ae na K hy;refine ay ?_;rintro rfl r';intro kk)
  have e1:=r'.w
  change eN _ (.tup [.int y.1,ej y.2]) _ _ _
  wtm_at "w"
  refine FW.up (KE G W I ?_) hn
  wtm_at "w"
  exact kk _ _ hA ⟨rfl,⟨r'.nums,r'.at_,r'.w,r'.asked⟩⟩
 ·(intro ae na;refine ay ?_;rintro rfl r')
  wtm_at "w"
  exact q
end
section
variable {C:Cx} {M M' iU:Mo} {pos pos' iD:Tg->Nat} {σ V ar aX:AH} {Q:AV->AH->Prop} {n:Nat} {N:Loc->AH->Prop} {R:AV->AH->Prop} {ρ:Loc}
theorem oO {s:Sm} {b:List Sm}:ax C n (s::b) N R ρ σ=wpS C n s (fun ae V=>ax C n b N R ae V) R ρ σ:=rfl
theorem W6 (G:Good C) (W:Wd M pos σ) (I:Inv M) (hd:M.d+200<=2000) (bu:0<M.roots.length) {l:List (Int × List Int)} (hl:M.asked=some l) (WX:l.length<=900)
  (q:∀ V M' pos',Rn M pos σ M' pos' V 150->(∃ l',M'.asked=some l'/\l'.length=l.length+2)->Q (.bool true) V) :
  FW C 12 .yS [.ref (pos .nums),.ref (pos .d),.ref (pos .w),.ref (pos .asked)] Q σ:=by
 refine bo G (b:=wy) (ps:=wz) rfl rfl rfl rfl ?_
 have r:RL (lI (wz) [.ref (pos .nums),.ref (pos .d),.ref (pos .w),.ref (pos .asked)]) pos:=by
  refine ⟨?_,?_,?_,?_⟩ <;> rfl
 generalize lI (wz) [.ref (pos .nums),.ref (pos .d),.ref (pos .w),.ref (pos .asked)]=ρ at r
 show ax C 11 wy _ _ _ _
 delta wy
 refine U oO ?_
 refine LW G W I (by lia) (by decide) r (a:=3) (by decide) rfl fun ai cE cp dq oQ=>?_
 rw [hl] at oQ
 have hG:=r.fx dq.fx
 have acp:=dq.fN
 wtm_at "w"
 refine jQ 2 (fun i ae V=>∃ M' l',Rn M pos σ M' cp V (21+2*i)/\M'.asked=some l'/\l'.length=l.length+i/\RL ae cp) rfl (by decide) (iL cE l dq oQ rfl hG) ?_ ?_
 ·(intro i ae V K iQ;refine eV ?_;intro iK l₂ ic iT LZ iX;intro kk)
  have L0:=ic.fN
  show ax C 11 _ _ _ _ _
  refine WW G ic.W ic.I (by lia) (by decide) (iX.set (by decide) (by decide) (by decide) (by decide)) iT (by lia) fun nU bn ib W7 un oN mz=>?_
  exact kk nU bn (iL ib _ (ic.trans oN (by lia)) mz (by simp;lia) un)
 ·(intro dE aH;refine eV ?_;intro iK l₂ ic iT LZ iX)
  have L0:=ic.fN
  refine U oO ?_
  refine LX G ic.W ic.I (by lia) (by decide) iX iT (by lia) fun nU bn W7 un eg Y oN=>?_
  have se:=ic.trans oN (k'':=26) (by decide)
  have L1:=se.fN
  clear ic oN L0 iX
  generalize L2:iK.sD (iK.d+1)=ib at se L1
  have mz:ib.asked=some l₂:=by refine aT L2 ?_;exact iT
  refine U oO ?_
  refine W0 G se.W se.I (by lia) (by decide) un eg fun cg xR oR u0=>?_
  have u4:=se.trans oR (k'':=46) (by decide)
  have W8:=u4.fN
  rw [mz] at u0
  clear se oR L1 L2
  refine U oO ?_
  refine LX G u4.W u4.I (by lia) (by decide) un u0 (by lia) fun Ia dY acq xO iy W9 L3=>?_
  have sf:=u4.trans L3 (k'':=47) (by decide)
  have L4:=sf.fN
  clear u4 L3 W8
  generalize L5:xR.sD (xR.d+1)=Ew at sf L4
  have Ad:Ew.asked=some l₂:=by refine aT L5 ?_;exact u0
  refine U oO ?_
  refine W1 G sf.W sf.I (by lia) (by decide) xO iy W9 fun Ib cU acr uW L6 nW=>?_
  have sg:=sf.trans L6 (k'':=48) (by decide)
  have Xa:=sg.fN
  rw [Ad] at nW
  clear sf L6 L4 L5
  refine U oO ?_
  refine W3 G sg.W sg.I (by lia) (by have:=sg.j6;lia) (by decide) uW fun mV acs L7 L8=>?_
  have u5:=sg.trans L7 (k'':=68) (by decide)
  have Xb:=u5.fN
  rw [nW] at L8
  clear sg L7 Xa
  refine U oO ?_
  refine W4 G u5.W u5.I (by lia) (by decide) uW fun xh act UV EB L9=>?_
  have xS:=u5.trans EB (k'':=69) (by decide)
  have acu:=xS.fN
  have Ma:=uW.fx EB.fx
  rw [L8] at L9
  clear u5 EB Xb
  refine U oO ?_
  refine LW G xS.W xS.I (by lia) (by decide) Ma (a:=2) (by decide) rfl fun jY Xc eF Mb EC=>?_
  have ED:=xS.trans Mb (k'':=150) (by decide)
  have Xd:=Ma.fx Mb.fx
  rw [L9] at EC
  exact W5 G ED.W ED.I (by decide) Xd EC (q jY Xc eF ED (aB l₂ EC LZ))
end
section
variable {C:Cx} {M M' iU:Mo} {pos pos' iD:Tg->Nat} {σ V ar aX:AH} {Q:AV->AH->Prop} {n:Nat} {N:Loc->AH->Prop} {R:AV->AH->Prop} {ρ:Loc}
theorem Xe (G:Good C) {ns:List Int} {rn rd:Nat} (iA:0<ns.length) (wx:ns.length<=100000) (h1:σ[rn]?=some (.list (ns.map AV.int))) (h2:σ[rd]?=some (.list [.int 0])) (bu:rd≠rn) {n:Nat} (hn:0<n)
  (q:∀ v:Nat,v<n->Q (.int v) (σ.set rd (.list [.int 1]))):FW C 1 .eB [.ref rn,.ref rd,.int n] Q σ:=by
 refine bo G (b:=tG) (ps:=tM) rfl rfl rfl rfl ?_
 delta tM tG
 have e1:([AV.int (0:Int)].set (0:Int).toNat (.int ((0:Int)+1)))=[.int 1]:=rfl
 have h3:(σ.set rd (.list ([AV.int (0:Int)].set (0:Int).toNat (.int ((0:Int)+1)))))[rn]?=some (.list (ns.map AV.int)):=by refine U (gn bu ..) ?_;exact h1
 have hk:(0:Int)<(ns.length:Int):=by lia
 have gc:(ns.length:Int)<2 ^ 64:=by lia
 have hm:(0:Int)<=(0:Int) % (ns.length:Int):=by refine U (Int.zero_emod ..) ?_;exact Int.le_refl _
 have aS:((0:Int) % (ns.length:Int)).toNat<ns.length:=by refine U (Int.zero_emod ..) ?_;exact iA
 obtain ⟨x,hx⟩:∃ x,ns[((0:Int) % (ns.length:Int)).toNat]?=some x:=(aQ _ (List.getElem?_eq_getElem aS))
 obtain ⟨y,hy⟩:∃ y,ns[(0:Int).toNat]?=some y:=(aQ _ (List.getElem?_eq_getElem iA))
 have uu:(-(2 ^ 64)<(3:Int)/\(3:Int)<2 ^ 64)∨(-(2 ^ 64)<(0:Int)/\(0:Int)<2 ^ 64):=.inl (by decide)
 have xn:(-(2 ^ 64)<(0:Int) / (ns.length:Int)/\(0:Int) / (ns.length:Int)<2 ^ 64)∨(-(2 ^ 64)<y % 7+3*(0:Int)/\y % 7+3*(0:Int)<2 ^ 64):=.inl (by refine U (Int.zero_ediv ..) ?_;decide)
 have jm:(0:Int)<(n:Int):=by lia
 wtm_at "w"
 refine U e1 ?_
 (refine aM ?_ (Int.eq_ofNat_of_zero_le (Int.emod_nonneg (x+(0:Int) / (ns.length:Int)*(y % 7+3*(0:Int))) (b:=(n:Int)) (by lia)));intro v hv)
 have rL:=Int.emod_lt_of_pos (x+(0:Int) / (ns.length:Int)*(y % 7+3*(0:Int))) jm
 rw [hv] at rL ⊢
 exact q v (by lia)
noncomputable def Gb (r:Nat) (σ V:AH):Prop:=∀ (r':Nat) (o:AO),r'≠r->σ[r']?=some o->V[r']?=some o
theorem Gb.refl {r:Nat}:Gb r σ σ:=fun Y Y Y e=>e
theorem Gb.app {r:Nat} (x:Gb r σ V) (o:AO):Gb r σ (V++[o]):=fun r' o' h e=>ga (x r' o' h e)
theorem Gb.set {r:Nat} (x:Gb r σ V) {o:AO}:Gb r σ (V.set r o):=fun r' o' h e=>by refine U (gn (Ne.symm h) ..) ?_;exact x r' o' h e
structure HS (aX:AH) (r:Nat) (cl:Cl) (fs:List (Nm × AV)) (l:List AO) (σ:AH):Prop where
 gb:Gb r aX σ
 o:σ[r]?=some (.inst cl fs)
 n:σ.length=aX.length+l.length
 g:∀ i,i<l.length->σ[aX.length+i]?=l[i]?
theorem HS.set {r:Nat} {cl:Cl} {fs Mc:List (Nm × AV)} {l:List AO} (H:HS aX r cl fs l σ) (hr:r<aX.length):HS aX r cl Mc l (σ.set r (.inst cl Mc)) :=
 ⟨H.gb.set,gs H.o,by refine U List.length_set ?_;exact H.n,fun i hi=>by refine U (gn (by lia) ..) ?_;exact H.g i hi⟩
theorem HS.app {r:Nat} {cl:Cl} {fs:List (Nm × AV)} {l:List AO} (H:HS aX r cl fs l σ) (o:AO):HS aX r cl fs (l++[o]) (σ++[o]) :=
 ⟨H.gb.app o,ga H.o,by exact U (List.length_append ..) (U (List.length_append ..) (U (H.n ..) (U (Nat.add_assoc ..) rfl))),fun i hi=>by
  rw [List.length_append,List.length_singleton] at hi
  by_cases h:i<l.length
  ·refine U (List.getElem?_append_left h ..) (U (List.getElem?_append_left (by rw [H.n];lia) ..) ?_);exact H.g i h
  ·have:i=l.length:=by lia
   subst this
   refine U (List.getElem?_append_right (by rw [H.n];exact Nat.le_refl _) ..) (U (List.getElem?_append_right (Nat.le_refl _) ..) (U (H.n ..) ?_))
   simp⟩
theorem EE {fs:List (Nm × AV)} {f:Nm} {v:AV} (h:fs.any (fun p=>p.1=f)=false):bp fs f v=fs++[(f,v)]:=by unfold bp;refine U h ?_;rfl
theorem qD {r:Nat} {cl:Cl} {fs:List (Nm × AV)} {l:List AO} {e:Ex} {v:AV} {f:Nm} {S:List Sm} (H:HS aX r cl fs l σ) (hr:r<aX.length) (hs:ρ .cY=some (.ref r)) (he:Ev ρ σ e v) (hf:f∈fC cl) (hn:fs.any (fun p=>p.1=f)=false) (q:∀ V,HS aX r cl (fs++[(f,v)]) l V->ax C n S N R ρ V):ax C n (.aa (.nm .cY) f e::S) N R ρ σ :=
 Iy he (Cp hs) H.o hf (by refine U (EE hn ..) ?_;exact q _ (H.set hr))
theorem EF {r:Nat} {cl:Cl} {fs:List (Nm × AV)} {l:List AO} {f:Nm} {S:List Sm} (H:HS aX r cl fs l σ) (hr:r<aX.length) (hs:ρ .cY=some (.ref r)) (hf:f∈fC cl) (hn:fs.any (fun p=>p.1=f)=false) (q:∀ V,HS aX r cl (fs++[(f,.ref (aX.length+l.length))]) (l++[.list []]) V->ax C n S N R ρ V):ax C n (.aa (.nm .cY) f (.list [])::S) N R ρ σ:=by
 refine Ix (Iu Iq (Nat.zero_le _) (Cy (Cp hs) (ga H.o) hf ?_))
 refine U H.n (U (EE hn ..) ?_)
 exact q _ ((H.app _).set hr)
theorem Md {r:Nat} {cl:Cl} {fs:List (Nm × AV)} {l:List AO} {f:Nm} {S:List Sm} (H:HS aX r cl fs l σ) (hr:r<aX.length) (hs:ρ .cY=some (.ref r)) (hf:f∈fC cl) (hn:fs.any (fun p=>p.1=f)=false) (q:∀ V,HS aX r cl (fs++[(f,.ref (aX.length+l.length))]) (l++[.an []]) V->ax C n S N R ρ V):ax C n (.aa (.nm .cY) f .gh::S) N R ρ σ:=by
 refine Ix (Iv (Cy (Cp hs) (ga H.o) hf ?_))
 refine U H.n (U (EE hn ..) ?_)
 exact q _ ((H.app _).set hr)
theorem Xf (G:Good C) {r:Nat} {b:Nat} (h:σ[r]?=some (.inst .dR []))
  (q:∀ V k,σ.length=k->Gb r σ V->V[r]?=some (wA k (k+1) 16 4000 (k+2) b 0 1001 (k+3) (k+4) 0 0)->V[k]?=some (.list [])->V[k+1]?=some (.an [])->V[k+2]?=some (.an [])->V[k+3]?=some (.list [])->V[k+4]?=some (.list [])->V.length=k+5->Q .none V) :
  FW C 1 .F7 [.ref r,.int 4000,.int b] Q σ:=by
 refine bo G (b:=Bk) (ps:=Cj) rfl rfl rfl rfl ?_
 delta Cj Bk
 have aS:=jN h
 have H:HS σ r .dR [] [] σ:=⟨Gb.refl,h,rfl,fun i hi=>absurd hi (Nat.not_lt_zero _)⟩
 refine EF H aS rfl (by decide) rfl fun ai H=>?_
 refine Md H aS rfl (by decide) rfl fun aH H=>?_
 refine qD H aS rfl (v:=.int 16) (by wtm_at "v") (by decide) rfl fun bn H=>?_
 refine qD H aS rfl (v:=.int 4000) (by wtm_at "v") (by decide) rfl fun cg H=>?_
 refine Md H aS rfl (by decide) rfl fun dY H=>?_
 refine qD H aS rfl (v:=.int b) (by wtm_at "v") (by decide) rfl fun cU H=>?_
 refine qD H aS rfl (v:=.int 0) (by wtm_at "v") (by decide) rfl fun mV H=>?_
 refine qD H aS rfl (v:=.int (4000 / 4+1)) (by wtm_at "v") (by decide) rfl fun xh H=>?_
 refine EF H aS rfl (by decide) rfl fun jY H=>?_
 refine EF H aS rfl (by decide) rfl fun σa H=>?_
 refine qD H aS rfl (v:=.int 0) (by wtm_at "v") (by decide) rfl fun σb H=>?_
 refine qD H aS rfl (v:=.int 0) (by wtm_at "v") (by decide) rfl fun Xg H=>?_
 refine p6 ?_
 refine q Xg σ.length rfl H.gb H.o ?_ ?_ ?_ ?_ ?_ H.n
 ·exact H.g 0 (Nat.le_of_ble_eq_true rfl)
 ·exact H.g 1 (Nat.le_of_ble_eq_true rfl)
 ·exact H.g 2 (Nat.le_of_ble_eq_true rfl)
 ·exact H.g 3 (Nat.le_of_ble_eq_true rfl)
 ·exact H.g 4 (Nat.le_of_ble_eq_true rfl)
end
section
variable {C:Cx} {M M' iU:Mo} {pos pos' iD:Tg->Nat} {σ V ar aX:AH} {Q:AV->AH->Prop} {n:Nat} {N:Loc->AH->Prop} {R:AV->AH->Prop} {ρ:Loc}
noncomputable def EG:List Sm:=iC.take 5
noncomputable def EH:List Sm:=(iC.drop 5).take 3
noncomputable def EI:List Sm:=(iC.drop 8).take 2
noncomputable def EJ:List Sm:=iC.drop 10
theorem Xh (G:Good C) {r:Nat} {ns1:List Int} (h:σ[r]?=some (.list (ns1.map AV.int))) (bC:ns1.length<=40) (hs:ρ .ed=some (.ref r))
  (q:∀ ae V rn rd (ns:List Int) (sz:Int),ae .bG=some (.ref rn)->ae .bz=some (.ref rd)->ae .eI=some (.int sz)->rn<V.length->rd<V.length->rd≠rn->V[rn]?=some (.list (ns.map AV.int))->V[rd]?=some (.list [.int 0])->0<ns.length->ns.length<=63->N ae V) :
  ax C n (EG.drop 1) N R ρ σ:=by
 delta EG iC
 change ax C n [_,_,_,_] N R ρ σ
 wtm_at "w"
 refine rG (fun i acc V=>V=σ/\acc=(ns1.take i).map fun x=>AV.int (x % 999983)) h ⟨rfl,rfl⟩ ?_ ?_
 ·(intro i a acc na K ha;refine ay ?_;rintro rfl rfl;intro kk)
  have hl:((ns1.take i).map fun x=>AV.int (x % 999983)).length<=40:=w9 bC
  wtm_at "w"
  exact kk (some _) _ h (by refine U List.length_append ?_;show _+1<=_;lia) ⟨rfl,(uh ha).symm⟩
 ·(intro acc na;refine ay ?_;rintro rfl rfl)
  refine U List.take_length (U (show (ns1.map fun x=>AV.int (x % 999983))=(ns1.map fun x=>x % 999983).map AV.int by rw [List.map_map];rfl) ?_)
  have wx:(ns1.map fun x=>x % 999983).length<=40:=by refine U (List.length_map ..) ?_;exact bC
  generalize ns1.map (fun x=>x % 999983)=ns at wx
  have h1:(na++[AO.list (ns.map AV.int)])[na.length]?=some (.list (ns.map AV.int)):=gl
  have bm:(na++[AO.list (ns.map AV.int)]).length=na.length+1:=List.length_append
  generalize na++[AO.list (ns.map AV.int)]=ai at h1 bm
  generalize na.length=rn at h1 bm
  by_cases h0:ns.length=0
  ·have Dw:(ns.length:Int)=0:=by lia
   wtm_at "w"
   refine q _ _ ai.length _ [1,0,2,0,4,0,1,3,0,2,0,0,1,2,0,2,0,0,0,8,0,16,0,1,0,0,0,0,0,0,0,0,0,1,3,0,0,0,0,10,0,5,5,0,0,3,3,1,0,1,2,1,0,1,0] (ns.length:Int) rfl rfl rfl ?_ ?_ ?_ ?_ gl (by decide) (by decide)
   ·simp
   ·simp
   ·simp
   ·exact ga gl
  ·have Dw:¬ (ns.length:Int)=0:=by lia
   wtm_at "w"
   refine q _ _ rn _ ns (ns.length:Int) rfl rfl rfl ?_ ?_ ?_ (ga h1) gl (by lia) (by lia)
   ·refine U List.length_append ?_;lia
   ·simp
   ·lia
noncomputable def All (σ:AH) (P:List (Nat × AO)):Prop:=∀ x∈P,σ[x.1]?=some x.2
theorem All.app {P:List (Nat × AO)} (h:All σ P) (o:AO):All (σ++[o]) P:=fun x hx=>ga (h x hx)
theorem All.gb {P:List (Nat × AO)} {r:Nat} (h:All σ P) (g:Gb r σ V) (hr:∀ x∈P,x.1≠r):All V P:=fun x hx=>g _ _ (hr x hx) (h x hx)
theorem All.set {P:List (Nat × AO)} {r:Nat} (h:All σ P) (hr:∀ x∈P,x.1≠r) (o:AO):All (σ.set r o) P:=h.gb (Gb.refl.set) hr
theorem All.cons {P:List (Nat × AO)} {r:Nat} {o:AO} (h:All σ P) (e:σ[r]?=some o):All σ ((r,o)::P):=fun x hx=>by
 rcases List.mem_cons.mp hx with rfl | hx
 ·exact e
 ·exact h x hx
noncomputable def EK:Tg->Nat
 | .rows=>0 | .roots=>1 | .cells=>2 | .cards=>3 | .w=>4 | .heap=>5
 | .things=>6 | .idx=>7 | .bv=>8 | .fZ=>9 | .ready=>10 | .frames=>11 | .statics=>12 | .ph=>13
 | _=>99
noncomputable def qv (rn rd k:Nat) (t:Tg):Nat:=match t with
 | .nums=>rn | .d=>rd
 | t=>k+EK t
noncomputable def M0 (ns:List Int) (b:Nat):Mo :=
 { ns:=ns,d:=1,asked:=none,bits:=b,rows:=[],rl:=[],roots:=[],cells:=[],cards:=[],count:=0,made:=0,lay:=none,ac:=[],tl:=[],idx:=[],bv:=[],top:=16,limit:=4000,fresh:=0,young:=1001,moved:=0,hmade:=0 }
theorem Xi (G:Good C) {r a b c:Nat} (h:σ[r]?=some (.inst .fS [])) (q:Q .none (σ.set r (.inst .fS [(.aF,.ref a),(.lx,.ref b),(.lA,.ref c)]))):FW C 1 .yT [.ref r,.ref a,.ref b,.ref c] Q σ:=by
 refine bo G (b:=Bn) (ps:=Cn) rfl rfl rfl rfl ?_
 delta Cn Bn
 wtm_at "w"
 exact q
end
section
variable {C:Cx} {M M' iU:Mo} {pos pos' iD:Tg->Nat} {σ V ar aX:AH} {Q:AV->AH->Prop} {n:Nat} {N:Loc->AH->Prop} {R:AV->AH->Prop} {ρ:Loc}
noncomputable def xT:List Tg:=[.rows,.roots,.cells,.cards,.w,.heap,.things,.idx,.bv,.fZ,.ready,.frames,.statics,.ph]
theorem xU {ns:List Int} {b:Nat} {p:Tg->Nat} {t:Tg} (h:aO (M0 ns b) p t≠none):t=.nums∨t=.d∨t∈xT:=by
 induction t <;> first | exact absurd rfl h | exact .inl rfl | exact .inr (.inl rfl) | exact .inr (.inr (by decide))
theorem Me:∀ t∈xT,xT[EK t]?=some t:=by decide
theorem xV {rn rd k:Nat} {t:Tg} (h:t∈xT):qv rn rd k t=k+EK t:=by
 induction t <;> first | rfl | exact absurd h (by decide)
theorem Xj {ns:List Int} {b rn rd k:Nat} (h1:rn<k) (h2:rd<k) (h3:rd≠rn)
  (h:All σ [(k+4,.bl [(.fg,.int b),(.dh,.ref k),(.eX,.ref (k+1)),(.fh,.ref (k+2)),(.de,.ref (k+3)),(.dJ,.int 0),(.dg,.int 0),(.aF,.ref (k+5)),(.g7,.ref (k+13))]),
   (k+13,.inst .fS [(.aF,.ref (k+5)),(.lx,.ref (k+11)),(.lA,.ref (k+12))]),(k+12,.an []),(k+11,.an []),(k+10,.list []),(k+9,.list []),(k+8,.an []),(k+7,.an []),(k+6,.list []),
   (k+5,wA (k+6) (k+7) 16 4000 (k+8) b 0 1001 (k+9) (k+10) 0 0),(k+3,.an []),(k+2,.list []),(k+1,.list []),(k,.list []),(rn,.list (ns.map AV.int)),(rd,.list [.int 1])]):Wd (M0 ns b) (qv rn rd k) σ:=by
 refine ⟨fun t t' ht mM e=>?_,fun t o e=>?_⟩
 ·rcases xU ht with rfl | rfl | a
  ·rcases xU mM with rfl | rfl | a'
   ·rfl
   ·exact absurd e.symm h3
   ·rw [xV a'] at e
    have e:rn=_:=e
    exact absurd h1 (by refine U e ?_;exact Nat.not_lt.mpr (Nat.le_add_right _ _))
  ·rcases xU mM with rfl | rfl | a'
   ·exact absurd e h3
   ·rfl
   ·rw [xV a'] at e
    have e:rd=_:=e
    exact absurd h2 (by refine U e ?_;exact Nat.not_lt.mpr (Nat.le_add_right _ _))
  ·rw [xV a] at e
   rcases xU mM with rfl | rfl | a'
   ·have e:_=rn:=e
    exact absurd h1 (by refine aT e ?_;exact Nat.not_lt.mpr (Nat.le_add_right _ _))
   ·have e:_=rd:=e
    exact absurd h2 (by refine aT e ?_;exact Nat.not_lt.mpr (Nat.le_add_right _ _))
   ·rw [xV a'] at e
    have e:=Nat.add_left_cancel e
    have x:=Me t a
    rw [e,Me t' a'] at x
    exact (Option.some.inj x).symm
 ·induction t <;> first | (cases e;done) | skip
  all_goals
   (revert e;refine si ?_;rintro rfl)
   first
   | exact h _ (List.mem_of_getElem? (i:=0) rfl) | exact h _ (List.mem_of_getElem? (i:=1) rfl) | exact h _ (List.mem_of_getElem? (i:=2) rfl) | exact h _ (List.mem_of_getElem? (i:=3) rfl)
   | exact h _ (List.mem_of_getElem? (i:=4) rfl) | exact h _ (List.mem_of_getElem? (i:=5) rfl) | exact h _ (List.mem_of_getElem? (i:=6) rfl) | exact h _ (List.mem_of_getElem? (i:=7) rfl)
   | exact h _ (List.mem_of_getElem? (i:=8) rfl) | exact h _ (List.mem_of_getElem? (i:=9) rfl) | exact h _ (List.mem_of_getElem? (i:=10) rfl) | exact h _ (List.mem_of_getElem? (i:=11) rfl)
   | exact h _ (List.mem_of_getElem? (i:=12) rfl) | exact h _ (List.mem_of_getElem? (i:=13) rfl) | exact h _ (List.mem_of_getElem? (i:=14) rfl) | exact h _ (List.mem_of_getElem? (i:=15) rfl)
theorem qE {P:List (Nm × AV)->AH->Prop} {f:Nm} {e:Ex} {es:List (Nm × Ex)} (q:aD C n e (fun v V=>pD C n es (fun vs ar=>P ((f,v)::vs) ar) ρ V) ρ σ):pD C n ((f,e)::es) P ρ σ:=q
theorem fs_0 {P:List (Nm × AV)->AH->Prop} (q:P [] σ):pD C n [] P ρ σ:=q
theorem Xk {es:List (Nm × Ex)} (q:pD C n es (fun fs V=>(fs.map (·.1)).Nodup/\Q (.ref V.length) (V++[.bl fs])) ρ σ):aD C n (.bl es) Q ρ σ:=q
theorem xW (q:Q (.ref σ.length) (σ++[.list []])):aD C n (.list []) Q ρ σ:=Iu Iq (Nat.zero_le _) q
theorem Xl (G:Good C) (hn:1<=n) {rn rd:Nat} {ns:List Int} (lW:ρ .bG=some (.ref rn)) (Xm:ρ .bz=some (.ref rd)) (l1:rn<σ.length) (l2:rd<σ.length) (bu:rd≠rn) (h1:σ[rn]?=some (.list (ns.map AV.int))) (h2:σ[rd]?=some (.list [.int 0])) (qx:0<ns.length) (wR:ns.length<=63)
  {sz:Int} (pr:ρ .eI=some (.int sz))
  (q:∀ ae V b pos,b<=3->Wd (M0 ns b) pos V->ae .bG=some (.ref (pos .nums))->ae .bz=some (.ref (pos .d))->ae .aJ=some (.ref (pos .w))->ae .eI=some (.int sz)->N ae V) :
  ax C n EH N R ρ σ:=by
 delta EH iC
 change ax C n [_,_,_] N R ρ σ
 refine Iw (Xk (qE (w_call (by wtm_at "vs") ?_)))
 refine FW.up (Xe G qx (by lia) h1 h2 bu (n:=4) (by decide) fun b hb=>?_) hn
 have EL:All (σ.set rd (.list [.int 1])) [(rn,.list (ns.map AV.int)),(rd,.list [.int 1])]:=fun x hx=>by
  simp at hx
  rcases hx with rfl | rfl
  ·show (σ.set rd _)[rn]?=_
   refine U (gn bu ..) ?_;exact h1
  ·exact gs h2
 have hk:(σ.set rd (.list [.int 1])).length=σ.length:=List.length_set
 generalize σ.set rd (.list [.int 1])=ai at EL hk ⊢
 generalize zI:σ.length=k at hk l1 l2
 refine qE (xW (qE (xW (qE (xW (qE (Iv (qE (wD.go _ _ _ (qE (wD.go _ _ _ (fs_0 ⟨by show [Nm.fg,.dh,.eX,.fh,.de,.dJ,.dg].Nodup;decide,?_⟩))))))))))))
 simp only [List.length_append,List.length_singleton,hk]
 obtain ⟨aH,xX⟩:∃ aH,aH=ai++[AO.list []]++[AO.list []]++[AO.list []]++[AO.an []]++[AO.bl [(.fg,.int b),(.dh,.ref k),(.eX,.ref (k+1)),(.fh,.ref (k+1+1)),(.de,.ref (k+1+1+1)),(.dJ,.int 0),(.dg,.int 0)]]:=(aQ _ rfl)
 have Mg:All aH [(k+4,.bl [(.fg,.int b),(.dh,.ref k),(.eX,.ref (k+1)),(.fh,.ref (k+2)),(.de,.ref (k+3)),(.dJ,.int 0),(.dg,.int 0)]),(k+3,.an []),(k+2,.list []),(k+1,.list []),(k,.list []),(rn,.list (ns.map AV.int)),(rd,.list [.int 1])]:=by
  refine U (xX ..) ?_
  have a1:=(EL.app (.list [])).cons (r:=k) (o:=.list []) (by refine aT hk ?_;exact gl)
  have a2:=(a1.app (.list [])).cons (r:=k+1) (o:=.list []) (by simp [<- hk])
  have a3:=(a2.app (.list [])).cons (r:=k+2) (o:=.list []) (by simp [<- hk])
  have a4:=(a3.app (.an [])).cons (r:=k+3) (o:=.an []) (by simp [<- hk])
  exact (a4.app _).cons (by simp [<- hk])
 have k2:aH.length=k+5:=by refine U (xX ..) ?_;simp [hk]
 refine aT (xX ..) ?_
 clear xX EL hk
 have hw2:aH[k+4]?=some (.bl [(.fg,.int b),(.dh,.ref k),(.eX,.ref (k+1)),(.fh,.ref (k+2)),(.de,.ref (k+3)),(.dJ,.int 0),(.dg,.int 0)]):=Mg _ (.head _)
 change jP C n _ N R ρ .aJ (.ref (k+4)) aH
 wtm_at "w"
 refine U k2 ?_
 refine FW.up (Xf G (by refine aT k2 ?_;exact gl) fun bn k' gc hM z1 z2 z3 z4 z5 z6 z7=>?_) hn
 obtain rfl:k'=k+6:=by refine aT gc ?_;simp [k2]
 have Mh:All bn [(k+4,.bl [(.fg,.int b),(.dh,.ref k),(.eX,.ref (k+1)),(.fh,.ref (k+2)),(.de,.ref (k+3)),(.dJ,.int 0),(.dg,.int 0)]),(k+3,.an []),(k+2,.list []),(k+1,.list []),(k,.list []),(rn,.list (ns.map AV.int)),(rd,.list [.int 1])] :=
  (Mg.app _).gb hM (by simp;lia)
 have Mi:=Mh _ (.head _)
 dsimp only at Mi
 have Xn:All bn [(k+10,.list []),(k+9,.list []),(k+8,.an []),(k+7,.an []),(k+6,.list []),(k+5,wA (k+6) (k+7) 16 4000 (k+8) b 0 1001 (k+9) (k+10) 0 0),(k+3,.an []),(k+2,.list []),(k+1,.list []),(k,.list []),(rn,.list (ns.map AV.int)),(rd,.list [.int 1])] :=
  ((((((All.cons (fun x hx=>Mh x (.tail _ hx)) z1).cons z2).cons z3).cons z4).cons z5).cons z6)
 refine ⟨rfl,?_⟩
 wtm_at "k"
 have k4:(bn.set (k+4) (.bl (bp [(.fg,.int b),(.dh,.ref k),(.eX,.ref (k+1)),(.fh,.ref (k+2)),(.de,.ref (k+3)),(.dJ,.int 0),(.dg,.int 0)] .aF (.ref (k+5))))).length=k+11:=by exact U List.length_set (U z7 rfl)
 have Mj:=Xn.set (r:=k+4) (by simp;lia) (.bl (bp [(.fg,.int b),(.dh,.ref k),(.eX,.ref (k+1)),(.fh,.ref (k+2)),(.de,.ref (k+3)),(.dJ,.int 0),(.dg,.int 0)] .aF (.ref (k+5))))
 have EM:(bn.set (k+4) (.bl (bp [(.fg,.int b),(.dh,.ref k),(.eX,.ref (k+1)),(.fh,.ref (k+2)),(.de,.ref (k+3)),(.dJ,.int 0),(.dg,.int 0)] .aF (.ref (k+5)))))[k+4]?=_:=gs Mi
 generalize bn.set (k+4) _=cg at k4 Mj EM ⊢
 have Xo:bp [(Nm.fg,AV.int b),(.dh,.ref k),(.eX,.ref (k+1)),(.fh,.ref (k+2)),(.de,.ref (k+3)),(.dJ,.int 0),(.dg,.int 0)] .aF (.ref (k+5))=[(.fg,.int b),(.dh,.ref k),(.eX,.ref (k+1)),(.fh,.ref (k+2)),(.de,.ref (k+3)),(.dJ,.int 0),(.dg,.int 0),(.aF,.ref (k+5))]:=rfl
 rw [Xo] at EM
 wtm_at "w"
 refine RA (RB (v:=.ref (k+5)) (by wtm_at "v") ?_)
 wtm_at "w"
 have Mk:(cg++[AO.an []]).length=k+12:=by refine U List.length_append (U k4 ?_);rfl
 have k5:(cg++[AO.an []]++[AO.an []]).length=k+13:=by refine U List.length_append (U Mk ?_);rfl
 change FW C n .yT [_,_,_,_] _ _
 refine U k5 (U Mk (U k4 ?_))
 have iz:(cg++[AO.an []]++[AO.an []]++[AO.inst .fS []])[k+13]?=some (.inst .fS []):=by refine aT k5 ?_;exact gl
 refine FW.up (Xi G iz ?_) hn
 clear iz
 have Ml:All (cg++[AO.an []]++[AO.an []]) _:=((Mj.app (.an [])).cons (r:=k+11) (o:=.an []) (by refine aT k4 ?_;exact gl)).app (.an []) |>.cons (r:=k+12) (o:=.an []) (by simp [k4])
 have Mm:(cg++[AO.an []]++[AO.an []])[k+4]?=_:=ga (ga EM)
 generalize cg++[AO.an []]++[AO.an []]=dY at Ml Mm k5 ⊢
 have iz:(dY++[AO.inst .fS []])[k+13]?=some (.inst .fS []):=by refine aT k5 ?_;exact gl
 have Mn:=((Ml.app (.inst .fS [])).set (r:=k+13) (by simp;lia) (.inst .fS [(.aF,.ref (k+5)),(.lx,.ref (k+11)),(.lA,.ref (k+12))])).cons (gs iz)
 have Mp:((dY++[AO.inst .fS []]).set (k+13) (.inst .fS [(.aF,.ref (k+5)),(.lx,.ref (k+11)),(.lA,.ref (k+12))]))[k+4]?=some (.bl [(.fg,.int b),(.dh,.ref k),(.eX,.ref (k+1)),(.fh,.ref (k+2)),(.de,.ref (k+3)),(.dJ,.int 0),(.dg,.int 0),(.aF,.ref (k+5))]):=by refine U (gn (by lia) ..) ?_;exact ga Mm
 generalize (dY++[AO.inst .fS []]).set (k+13) _=cU at Mn Mp ⊢
 refine ⟨rfl,?_⟩
 wtm_at "w"
 have Xp:=(Mn.set (r:=k+4) (by simp;lia) _).cons (gs Mp (o':=.bl [(.fg,.int b),(.dh,.ref k),(.eX,.ref (k+1)),(.fh,.ref (k+2)),(.de,.ref (k+3)),(.dJ,.int 0),(.dg,.int 0),(.aF,.ref (k+5)),(.g7,.ref (k+13))]))
 refine q _ _ b (qv rn rd k) (by lia) (Xj l1 l2 bu Xp) ?_ ?_ ?_ ?_
 ·exact lW
 ·exact Xm
 ·rfl
 ·exact pr
end
section
variable {C:Cx} {M M' iU:Mo} {pos pos' iD:Tg->Nat} {σ V ar aX:AH} {Q:AV->AH->Prop} {n:Nat} {N:Loc->AH->Prop} {R:AV->AH->Prop} {ρ:Loc}
theorem Xq {ns:List Int} {b:Nat} (h0:0<ns.length) (h1:ns.length<=63) (hb:b<=3):Inv ((M0 ns b).dZ (fM (M0 ns b).rows)) :=
 ⟨⟨h0,by show ns.length<=_;lia⟩,⟨rfl,.nil,fun r h=>absurd h List.not_mem_nil,Nat.zero_le _,fun r h=>absurd h List.not_mem_nil⟩,fun r h=>absurd h List.not_mem_nil,.nil,fun r h=>absurd h List.not_mem_nil,fun v h=>absurd h List.not_mem_nil,fun r h=>absurd h List.not_mem_nil,rfl,rfl,rfl,rfl,rfl,rfl,rfl,rfl,fun r h=>absurd h List.not_mem_nil,Nat.le_refl _,by show 0<=1;decide,by show 0<=1;decide,by show 0<=4*1;decide,by show 1<=10000;decide,hb⟩
structure LL (ρ:Loc) (pos:Tg->Nat) (sz:Int):Prop where
 nums:ρ .bG=some (.ref (pos .nums))
 at_:ρ .bz=some (.ref (pos .d))
 w:ρ .aJ=some (.ref (pos .w))
 size:ρ .eI=some (.int sz)
theorem LL.fx {sz:Int} (r:LL ρ pos sz) (h1:pos' .nums=pos .nums) (h2:pos' .d=pos .d) (h3:pos' .w=pos .w):LL ρ pos' sz:=⟨by refine U h1 ?_;exact r.nums,by refine U h2 ?_;exact r.at_,by refine U h3 ?_;exact r.w,r.size⟩
theorem LL.set {sz:Int} (r:LL ρ pos sz) {x:Nm} {v:AV} (h1:x≠.bG) (h2:x≠.bz) (h3:x≠.aJ) (h4:x≠.eI):LL (co ρ x v) pos sz :=
 ⟨by refine U (n0 (Ne.symm h1) ..) ?_;exact r.nums,by refine U (n0 (Ne.symm h2) ..) ?_;exact r.at_,by refine U (n0 (Ne.symm h3) ..) ?_;exact r.w,by refine U (n0 (Ne.symm h4) ..) ?_;exact r.size⟩
theorem Xr (G:Good C) (hn:4<=n) {ns:List Int} {b:Nat} (W:Wd (M0 ns b) pos σ) (h0:0<ns.length) (h1:ns.length<=63) (hb:b<=3) {sz:Int} (r:LL ρ pos sz)
  (q:∀ ae V M' p',Inv M'->Wd M' p' V->M'.asked=none->M'.d<=200->0<M'.roots.length->LL ae p' sz->N ae V) :
  ax C n EI N R ρ σ:=by
 delta EI iC
 change ax C n [_,_] N R ρ σ
 have e0:=r.w
 wtm_at "w"
 refine FW.up (DB G W ⟨rfl,.nil,fun r h=>absurd h List.not_mem_nil,Nat.zero_le _,fun r h=>absurd h List.not_mem_nil⟩ fun ai cp aE ah k₁=>?_) (by lia)
 have jo:=Xq h0 h1 hb
 have hG:LL ρ cp sz:=r.fx (k₁ _ (by decide) (by decide)) (k₁ _ (by decide) (by decide)) (k₁ _ (by decide) (by decide))
 have e1:=hG.nums
 have e2:=hG.at_
 wtm_at "w"
 refine FW.up (ia G aE jo.oM (n:=3) (by decide) fun aH v bc av hv=>?_) (by lia)
 have gp:=jo.Ey (by show 1+1<=10000;decide)
 wtm_at "w"
 refine jQ (4+v) (fun i ae V=>∃ M' p',Inv M'/\Wd M' p' V/\M'.asked=none/\M'.d<=10+20*i/\(0<i->0<M'.roots.length)/\LL ae p' sz) rfl (by lia)
  (vg _ cp gp bc rfl (by show 1+1<=10+20*0;decide) (fun h=>absurd h (by decide)) hG) ?_ ?_
 ·(intro i ae V K hi;refine ja ?_;intro M' p' I' W' ha hd _ r';intro kk)
  have e1:=r'.nums
  have e2:=r'.at_
  have e3:=r'.w
  wtm_at "w"
  refine FW.up (Kx G W' I' (by lia) fun bn ib qp gq bg aV nx EN eg=>?_) hn
  have:=nx.fN
  wtm_at "w"
  exact kk _ bn (vg ib qp gq bg (by refine U nx.asked ?_;exact ha) (by lia) (fun Y=>eg) (LL.fx ⟨e1,e2,e3,r'.size⟩ (EN _ (by decide)) (EN _ (by decide)) (EN _ (by decide))))
 ·(intro ae V;refine ja ?_;intro M' p' I' W' ha hd hr r')
  exact p6 (q ae V M' p' I' W' ha (by lia) (hr (by lia)) r')
theorem Xs (W:Wd M pos σ) (h:M.asked=none) {r:Nat} (hr:σ[r]?=some (.list [])) (o:cm M pos r):Wd (M.lm (some [])) (cn pos .asked r) σ:=by
 have dead:aO M pos .asked=none:=congrArg (Option.map fun l:List (Int × List Int)=>AO.list (l.map kP)) h
 have uB:∀ t,aO M (cn pos .asked r) t=aO M pos t:=fun t=>by induction t <;> rfl
 have live:∀ t,aO M pos t≠none->cn pos .asked r t=pos t:=fun t ht=>ft (by rintro rfl;exact ht dead)
 have aE:=W.CQ (pos':=cn pos .asked r) uB live
 refine (aE.add (M':=M.lm (some [])) (t:=.asked) (o:=.list []) rfl (fun t' ht=>by induction t' <;> first | rfl | exact absurd rfl ht) (by refine U iW ?_;exact hr) ?_).1
 refine U iW ?_
 intro t ht
 rw [uB] at ht
 refine U (live t ht ..) ?_;exact o t ht
theorem Xu (G:Good C) (hn:12<=n) (W:Wd M pos σ) (I:Inv M) (ha:M.asked=none) (hd:M.d<=200) (hr:0<M.roots.length) {sz:Int} (r:LL ρ pos sz) (q:∀ V,R (.bool true) V) :
  ax C n EJ N R ρ σ:=by
 delta EJ iC
 change ax C n [_,_,_] N R ρ σ
 have aE:=Xs (W.app (.list [])) ha gl (W.fresh (Nat.le_refl _))
 have jo:Inv (M.lm (some [])):=I.asked
 refine Iw (xW (Rr ?_))
 have hG:LL (co ρ .eW (.ref σ.length)) (cn pos .asked σ.length) sz:=LL.fx ⟨r.nums,r.at_,r.w,r.size⟩ (ft (by decide)) (ft (by decide)) (ft (by decide))
 have EO:co ρ .eW (.ref σ.length) .eW=some (.ref (cn pos .asked σ.length .asked)):=by exact U Io (U iW rfl)
 have Xv:(M.lm (some [])).d<=200:=hd
 have EP:(M.lm (some [])).roots.length>0:=hr
 have oQ:(M.lm (some [])).asked=some []:=rfl
 generalize co ρ .eW (.ref σ.length)=jl at hG EO ⊢
 generalize M.lm (some [])=cE at aE jo Xv EP oQ
 generalize cn pos .asked σ.length=cp at aE hG EO
 generalize σ++[AO.list []]=ai at aE ⊢
 have e1:=hG.nums
 have e2:=hG.at_
 have e4:=hG.size
 have go:∀ (iK:Mo) (aH:AH) (k:Nat) (z:Int),z=k->Inv iK->Wd iK cp aH->iK.d<=201->0<iK.roots.length->iK.asked=some []->k<=4 ->
   n4 C n [.Fq] true [.iff (.not (.call .yS [(.nm .bG),(.nm .bz),(.nm .aJ),(.nm .eW)])) [.ret (.bool false)] []] [.ret (.call .yQ [(.nm .aJ)])] N R jl (.int z) aH:=by
  intro iK aH k z hz gp bc gQ Xw iT hk4
  refine jQ k (fun i ae V=>∃ M' p' l',Inv M'/\Wd M' p' V/\M'.d<=201+150*i/\0<M'.roots.length/\M'.asked=some l'/\l'.length=2*i/\LL ae p' sz/\ae .eW=some (.ref (p' .asked))) hz (by lia)
   (Fk iK cp ([]) gp bc (by lia) Xw iT rfl hG EO) ?_ ?_
  ·(intro i ae V K hi;refine E1 ?_;intro M' p' l' I' W' d' b' q' e' r' a';intro kk)
   have e1:=r'.nums
   have e2:=r'.at_
   have e3:=r'.w
   wtm_at "w"
   refine FW.up (W6 G W' I' (by lia) b' q' (by lia) fun cg xR oh oR ix=>?_) hn
   (revert ix;refine au ?_;intro Xx u0 acv)
   have:=oR.fN
   have:=oR.j6
   have xY:=oR.fx
   rw [<- xY .asked (by decide)] at a'
   wtm_at "w"
   exact kk _ cg (Fk xR oh Xx oR.I oR.W (by lia) (by lia) u0 (by lia) (LL.fx ⟨e1,e2,e3,r'.size⟩ (xY _ (by decide)) (xY _ (by decide)) (xY _ (by decide))) a')
  ·(intro ae V;refine E1 ?_;intro M' p' l' I' W' d' b' q' e' r' a')
   have e3:=r'.w
   wtm_at "w"
   exact FW.up (Vw G W' I' q) (by lia)
 by_cases hs:sz<10
 ·wtm_at "w"
  exact go cE ai 2 _ rfl jo aE (by lia) EP oQ (by decide)
 ·wtm_at "w"
  refine FW.up (ia G aE jo.oM (n:=2) (by decide) fun aH v bc av hv=>?_) (by lia)
  wtm_at "w"
  exact go _ aH (3+v) _ rfl (jo.Ey (by lia)) bc (by show cE.d+1<=201;lia) EP oQ (by lia)
theorem Xy (G:Good C) {r:Nat} {ns1:List Int} (h:σ[r]?=some (.list (ns1.map AV.int))) (hl:ns1.length<=40) (hs:ρ .ed=some (.ref r)) (q:∀ V,R (.bool true) V):ax C 12 (iC.drop 1) N R ρ σ:=by
 have e:iC.drop 1=EG.drop 1++(EH++(EI++EJ)):=rfl
 refine U e (U (oL ..) ?_)
 refine Xh G h hl hs fun jl ai rn rd ns sz a1 a2 a3 a4 a5 a6 a7 a8 a9 aa=>?_
 refine U (oL ..) ?_
 refine Xl G (by decide) a1 a2 a4 a5 a6 a7 a8 a9 aa a3 fun dE aH b pos hb W b1 b2 b3 b4=>?_
 refine U (oL ..) ?_
 refine Xr G (by decide) W a9 aa hb ⟨b1,b2,b3,b4⟩ fun nU bn ib qp gq bg c1 c2 c3 c4=>?_
 exact Xu G (by decide) bg gq c1 c2 c3 c4 q
end
section
variable {C:Cx} {ι aK ι₀:bf} {σ V:AH} {s:Shared} {A:Around} {n:Nat} {env:Env} {ρ ae:Loc} {h h' h₀:Heap} {N:Loc->AH->Prop} {R:AV->AH->Prop} {E:Value->Shared->Prop}
theorem Xz {value:Expr} {lo hi:Option Expr} {p:Pos} {a:Addr} {vs:Array Value} {l:List AV} {k t:Nat} {Q:AV->AH->Prop} (S:St C ι σ s) (hp:s.heap.IsList a vs) (hr:aI ι s.heap l vs.toList) (hl:l.length<=1000000) (hk:k<2 ^ 62)
  (q:Q (.ref σ.length) (σ++[.list (l.take k)])) :
  wpAny (model C.prog C.w) A (newFields "slice" [.none,.int (k:Nat) t,.none]) (fun iv aG=>wpAny (model C.prog C.w) A (subscriptTail value (.Slice lo hi Option.none p) (.ref a) iv) (bY C ι s.heap Q) E aG) E s:=by
 refine wpAny_newObj_type ?_
 (refine ay ?_ (S.slice (l:=.none) (u:=.int (k:Nat) t) (st:=.none));intro X S')
 have qV:=Heap.IsSliceOf.new s.heap .none (.int (k:Nat) t) .none
 have nY:∀ b o,s.heap.get? b=some o->(s.heap.push { cls:=.type "slice",data:=.fields #[.none,.int (k:Nat) t,.none] }).get? b=some o:=fun b o e=>Heap.get?_push_of_some _ e
 have dj:(s.heap.push { cls:=.type "slice",data:=.fields #[.none,.int (k:Nat) t,.none] }).IsList a vs:=by
  (revert hp;refine au ?_;intro o ho r)
  exact (aB o (nY _ _ ho) r)
 have dP:=aI.mono (cH.keeps nY) _ hr
 have e1:=hr.length
 rw [Array.length_toList] at e1
 refine tail_any dj.typeIs slot_list_getitem.lookup (wpAny_getItem_list_slice dj qV .none (.int _ _) .none (by simp) ?_ (by refine U sizeLine_eq ?_;lia)) (ops:=[.ref s.heap.objs.size,.ref a]) rfl
 refine U (show slicePick vs Option.none (some (k:Int)) Option.none=(vs.toList.take k).toArray from GD vs k) ?_
 (refine ay ?_ (S'.alloc (o:={ cls:=.type "list",data:=.seq (vs.toList.take k).toArray }) (ao:=.list (l.take k)) rfl (oZ rfl (by simp;lia) _ (aQ _ (Heap.get?_push_size _ rfl)) (aI.mono sO _ (dP.take k))));intro X2 Y2)
 refine (cF _ _ _ (X.trans X2) (Y2 s.toks) ?_ q)
 refine aT S.hr.len ?_
 exact sP
theorem XA (S:St C ι [] s):ι=[]:=List.eq_nil_of_length_eq_zero S.hr.len
theorem XB {st:Stmt} (hm:mS env.scope (.as .ed (.slt (.nm .ed) (.int 40))) st=true) (hR:Rb A n) (S:St C [] [] s) (F:FR C env ρ [] s.heap) (xZ:env.kindOf Nm.ed.str=some .local) {m:Str->Option Value} (iA:s.heap.Ns env.locals m)
  {a:Addr} {vs:Array Value} {ns0:List Int} (qo:m Nm.ed.str=some (.ref a)) (hp:s.heap.IsList a vs) (hv:aI [] s.heap (ns0.map AV.int) vs.toList) (hl:ns0.length<=63) (q:N (co ρ .ed (.ref 0)) [.list ((ns0.take 40).map AV.int)]) :
  wpAny (model C.prog C.w) A (exec st env) (dL C env [] s.heap N R) FF s:=by
 (refine q4 hm ?_;clear hm;intro t v pos hm)
 (revert hm;refine aw (aw ?_);intro h1 h2 h3)
 (refine au ?_ (rA h1);rintro p rfl hs)
 (refine nH h3 ?_;clear h3;intro v' z2 pos' h3)
 (refine zt h3 ?_;clear h3;intro z3 z4 z5 pp h3)
 (revert h3;refine aw ?_;intro g0 h3)
 (revert h3;refine aw ?_;intro g1 h3)
 obtain rfl:=Option.isNone_iff_eq_none.mp g0
 obtain rfl:=Option.isNone_iff_eq_none.mp g1
 (refine pI h3 ?_;clear h3;intro iQ h3)
 (refine aw ?_ h3;intro h4 h5)
 have ev:wpAny (model C.prog C.w) A (eval (.Subscript v' (.Slice .none (some iQ) .none pp) pos') env) (bY C [] s.heap (fun v V=>v=.ref 0/\V=[.list ((ns0.take 40).map AV.int)])) FF s:=by
  refine Subscript_ ?_
  (refine qY h4 ?_;clear h4;intro id pn h4)
  (revert h4;refine aw (aw ?_);intro cw h6 h7;obtain rfl:=eq_of_beq cw)
  have cG:(Nm.ed.str==("__debug__":Str))=false:=by simpa [vW] using h7
  refine wpAny_Name ?_ cG
  refine wpAny_loadName_local F.kind xZ iA qo ?_
  refine U (arm_eval_Slice ..) ?_
  show wpAny _ A ((pure .none:Sem Value) >>= _) _ _ _
  refine wpAny_bind (wpAny_pure (wpAny_bind (wpAny_holding ((bt C n (.int 40)).go (Q₁:=fun v V=>v=.int 40/\V=[]) h5 hR S F ⟨rfl,rfl⟩ fun b aH bH v bh bd av bN kO bI=>wpAny_bind (wpAny_holding ?_)))))
  refine wpAny_pure ?_
  (revert bI;refine ay ?_;rintro rfl rfl)
  obtain rfl:=XA av
  (refine aM ?_ (kO.int_inv);rintro tk rfl)
  have hk:∀ b o,s.heap.get? b=some o->bh.heap.get? b=some o:=fun b o e=>bd.keep b o (by (refine au ?_;intro p hp _);cases hp) e
  have XC:bh.heap.IsList a vs:=by
   (revert hp;refine au ?_;intro o ho r)
   exact (aB o (hk _ _ ho) r)
  exact wpAny_mono (Xz (k:=40) (t:=tk) (Q:=fun v V=>v=.ref 0/\V=[.list ((ns0.take 40).map AV.int)]) av XC (aI.mono (cH.keeps hk) _ hv) (by simp;lia) (by decide) ⟨rfl,by exact U (List.nil_append ..) (U (List.map_take ..) rfl)⟩) (fun iv cO q=>up bd q) fun Y Y f=>f.elim
 refine wpAny_Assign_Name (wpAny_mono ev (fun cv aG=>oX fun v ai aU X ah pN oQ=>?_) fun Y Y f=>f.elim) rfl
 (revert oQ;refine ay ?_;rintro rfl rfl)
 exact pG (F.mono S.hr X) ah hs pN fun h' t bd av bN=>dL.next (X.xt.trans bd) av bN q
end
noncomputable def x9 (K:Frag) (a:Addr):Bool:=match K.lookup a with
 | some o=>(match o.data with | .func fd=>fd.scope.names.lookup Nm.ed.str==some .local | _=>false)
 | _=>false
section
variable {C:Cx} {s:Shared} {A:Around}
theorem XD (G:Good C) (ya:x9 C.K (C.fa .fR)=true) (hR:Rm A 13) (S:St C [] [] s) {a:Addr} {vs:Array Value} {ns0:List Int} (dj:s.heap.IsList a vs) (hv:aI [] s.heap (ns0.map AV.int) vs.toList) (hl:ns0.length<=63) :
  codeAny (model C.prog C.w) A (.call (.ref (C.fa .fR)) ⟨[.ref a],[]⟩) (fun r s'=>∃ cv,r=.ok (.ret cv)/\bY C [] s.heap (fun v Y=>v=.bool true) cv s') s:=by
 (refine E3 ?_ ((Ig (G .fR rfl)).ex);intro o fd fI as ho wu Aj hg hb Ak Al hp has bP tA Am pY jm Il wv An hm)
 have fD:fd.scope.names.lookup Nm.ed.str=some .local:=by
  unfold x9 at ya
  rw [ho] at ya
  simp only [wu] at ya
  simpa using ya
 have X:=C.lC.keeps S.hr.keep
 have XE:p4 .fR=[.ed]:=rfl
 rw [XE] at has wv bP
 have Ao:as.length=[Value.ref a].length:=by
  have:=congrArg List.length has
  simpa using this
 have tB:=Ie (vals:=[.ref a]) hp Al (by refine U has ?_;exact bP) Ao
 rw [has] at tB
 (refine bS ?_ (lG S);intro f1 f2 f3)
 have rC:∀ x,fd.scope.names.lookup x=some .cell->((cellsFrom (s.heap.objs.size+1) fd.scope.names []).lookup x).isSome=true:=fun x hx =>
  let ⟨c,hc⟩:=wp fd.scope.names (s.heap.objs.size+1) [] x (.inl (pM hx));Ai hc
 have tC:s.heap.NoLimit:=by
  (refine eV ?_ (C.g);intro mg mb _ _ hl _)
  exact hl.keeps S.hr.keep
 refine codeAny_call_cells (by have:=hR.depth;have:recursionLimit=1000:=rfl;lia) (X _ _ ho) wu tC (codeRec_of X Aj) An tB Ak (fun x hx=>?_) (fun aG I=>?_) Am pY tA
 ·have:=(List.of_mem_zip hx).1
  (refine au ?_ (List.mem_map.mp this);intro y hy e)
  rcases wv y hy with h1 | h1
  ·exact .inl (by refine aT e ?_;exact h1)
  ·exact .inr ⟨by refine aT e ?_;exact h1,rC _ (by refine aT e ?_;exact h1)⟩
 ·obtain ⟨⟨⟨hh,tk,lH⟩,iA,nY,QY⟩,ww,nK,QZ⟩:=I
  subst lH
  have nZ:∀ b o,s.heap.get? b=some o->hh.get? b=some o:=nY
  have ah:St C [] [] { s with heap:=hh,toks:=tk }:=⟨S.hr.keeps nZ,S.gens,S.os⟩
  have noOwn:∀ b,¬ b7 [] b:=fun b=>au fun p hp Y=>by cases hp
  have fresh:∀ b,s.heap.objs.size<=b->s.heap.get? b=none/\¬ b7 [] b/\C.base.get? b=none:=fun b hb=>by
   have eC:s.heap.get? b=none:=by
    induction e:s.heap.get? b with
    | none=>rfl
    | some o=>exact absurd (Heap.lt_size e) (Nat.not_lt.mpr hb)
   refine ⟨eC,noOwn b,?_⟩
   ·induction e:C.base.get? b with
    | none=>rfl
    | some o=>rw [S.hr.keep _ _ e] at eC;exact dQ eC
  have tD:∀ m c,(m,c)∈(callEnvC fd s.heap.objs.size (C.fa .fR)).cells->s.heap.objs.size<=c:=fun m c hc =>
   Nat.le_of_succ_le (wq fd.scope.names (s.heap.objs.size+1) [] (s.heap.objs.size+1) (fun p hp=>nomatch hp) (Nat.le_refl _) (m,c) hc)
  have bq:FR C (callEnvC fd s.heap.objs.size (C.fa .fR)) (fun Y=>Option.none) [] hh:=by
   refine ⟨tA,hg,hb,(aB _ iA (fun x v e k=>(by exact aZ e))),fun x v e k=>(by exact aZ e),fun m c hc=>?_,nK,⟨f3,f2⟩,fun x k=>?_⟩
   ·have jH:(callEnvC fd s.heap.objs.size (C.fa .fR)).cells.lookup m=some c:=Ah (wo fd.scope.names _ [] (by simpa using jm)) hc
    (refine bS ?_ (fresh c (tD m c hc));intro _ b2 b3)
    exact ⟨(aQ _ (ww _ _ jH)),b3,b2⟩
   ·have:((callEnvC fd s.heap.objs.size (C.fa .fR)).cells.lookup x).isSome=true:=rC x k
    intro e
    rw [e] at this;exact du this
  have dq:Rb (A.deeper (callEnvC fd s.heap.objs.size (C.fa .fR))) 12:=⟨hR.bP,by have:=hR.depth;show A.depth+1+3*12+2<=900;lia,by have:=hR.units;show A.units+3+20*12+17<=9000;lia⟩
  have xZ:(callEnvC fd s.heap.objs.size (C.fa .fR)).kindOf Nm.ed.str=some .local:=fD
  have ur:hh.IsList a vs:=by
   (revert dj;refine au ?_;intro o ho r)
   exact (aB o (nZ _ _ ho) r)
  have pN:=aI.mono (cH.keeps nZ) _ hv
  have fin:∀ {fl:Flow} {s':Shared},dL C (callEnvC fd s.heap.objs.size (C.fa .fR)) [] hh (fun Y Y=>False) (fun v Y=>v=.bool true) fl s'->∃ cv,fl=.ret cv/\bY C [] s.heap (fun v Y=>v=.bool true) cv s':=by
   intro fl s' h'
   (revert h';refine cW ?_;intro aK V X' S' q)
   have E':Ext [] s.heap aK s'.heap:=((Ext.keeps nZ).xt.trans X').ext fun b hb=>by
    rcases hb with rfl | ⟨m,hm⟩
    ·exact f1
    ·exact (fresh b (tD m b hm)).1
   induction fl with
   | next=>exact q.choose_spec.2.elim
   | ret cv =>
    (revert q;refine au ?_;intro v gj q)
    exact (sk cv rfl v V aK E' S' gj q)
   | _=>exact q.elim
  have fq:mB fd.scope (.as .ed (.slt (.nm .ed) (.int 40))::iC.drop 1) fI=true:=hm
  have hq:∃ st rest,fI=st::rest/\(mS fd.scope (.as .ed (.slt (.nm .ed) (.int 40))) st&&mB fd.scope (iC.drop 1) rest)=true:=kK fq fun st rest h=>jb st rest rfl h
  (revert hq;refine oU ?_;rintro st rest rfl fq)
  rw [Bool.and_eq_true] at fq
  have yZ:bindL (callEnvC fd s.heap.objs.size (C.fa .fR)).kindOf (([Nm.ed].map Nm.str).zip [Value.ref a]) (fun Y=>Option.none) Nm.ed.str=some (.ref a):=by
   show bindL _ [(Nm.ed.str,Value.ref a)] _ _=_
   unfold bindL bindL
   rw [if_pos xZ,if_pos rfl]
  refine wpAny_mono (wpAny_execs_cons (wpAny_mono (XB (N:=fun ρ σ=>ρ=co (fun Y=>Option.none) .ed (.ref 0)/\σ=[.list ((ns0.take 40).map AV.int)]) (R:=fun v Y=>v=.bool true) (ns0:=ns0) fq.1 dq ah bq xZ iA yZ ur pN hl ⟨rfl,rfl⟩) (fun f aG bD=>?_) fun Y Y f=>f.elim)) (fun fl s' (h':dL C (callEnvC fd s.heap.objs.size (C.fa .fR)) [] hh (fun Y Y=>False) (fun v Y=>v=.bool true) fl s')=>?_) (fun _ _ (f:False)=>f.elim)
  ·(revert bD;refine cW ?_;intro aU ai cf av q)
   induction f with
   | next =>
    (revert q;refine bO ?_;rintro jl bN rfl rfl)
    have hw:ax C 12 (iC.drop 1) (fun Y Y=>False) (fun v Y=>v=.bool true) (co (fun Y=>Option.none) .ed (.ref 0)) [.list ((ns0.take 40).map AV.int)] :=
     Xy G (r:=0) (ns1:=ns0.take 40) rfl (by simp;lia) Io fun V=>rfl
    exact wd cf (pW C 12 (iC.drop 1) rest _ _ aU _ aG _ _ _ fq.2 dq av bN hw)
   | ret cv=>exact (cA aU ai cf av q)
   | _=>exact q.elim
  ·(refine au ?_ (fin h');rintro cv rfl p)
   exact (aB cv rfl p)
end
set_option maxRecDepth 100000
theorem XF {v:Value} {n:Str} (h:Ge v n=true):∃ t,v=.str n t:=by
 induction v using Value.casesOn with
 | str s t=>exact ⟨t,congrArg (fun s=>Value.str s t) (eq_of_beq h)⟩
 | _=>exact du h
theorem Mq:∀ {es:List DictEntry} {ps:List (Str × VT)},yV es ps=true->∀ x:Str,(es.any (·.refKey)=false)/\(ps.lookup x=none->es.find? (·.key.isStr x)=none)/\∀ vt,ps.lookup x=some vt->∃ e,es.find? (·.key.isStr x)=some e/\yU e.val vt=true
 | [],[],_,x=>⟨rfl,fun Y=>rfl,fun vt h=>aZ h⟩
 | e::es,p::ps,h,x=>by
  revert h
  refine aw fun h1=>aw fun h2 h3=>?_
  have ih:=Mq h3 x
  (refine aM ?_ (XF h1);intro t hk)
  have hr:e.refKey=false:=by unfold DictEntry.refKey;rw [hk]
  have hs:e.key.isStr x=(p.1==x):=by rw [hk];rfl
  refine ⟨by rw [List.any_cons,hr];exact ih.1,?_,?_⟩
  ·intro hl
   rw [List.lookup_cons] at hl
   rw [List.find?_cons,hs]
   induction q:x==p.1 with
   | true=>rw [q] at hl;exact dQ hl
   | false =>
    rw [q] at hl
    rw [show (p.1==x)=false by rw [beq_eq_false_iff_ne] at q ⊢;exact fun e=>q e.symm]
    exact ih.2.1 hl
  ·intro vt hl
   rw [List.lookup_cons] at hl
   rw [List.find?_cons,hs]
   induction q:x==p.1 with
   | true =>
    rw [q] at hl
    rw [show (p.1==x)=true by rw [beq_iff_eq] at q ⊢;exact q.symm]
    exact ⟨e,rfl,by rw [<- Option.some.inj hl];exact h2⟩
   | false =>
    rw [q] at hl
    rw [show (p.1==x)=false by rw [beq_eq_false_iff_ne] at q ⊢;exact fun e=>q e.symm]
    exact ih.2.2 vt hl
 | [],_::_,h,x=>du h
 | _::_,[],h,x=>du h
theorem EQ {K:Frag} {ps:List (Str × VT)} (h:yW K ps=true) (x:Str):(ps.lookup x=none->nsIn K mainGlobals x=some none)/\∀ vt,ps.lookup x=some vt->∃ v,nsIn K mainGlobals x=some (some v)/\yU v vt=true:=by
 revert h
 delta yW nsIn
 generalize List.lookup mainGlobals K=z
 rcases z with _ | ⟨c,d,da,sl⟩
 ·exact du
 ·induction da using Data.casesOn with
  | dict es ep =>
   intro h
   have:=Mq h x
   refine ⟨fun e=>?_,fun vt e=>?_⟩
   ·dsimp only;rw [this.2.1 e,this.1];rfl
   ·(refine au ?_ (this.2.2 vt e);intro e' h1 h2)
    dsimp only;rw [h1]
    exact ⟨_,rfl,h2⟩
  | _=>exact du
theorem XG:(F9.all fun p=>match g8.lookup (Nm.mk p.1).str with | some (.i n)=>n==p.2 | _=>false)=true:=by kernel_rfl
theorem XH:((List.range 71).all fun k=>match g8.lookup (Fn.mk k).str with | some (.r a)=>Nat.beq a (f9 ⟨k⟩) | _=>false)=true:=by kernel_rfl
noncomputable def u6 (o:Option VT) (a:Addr):Bool:=match o with
 | some (.r b)=>Nat.beq b a
 | _=>false
theorem XI:(u6 (g8.lookup (Cl.gB).str) 80&&u6 (g8.lookup (Cl.dR).str) 101&&u6 (g8.lookup (Cl.jd).str) 332&&u6 (g8.lookup (Cl.fS).str) 437)=true:=by kernel_rfl
theorem XJ:(vF.all fun x=>(g8.lookup x).isNone)=true:=by kernel_rfl
theorem XK {K:Frag} {a:Addr} {ps:List Nm} {body:List Sm} (h:nq K a=true) (h':Ag (fnX K a) ps body=true):nX K a ps body=true:=by
 unfold nX;rw [h,h'];rfl
theorem yb {K:Frag} {a:Addr} (h:nq K a=true):typeIn K (.ref a)=some (.type "function")/\keepIn K (.ref a)=true/\isFn K (.ref a)=true:=by
 have key:typeIn K (.ref a)=some (.type "function")/\keepIn K (.ref a)=true:=by
  revert h
  delta nq typeIn keepIn
  dsimp only
  generalize List.lookup a K=z
  rcases z with _ | ⟨c,d,da,sl⟩
  ·exact du
  ·induction da using Data.casesOn with
   | func fd =>
    intro h
    have:=of_decide_eq_true (g9 h).1
    subst this
    exact ⟨rfl,rfl⟩
   | _=>exact du
 exact ⟨key.1,key.2,by unfold isFn;rw [key.1];exact beq_self_eq_true _⟩
noncomputable def dB (k:Nat):Bool:=!rD ⟨k⟩||Ag (qQ ((pk[k]?).getD (0,0))) (p4 ⟨k⟩) (u8 ⟨k⟩)
theorem XM:(List.range' 0 12).all dB=true:=by kernel_rfl
theorem XN:(List.range' 12 12).all dB=true:=by kernel_rfl
theorem XO:(List.range' 24 12).all dB=true:=by kernel_rfl
theorem XQ:(List.range' 36 12).all dB=true:=by kernel_rfl
theorem XR:(List.range' 48 12).all dB=true:=by kernel_rfl
theorem XS:(List.range' 60 8).all dB=true:=by kernel_rfl
theorem XU:(List.range' 68 8).all dB=true:=by kernel_rfl
set_option maxRecDepth 8000
set_option maxRecDepth 100000
theorem yc {v:Value} {o:Option (Option Value)} (h:sH v o=true):o=some (some v):=of_decide_eq_true h
theorem Mr {o:Option (Option Value)} (h:yX o=true):o=some none:=of_decide_eq_true h
structure yd (K:Frag):Prop where
 gi:∀ (x:Nm) (i:Int),x.vC=some i->∃ t,nsIn K mainGlobals x.str=some (some (.int i t))
 sE:∀ f:Fn,f.glob=true->nsIn K mainGlobals f.str=some (some (.ref (f9 f)))/\keepIn K (.ref (f9 f))=true
 cls:∀ c,Ga K (iM c) (f9 (nn c)) (fC c)
 vH:∀ c:Cl,nsIn K mainGlobals c.str=some (some (.ref (iM c)))/\keepIn K (.ref (iM c))=true
 sF:∀ x∈vF,nsIn K mainGlobals x=some none
 jA:∀ c f,vG c f=true->findIn K (.ref (iM c)) f.str=some (some (.ref (f9 f)))/\isFn K (.ref (f9 f))=true/\keepIn K (.ref (f9 f))=true
 fns:∀ f,rD f=true->nX K (f9 f) (p4 f) (u8 f)=true
 XV:x9 K (f9 .fR)=true
theorem XW (k:Nat) (h:k<76):dB k=true:=by
 have go:∀ {a n:Nat},(List.range' a n).all dB=true->a<=k->k<a+n->dB k=true:=fun e h1 h2=>List.all_eq_true.mp e k (List.mem_range'_1.mpr ⟨h1,h2⟩)
 rcases Nat.lt_or_ge k 12 with h1 | h1
 ·exact go XM (Nat.zero_le _) h1
 rcases Nat.lt_or_ge k 24 with h2 | h2
 ·exact go XN h1 h2
 rcases Nat.lt_or_ge k 36 with h3 | h3
 ·exact go XO h2 h3
 rcases Nat.lt_or_ge k 48 with h4 | h4
 ·exact go XQ h3 h4
 rcases Nat.lt_or_ge k 60 with h5 | h5
 ·exact go XR h4 h5
 rcases Nat.lt_or_ge k 68 with h6 | h6
 ·exact go XS h5 h6
 ·exact go XU h6 h
theorem XX {K:Frag} (h:xB K=true) (hd:qP.map (fnX K)=pk.map qQ):yd K:=by
 revert h
 refine aw fun hn=>aw fun ha=>aw fun ht=>aw fun hp=>aw fun hw=>aw fun hq hm=>?_
 have hc:∀ c,sI K c=true:=fun c=>by induction c <;> assumption
 have fa:∀ f:Fn,f.k<76->nq K (f9 f)=true/\fnX K (f9 f)=qQ ((pk[f.k]?).getD (0,0)):=fun f hf=>by
  have h1:qP[f.k]?=some (f9 f):=by
   unfold f9
   rw [List.getElem?_eq_getElem (show f.k<qP.length from hf)];rfl
  have h2:pk[f.k]?=some ((pk[f.k]?).getD (0,0)):=by
   rw [List.getElem?_eq_getElem (show f.k<pk.length from hf)];rfl
  refine ⟨List.all_eq_true.mp ha _ (List.mem_of_getElem? h1),?_⟩
  have:=congrArg (fun l=>l[f.k]?) hd
  simp only [List.getElem?_map] at this
  rw [h1,h2] at this
  exact Option.some.inj this
 have vD:∀ c,(nn c).k<76:=fun c=>by induction c <;> exact Nat.le_of_ble_eq_true rfl
 have look:∀ (x:Str) (a:Addr),u6 (g8.lookup x) a=true->nsIn K mainGlobals x=some (some (.ref a)):=fun x a e=>by
  induction q:g8.lookup x with
  | none=>rw [q] at e;exact du e
  | some vt =>
   rw [q] at e
   induction vt with
   | r b =>
    (refine au ?_ ((EQ hn x).2 _ q);intro v h1 h2)
    rw [h1,<- Nat.eq_of_beq_eq_true e,of_decide_eq_true h2]
   | _=>exact du e
 refine ⟨fun x i e=>?_,fun f e=>?_,fun c=>?_,fun c=>?_,fun x hx=>?_,fun c f e=>?_,fun f e=>?_,?_⟩
 ·unfold Nm.vC at e
  (refine au ?_ (Option.map_eq_some_iff.mp e);rintro p' e1 rfl)
  have h1:=List.all_eq_true.mp XG p' (List.mem_of_find?_eq_some e1)
  have e2:p'.1=x.k:=by simpa using List.find?_some e1
  rw [e2] at h1
  induction q:g8.lookup x.str with
  | none=>rw [show g8.lookup (Nm.mk x.k).str=none from q] at h1;exact du h1
  | some vt =>
   rw [show g8.lookup (Nm.mk x.k).str=some vt from q] at h1
   induction vt with
   | i n =>
    (refine au ?_ ((EQ hn x.str).2 _ q);intro v h2 h3)
    rw [h2,<- eq_of_beq h1]
    induction v using Value.casesOn with
    | int a' t=>exact ⟨t,by rw [eq_of_beq h3]⟩
    | _=>exact du h3
   | _=>exact du h1
 ·have hk:=Nat.blt_eq.mp e
  have h1:=List.all_eq_true.mp XH f.k (List.mem_range.mpr hk)
  refine ⟨look _ _ ?_,(yb (fa f (by omega)).1).2.1⟩
  induction q:g8.lookup f.str with
  | none=>rw [show g8.lookup (Fn.mk f.k).str=none from q] at h1;exact h1
  | some vt =>
   rw [show g8.lookup (Fn.mk f.k).str=some vt from q] at h1
   induction vt <;> exact h1
 ·have h:=hc c
  revert h
  refine aw fun h1=>aw fun h2=>aw fun h4=>aw fun h5=>aw fun h6=>aw fun h7=>aw fun h8=>aw fun h9 _=>?_
  exact ⟨h1,yc h2,(yb (fa _ (vD c)).1).1,yc h4,Mr h5,yc h6,h7,h8,fun f hf=>Mr (List.all_eq_true.mp h9 f hf)⟩
 ·have h:=hc c
  revert h
  refine aw fun h1=>aw fun h2=>aw fun h4=>aw fun h5=>aw fun h6=>aw fun h7=>aw fun h8=>aw fun h9 o0=>?_
  refine ⟨look _ _ ?_,o0⟩
  have:=XI
  simp only [Bool.and_eq_true] at this
  induction c
  ·exact this.1.1.1
  ·exact this.1.1.2
  ·exact this.1.2
  ·exact this.2
 ·exact (EQ hn x).1 (Option.isNone_iff_eq_none.mp (List.all_eq_true.mp XJ x hx))
 ·have:=g9 e
  rw [eq_of_beq this.1,eq_of_beq this.2]
  exact ⟨yc hm,(yb (fa .pi (Nat.le_of_ble_eq_true rfl)).1).2.2,(yb (fa .pi (Nat.le_of_ble_eq_true rfl)).1).2.1⟩
 ·have hk:f.k<76:=Nat.blt_eq.mp (g9 e).1
  have h1:=XW f.k hk
  unfold dB at h1
  rw [show rD ⟨f.k⟩=true from e] at h1
  exact XK (fa f hk).1 (by rw [(fa f hk).2];exact h1)
 ·have h1:fnX K (f9 .fR)=qQ (101,9):=(fa .fR (Nat.le_of_ble_eq_true rfl)).2
  have h2:(match qQ (101,9) with | some (_,sc,_)=>sc.names.lookup Nm.ed.str==some .local | none=>false)=true:=by kernel_rfl
  rw [<- h1] at h2
  revert h2
  unfold fnX x9
  generalize List.lookup (f9 .fR) K=z
  rcases z with _ | ⟨c,d,da,sl⟩
  ·exact fun h=>du h
  ·induction da using Data.casesOn <;> first | exact fun h=>h | exact fun h=>du h
theorem ye:∀ (l:List Obj) (i:Nat) (ns:List Nat) {a:Nat} {o:Obj},(l9 l i ns).lookup a=some o->i<=a/\l[a - i]?=some o/\o.data≠.freed
 | [],i,ns,a,o,h=>aZ h
 | o'::l,i,[],a,o,h=>aZ h
 | o'::l,i,n::ns,a,o,h=>by
  have up:i+1<=a/\l[a - (i+1)]?=some o/\o.data≠.freed->i<=a/\(o'::l)[a - i]?=some o/\o.data≠.freed:=fun ⟨h1,h2,h3⟩=>by
   refine ⟨Nat.le_of_succ_le h1,?_,h3⟩
   rw [show a - i=(a - (i+1))+1 by omega,List.getElem?_cons_succ]
   exact h2
  replace h:List.lookup a (match Nat.beq i n with | true=>(match o'.data with | .freed=>l9 l (i+1) ns | _=>(i,o')::l9 l (i+1) ns) | false=>l9 l (i+1) (n::ns))=some o:=h
  induction q0:Nat.beq i n with
  | true =>
   rw [q0] at h
   by_cases hf:o'.data=.freed
   ·rw [hf] at h;exact up (ye l _ _ h)
   ·replace h:List.lookup a ((i,o')::l9 l (i+1) ns)=some o:=by
     revert h hf
     generalize o'.data=da
     induction da using Data.casesOn <;> intro h hf <;> first | exact absurd rfl hf | exact h
    rw [List.lookup_cons] at h
    induction q:a==i with
    | true =>
     rw [q] at h
     rw [eq_of_beq q,Nat.sub_self,<- Option.some.inj h]
     exact ⟨Nat.le_refl _,rfl,hf⟩
    | false=>rw [q] at h;exact up (ye l _ _ h)
  | false=>rw [q0] at h;exact up (ye l _ _ h)
theorem XY (h:Heap):(fragOf h).In h:=fun a o e=>by
 obtain ⟨_,h1,h2⟩:=ye _ _ _ e
 rw [Nat.sub_zero,Array.getElem?_toList] at h1
 unfold Heap.get?
 rw [h1]
 obtain ⟨c,d,da,sl⟩:=o
 induction da using Data.casesOn <;> first | rfl | exact absurd rfl h2
set_option maxRecDepth 8000
set_option maxRecDepth 100000
theorem XZ {h:Heap} {vs:List Value} {ns:List Int} (H:IntsAre vs ns):aI [] h (ns.map AV.int) vs:=by
 induction H with
 | nil=>exact rfl
 | cons _ _ _ ih=>exact ⟨_,_,rfl,⟨_,rfl⟩,ih⟩
theorem X1:Rm callerA 13:=⟨rfl,by decide +kernel,by decide +kernel⟩
theorem Ms {K:Frag} {h:Heap} {a:Addr} {m:Str->Option Value} {x:Str} {v:Option Value} (X:K.In h) (hn:h.Ns a m) (e:nsIn K a x=some v):m x=v:=by
 delta nsIn at e
 induction q:List.lookup a K with
 | none=>rw [q] at e;exact aZ e
 | some o' =>
  rw [q] at e
  obtain ⟨c,d,da,sl⟩:=o'
  induction da using Data.casesOn with
  | dict es ep =>
   obtain ⟨o,gE,N8,br,cG,hk,hm⟩:=hn
   rw [X _ _ q] at br
   obtain rfl:=Option.some.inj br
   (revert cG;refine ij Data.dict.inj (ay ?_);rintro rfl _)
   rw [<- hm x]
   dsimp only at e
   have ef:nsFind es x=(es.toList.find? fun e=>e.key.isStr x).map (·.val):=congrArg (Option.map DictEntry.val) (Array.find?_toList ..).symm
   induction q2:es.toList.find? (fun e=>e.key.isStr x) with
   | some en=>rw [q2] at e;rw [ef,q2,<- Option.some.inj e];rfl
   | none =>
    rw [q2] at e
    dsimp only at e
    by_cases c:(es.toList.any (·.refKey))=true
    ·rw [if_pos c] at e;exact aZ e
    ·rw [if_neg c] at e;rw [ef,q2,<- Option.some.inj e];rfl
  | _=>exact aZ e
noncomputable def YP (w:World) (h:Heap):Prop:=∃ K:Frag,K.In h/\yd K
noncomputable def Mt (w:World) (aG:Shared) (mg mb:Str->Option Value) (K:Frag) (KX:K.In aG.heap) (H:yd K) (hg:aG.heap.Ns mainGlobals mg) (hb:aG.heap.Ns builtinsNs mb) (hl:aG.heap.NoLimit) (u7:∀ x:Str,x≠"__name__"->mb x=bootBuiltins x) (hs:aG.heap.NoSeer):Cx where
 prog:=PySem.Challenge.rw_xm0289_01.row.prog
 w:=w
 base:=aG.heap
 K:=K
 fa:=f9
 ca:=iM
 lC:=KX
 os:=aG.os
 cls:=H.cls
 gi:=H.gi
 sE:=H.sE
 vH:=H.vH
 sF:=H.sF
 jA:=H.jA
 sys:=by
  obtain ⟨mm,⟨o,_,_,ho,_⟩,_⟩:=hs.mods
  exact ⟨o,ho⟩
 g:=⟨mg,mb,hg,hb,hl,fun x v e=>Ms KX hg e,u7⟩
theorem X3 {w:World} {aG:Shared} {mg mb:Str->Option Value} {K KX H hg hb hl u7 hs} (pY:aG.gens=#[]):St (Mt w aG mg mb K KX H hg hb hl u7 hs) [] [] aG :=
 ⟨⟨rfl,fun b o e=>e,fun p hp=>(nomatch hp),fun i j p q e=>aZ e,fun i o p e=>aZ e⟩,pY,rfl⟩
theorem X4 {w:World} {aG:Shared} {mg mb:Str->Option Value} {K:Frag} (KX:K.In aG.heap) (H:yd K) (hg:aG.heap.Ns mainGlobals mg) (hb:aG.heap.Ns builtinsNs mb) (hl:aG.heap.NoLimit) (u7:∀ x:Str,x≠"__name__"->mb x=bootBuiltins x) (hs:aG.heap.NoSeer)
  (pY:aG.gens=#[]) {a:Addr} {vs:List Value} {ns:List Int} (hL:aG.heap.IsList a vs.toArray) (hI:IntsAre vs ns) (hn:ns.length<=63)
  {c:ClaimW} {cl:Str->Option Addr} {X5:ExcName->Option Value} {args:List WData} (hr:∀ cls,c.raises args cls=false) (hp:c.post args (.bool true) args=true) :
  codeAny (model PySem.Challenge.rw_xm0289_01.row.prog w) callerA (.call (.ref (f9 .fR)) ⟨[.ref a],[]⟩) (GoodWG c cl X5 args aG) aG:=by
 have G:Good (Mt w aG mg mb K KX H hg hb hl u7 hs):=H.fns
 refine codeAny_mono (XD (ns0:=ns) G H.XV X1 (X3 pY) hL (XZ hI) hn) ?_
 rintro r s' ⟨cv,rfl,v,V,aK,X,S',hv,rfl⟩
 have X6:=hv.bool_inv
 subst X6
 refine ⟨.inl ⟨_,_,[],rfl,hr,ReadsW.bool true,hp,fun Y=>⟨List.nodup_nil,fun Y hm=>(nomatch hm)⟩⟩,OldK.of_keep fun b o e=>X.keep b o (by rintro ⟨p,hp,_⟩;cases hp) e,S'.os,.of_eq S'.gens⟩
theorem X7:PyProof.Rows.importsNone sJ=true:=by decide +kernel
theorem X8 (ER:PySem.Challenge.rw_xm0289_01.row.wellSaid=true) (hw:PySem.Challenge.rw_xm0289_01.row.toRowW.promised):PySem.Challenge.rw_xm0289_01.row.Holds:=by
 refine holds_open (q:=sJ) (loose:=vJ) (Xt:=fun Y=>true) (XP:=fun Y Y=>True) (Yf:=Yf) (Ya:=Ya) (YP:=YP) (N:=7080) left ?hY ?X9 (fun Y Y=>trivial) (fun Y Y Y Y Y=>trivial) (by rfl) (by rfl) (by rfl) (fun s Y=>recFacts_of rfl) (by rfl) ER (by decide +kernel) ⟨rfl,rfl,rfl,rfl,rfl,by decide +kernel⟩ hw ?hc
 case hY=>exact fun w s e=>⟨_,XY s.heap,XX (congrArg (·.1) e) (congrArg (·.2) e)⟩
 case X9=>exact fun w h h' ⟨K,a,b⟩ k=>⟨K,fun x o e=>k x o (a x o e),b⟩
 case hc =>
  intro w il aG mg mb G Y fa o pm cd doc dV kV ho cG Yb hD Mu hg args vals as Af g6 Yc w0 t7
  clear ho Yb hD cG
  (refine au ?_ Y;intro K KX H)
  have T:=G.T
  have Yd:fa=f9 .fR:=by
   have h1:=Ms KX T.g (H.sE .fR rfl).1
   have h2:mg (Str.ofString "law")=some (.ref fa):=Mu
   have h3:=Option.some.inj (h2.symm.trans h1)
   exact Value.ref.inj h3
  subst Yd
  clear Mu
  wrow_args Af g6 Yc w0 t7
  refine enter_call ?_
  refine X4 KX H T.g T.b T.nolimit T.builtins (T.seer X7) hg (by assumption) (by assumption) (by wtm_at "o") (fun Y=>rfl) ?_
  first | rfl | wrow_post
set_option maxHeartbeats 8000000 in
theorem Ye:PySem.Challenge.rw_xm0289_01.Holds:=by
 refine holds_law Nf fun ER=>X8 ER ?_
 w_witness2
set_option maxRecDepth 8000
end Mine.Internal
theorem PySem.Challenge.cw_xm0289_01_holds : PySem.Challenge.rw_xm0289_01.Holds :=
 Mine.Internal.Ye
