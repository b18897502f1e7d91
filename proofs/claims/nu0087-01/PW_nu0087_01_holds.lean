import PyProof.Rows.All
import Wide.All
import KE.KNestM
import OpenK.KOwn
import KE.KxBytes
import KE.BytesMake
import KE.KBytesWalk
import KE.KDictList
import KE.KDictSum
import KE.KLam
import KE.KRevIter
import KE.KSlice
import Wide.FinOn
import PySem.Eval
import PySem.Builtin.Int.W1All
import Lean
import PySem.Challenge.RW_nu0087_01
set_option maxRecDepth 100000
set_option Elab.async false
set_option linter.unusedVariables false
set_option linter.unusedSectionVars false
set_option maxHeartbeats 4000000
set_option tactic.hygienic false
set_option genSizeOf false
set_option genInjectivity false
set_option bootstrap.genMatcherCode false
noncomputable section
section
namespace Mine.Lake
theorem aq{p0 p1:Prop}{G:Prop}(h:p0/\p1)(k:p0->p1->G):G:=k h.1 h.2
theorem aj{α0:Sort _}{p1:α0->Prop}{G:Prop}(h:∃ x0,p1 x0)(k:∀ x0,p1 x0->G):G:=h.elim fun x0 h0_=>k x0 h0_
theorem aM{p0 p1 p2:Prop}{G:Prop}(h:p0/\p1/\p2)(k:p0->p1->p2->G):G:=k h.1 h.2.1 h.2.2
theorem af{α0:Sort _}{p1 p2:α0->Prop}{G:Prop}(h:∃ x0,p1 x0/\p2 x0)(k:∀ x0,p1 x0->p2 x0->G):G:=h.elim fun x0 h0_=>k x0 h0_.1 h0_.2
theorem gk{α0 α1:Sort _}{p2:α0->α1->Prop}{G:Prop}(h:∃ x0 x1,p2 x0 x1)(k:∀ x0 x1,p2 x0 x1->G):G:=h.elim fun x0 h0_=>h0_.elim fun x1 h1_=>k x0 x1 h1_
theorem bK{p0 p1 p2 p3:Prop}{G:Prop}(h:p0/\p1/\p2/\p3)(k:p0->p1->p2->p3->G):G:=k h.1 h.2.1 h.2.2.1 h.2.2.2
theorem oy.{u2} {p0:Prop} {p1:Prop} {α2:Sort u2} {p3:α2->Prop} {G:Prop} (h:p0/\p1/\∃ x2:α2,p3 x2) (k:p0->p1->∀ x2:α2,p3 x2->G):G:=h.2.2.elim fun x2 h2_=>k h.1 h.2.1 x2 h2_
theorem cC.{u1} {p0:Prop} {α1:Sort u1} {p2:α1->Prop} {p3:α1->Prop} {G:Prop} (h:p0/\∃ x1:α1,p2 x1/\p3 x1) (k:p0->∀ x1:α1,p2 x1->p3 x1->G):G:=h.2.elim fun x1 h1_=>k h.1 x1 h1_.1 h1_.2
theorem az{α0:Sort _}{p1 p2 p3:α0->Prop}{G:Prop}(h:∃ x0,p1 x0/\p2 x0/\p3 x0)(k:∀ x0,p1 x0->p2 x0->p3 x0->G):G:=h.elim fun x0 h0_=>k x0 h0_.1 h0_.2.1 h0_.2.2
theorem aI{α0 α1:Sort _}{p2 p3:α0->α1->Prop}{G:Prop}(h:∃ x0 x1,p2 x0 x1/\p3 x0 x1)(k:∀ x0 x1,p2 x0 x1->p3 x0 x1->G):G:=h.elim fun x0 h0_=>h0_.elim fun x1 h1_=>k x0 x1 h1_.1 h1_.2
theorem fY{α0 α1 α2:Sort _}{p3:α0->α1->α2->Prop}{G:Prop}(h:∃ x0 x1 x2,p3 x0 x1 x2)(k:∀ x0 x1 x2,p3 x0 x1 x2->G):G:=h.elim fun x0 h0_=>h0_.elim fun x1 h1_=>h1_.elim fun x2 h2_=>k x0 x1 x2 h2_
theorem dz{p0 p1 p2 p3 p4:Prop}{G:Prop}(h:p0/\p1/\p2/\p3/\p4)(k:p0->p1->p2->p3->p4->G):G:=k h.1 h.2.1 h.2.2.1 h.2.2.2.1 h.2.2.2.2
theorem aS{α0:Sort _}{p1 p2 p3 p4:α0->Prop}{G:Prop}(h:∃ x0,p1 x0/\p2 x0/\p3 x0/\p4 x0)(k:∀ x0,p1 x0->p2 x0->p3 x0->p4 x0->G):G:=h.elim fun x0 h0_=>k x0 h0_.1 h0_.2.1 h0_.2.2.1 h0_.2.2.2
theorem ai{α0 α1:Sort _}{p2 p3 p4:α0->α1->Prop}{G:Prop}(h:∃ x0 x1,p2 x0 x1/\p3 x0 x1/\p4 x0 x1)(k:∀ x0 x1,p2 x0 x1->p3 x0 x1->p4 x0 x1->G):G:=h.elim fun x0 h0_=>h0_.elim fun x1 h1_=>k x0 x1 h1_.1 h1_.2.1 h1_.2.2
theorem aU{α0 α1 α2:Sort _}{p3 p4:α0->α1->α2->Prop}{G:Prop}(h:∃ x0 x1 x2,p3 x0 x1 x2/\p4 x0 x1 x2)(k:∀ x0 x1 x2,p3 x0 x1 x2->p4 x0 x1 x2->G):G:=h.elim fun x0 h0_=>h0_.elim fun x1 h1_=>h1_.elim fun x2 h2_=>k x0 x1 x2 h2_.1 h2_.2
theorem rX{α0 α1 α2 α3:Sort _}{p4:α0->α1->α2->α3->Prop}{G:Prop}(h:∃ x0 x1 x2 x3,p4 x0 x1 x2 x3)(k:∀ x0 x1 x2 x3,p4 x0 x1 x2 x3->G):G:=h.elim fun x0 h0_=>h0_.elim fun x1 h1_=>h1_.elim fun x2 h2_=>h2_.elim fun x3 h3_=>k x0 x1 x2 x3 h3_
theorem cG.{u2,u3} {p0:Prop} {p1:Prop} {α2:Sort u2} {α3:Sort u3} {p4:α2->α3->Prop} {p5:α2->α3->Prop} {G:Prop} (h:p0/\p1/\∃ x2:α2,∃ x3:α3,p4 x2 x3/\p5 x2 x3) (k:p0->p1->∀ x2:α2,∀ x3:α3,p4 x2 x3->p5 x2 x3->G):G:=h.2.2.elim fun x2 h2_=>h2_.elim fun x3 h3_=>k h.1 h.2.1 x2 x3 h3_.1 h3_.2
theorem py{α0:Sort _}{p1 p2 p3 p4 p5:α0->Prop}{G:Prop}(h:∃ x0,p1 x0/\p2 x0/\p3 x0/\p4 x0/\p5 x0)(k:∀ x0,p1 x0->p2 x0->p3 x0->p4 x0->p5 x0->G):G:=h.elim fun x0 h0_=>k x0 h0_.1 h0_.2.1 h0_.2.2.1 h0_.2.2.2.1 h0_.2.2.2.2
theorem bM{α0 α1:Sort _}{p2 p3 p4 p5:α0->α1->Prop}{G:Prop}(h:∃ x0 x1,p2 x0 x1/\p3 x0 x1/\p4 x0 x1/\p5 x0 x1)(k:∀ x0 x1,p2 x0 x1->p3 x0 x1->p4 x0 x1->p5 x0 x1->G):G:=h.elim fun x0 h0_=>h0_.elim fun x1 h1_=>k x0 x1 h1_.1 h1_.2.1 h1_.2.2.1 h1_.2.2.2
theorem ar{α0 α1 α2:Sort _}{p3 p4 p5:α0->α1->α2->Prop}{G:Prop}(h:∃ x0 x1 x2,p3 x0 x1 x2/\p4 x0 x1 x2/\p5 x0 x1 x2)(k:∀ x0 x1 x2,p3 x0 x1 x2->p4 x0 x1 x2->p5 x0 x1 x2->G):G:=h.elim fun x0 h0_=>h0_.elim fun x1 h1_=>h1_.elim fun x2 h2_=>k x0 x1 x2 h2_.1 h2_.2.1 h2_.2.2
theorem dA{α0 α1 α2 α3:Sort _}{p4 p5:α0->α1->α2->α3->Prop}{G:Prop}(h:∃ x0 x1 x2 x3,p4 x0 x1 x2 x3/\p5 x0 x1 x2 x3)(k:∀ x0 x1 x2 x3,p4 x0 x1 x2 x3->p5 x0 x1 x2 x3->G):G:=h.elim fun x0 h0_=>h0_.elim fun x1 h1_=>h1_.elim fun x2 h2_=>h2_.elim fun x3 h3_=>k x0 x1 x2 x3 h3_.1 h3_.2
theorem na{p0 p1 p2 p3 p4 p5 p6:Prop}{G:Prop}(h:p0/\p1/\p2/\p3/\p4/\p5/\p6)(k:p0->p1->p2->p3->p4->p5->p6->G):G:=k h.1 h.2.1 h.2.2.1 h.2.2.2.1 h.2.2.2.2.1 h.2.2.2.2.2.1 h.2.2.2.2.2.2
theorem nc{α0:Sort _}{p1 p2 p3 p4 p5 p6:α0->Prop}{G:Prop}(h:∃ x0,p1 x0/\p2 x0/\p3 x0/\p4 x0/\p5 x0/\p6 x0)(k:∀ x0,p1 x0->p2 x0->p3 x0->p4 x0->p5 x0->p6 x0->G):G:=h.elim fun x0 h0_=>k x0 h0_.1 h0_.2.1 h0_.2.2.1 h0_.2.2.2.1 h0_.2.2.2.2.1 h0_.2.2.2.2.2
theorem aV{α0 α1:Sort _}{p2 p3 p4 p5 p6:α0->α1->Prop}{G:Prop}(h:∃ x0 x1,p2 x0 x1/\p3 x0 x1/\p4 x0 x1/\p5 x0 x1/\p6 x0 x1)(k:∀ x0 x1,p2 x0 x1->p3 x0 x1->p4 x0 x1->p5 x0 x1->p6 x0 x1->G):G:=h.elim fun x0 h0_=>h0_.elim fun x1 h1_=>k x0 x1 h1_.1 h1_.2.1 h1_.2.2.1 h1_.2.2.2.1 h1_.2.2.2.2
theorem aK{α0 α1 α2:Sort _}{p3 p4 p5 p6:α0->α1->α2->Prop}{G:Prop}(h:∃ x0 x1 x2,p3 x0 x1 x2/\p4 x0 x1 x2/\p5 x0 x1 x2/\p6 x0 x1 x2)(k:∀ x0 x1 x2,p3 x0 x1 x2->p4 x0 x1 x2->p5 x0 x1 x2->p6 x0 x1 x2->G):G:=h.elim fun x0 h0_=>h0_.elim fun x1 h1_=>h1_.elim fun x2 h2_=>k x0 x1 x2 h2_.1 h2_.2.1 h2_.2.2.1 h2_.2.2.2
theorem bZ{α0 α1 α2 α3:Sort _}{p4 p5 p6 p7:α0->α1->α2->α3->Prop}{G:Prop}(h:∃ x0 x1 x2 x3,p4 x0 x1 x2 x3/\p5 x0 x1 x2 x3/\p6 x0 x1 x2 x3/\p7 x0 x1 x2 x3)(k:∀ x0 x1 x2 x3,p4 x0 x1 x2 x3->p5 x0 x1 x2 x3->p6 x0 x1 x2 x3->p7 x0 x1 x2 x3->G):G:=h.elim fun x0 h0_=>h0_.elim fun x1 h1_=>h1_.elim fun x2 h2_=>h2_.elim fun x3 h3_=>k x0 x1 x2 x3 h3_.1 h3_.2.1 h3_.2.2.1 h3_.2.2.2
theorem lT{α0 α1 α2 α3 α4:Sort _}{p5 p6 p7:α0->α1->α2->α3->α4->Prop}{G:Prop}(h:∃ x0 x1 x2 x3 x4,p5 x0 x1 x2 x3 x4/\p6 x0 x1 x2 x3 x4/\p7 x0 x1 x2 x3 x4)(k:∀ x0 x1 x2 x3 x4,p5 x0 x1 x2 x3 x4->p6 x0 x1 x2 x3 x4->p7 x0 x1 x2 x3 x4->G):G:=h.elim fun x0 h0_=>h0_.elim fun x1 h1_=>h1_.elim fun x2 h2_=>h2_.elim fun x3 h3_=>h3_.elim fun x4 h4_=>k x0 x1 x2 x3 x4 h4_.1 h4_.2.1 h4_.2.2
theorem b6{α0 α1 α2:Sort _}{p3 p4 p5 p6 p7 p8:α0->α1->α2->Prop}{G:Prop}(h:∃ x0 x1 x2,p3 x0 x1 x2/\p4 x0 x1 x2/\p5 x0 x1 x2/\p6 x0 x1 x2/\p7 x0 x1 x2/\p8 x0 x1 x2)(k:∀ x0 x1 x2,p3 x0 x1 x2->p4 x0 x1 x2->p5 x0 x1 x2->p6 x0 x1 x2->p7 x0 x1 x2->p8 x0 x1 x2->G):G:=h.elim fun x0 h0_=>h0_.elim fun x1 h1_=>h1_.elim fun x2 h2_=>k x0 x1 x2 h2_.1 h2_.2.1 h2_.2.2.1 h2_.2.2.2.1 h2_.2.2.2.2.1 h2_.2.2.2.2.2
theorem kC{α0 α1 α2 α3 α4:Sort _}{p5 p6 p7 p8:α0->α1->α2->α3->α4->Prop}{G:Prop}(h:∃ x0 x1 x2 x3 x4,p5 x0 x1 x2 x3 x4/\p6 x0 x1 x2 x3 x4/\p7 x0 x1 x2 x3 x4/\p8 x0 x1 x2 x3 x4)(k:∀ x0 x1 x2 x3 x4,p5 x0 x1 x2 x3 x4->p6 x0 x1 x2 x3 x4->p7 x0 x1 x2 x3 x4->p8 x0 x1 x2 x3 x4->G):G:=h.elim fun x0 h0_=>h0_.elim fun x1 h1_=>h1_.elim fun x2 h2_=>h2_.elim fun x3 h3_=>h3_.elim fun x4 h4_=>k x0 x1 x2 x3 x4 h4_.1 h4_.2.1 h4_.2.2.1 h4_.2.2.2
theorem iQ.{u0,u3} {α0:Sort u0} {p1:α0->Prop} {p2:α0->Prop} {α3:Sort u3} {p4:α0->α3->Prop} {p5:α0->α3->Prop} {p6:α0->α3->Prop} {p7:α0->α3->Prop} {p8:α0->α3->Prop} {p9:α0->α3->Prop} {G:Prop} (h:∃ x0:α0,p1 x0/\p2 x0/\∃ x3:α3,p4 x0 x3/\p5 x0 x3/\p6 x0 x3/\p7 x0 x3/\p8 x0 x3/\p9 x0 x3) (k:∀ x0:α0,p1 x0->p2 x0->∀ x3:α3,p4 x0 x3->p5 x0 x3->p6 x0 x3->p7 x0 x3->p8 x0 x3->p9 x0 x3->G):G:=h.elim fun x0 h0_=>h0_.2.2.elim fun x3 h3_=>k x0 h0_.1 h0_.2.1 x3 h3_.1 h3_.2.1 h3_.2.2.1 h3_.2.2.2.1 h3_.2.2.2.2.1 h3_.2.2.2.2.2
theorem cN{α0 α1 α2 α3:Sort _}{p4 p5 p6 p7 p8 p9:α0->α1->α2->α3->Prop}{G:Prop}(h:∃ x0 x1 x2 x3,p4 x0 x1 x2 x3/\p5 x0 x1 x2 x3/\p6 x0 x1 x2 x3/\p7 x0 x1 x2 x3/\p8 x0 x1 x2 x3/\p9 x0 x1 x2 x3)(k:∀ x0 x1 x2 x3,p4 x0 x1 x2 x3->p5 x0 x1 x2 x3->p6 x0 x1 x2 x3->p7 x0 x1 x2 x3->p8 x0 x1 x2 x3->p9 x0 x1 x2 x3->G):G:=h.elim fun x0 h0_=>h0_.elim fun x1 h1_=>h1_.elim fun x2 h2_=>h2_.elim fun x3 h3_=>k x0 x1 x2 x3 h3_.1 h3_.2.1 h3_.2.2.1 h3_.2.2.2.1 h3_.2.2.2.2.1 h3_.2.2.2.2.2
theorem gE{α0 α1 α2 α3 α4 α5 α6:Sort _}{p7 p8 p9 p10 p11:α0->α1->α2->α3->α4->α5->α6->Prop}{G:Prop}(h:∃ x0 x1 x2 x3 x4 x5 x6,p7 x0 x1 x2 x3 x4 x5 x6/\p8 x0 x1 x2 x3 x4 x5 x6/\p9 x0 x1 x2 x3 x4 x5 x6/\p10 x0 x1 x2 x3 x4 x5 x6/\p11 x0 x1 x2 x3 x4 x5 x6)(k:∀ x0 x1 x2 x3 x4 x5 x6,p7 x0 x1 x2 x3 x4 x5 x6->p8 x0 x1 x2 x3 x4 x5 x6->p9 x0 x1 x2 x3 x4 x5 x6->p10 x0 x1 x2 x3 x4 x5 x6->p11 x0 x1 x2 x3 x4 x5 x6->G):G:=h.elim fun x0 h0_=>h0_.elim fun x1 h1_=>h1_.elim fun x2 h2_=>h2_.elim fun x3 h3_=>h3_.elim fun x4 h4_=>h4_.elim fun x5 h5_=>h5_.elim fun x6 h6_=>k x0 x1 x2 x3 x4 x5 x6 h6_.1 h6_.2.1 h6_.2.2.1 h6_.2.2.2.1 h6_.2.2.2.2
theorem fZ{α0 α1 α2 α3 α4:Sort _}{p5 p6 p7 p8 p9 p10 p11 p12 p13:α0->α1->α2->α3->α4->Prop}{G:Prop}(h:∃ x0 x1 x2 x3 x4,p5 x0 x1 x2 x3 x4/\p6 x0 x1 x2 x3 x4/\p7 x0 x1 x2 x3 x4/\p8 x0 x1 x2 x3 x4/\p9 x0 x1 x2 x3 x4/\p10 x0 x1 x2 x3 x4/\p11 x0 x1 x2 x3 x4/\p12 x0 x1 x2 x3 x4/\p13 x0 x1 x2 x3 x4)(k:∀ x0 x1 x2 x3 x4,p5 x0 x1 x2 x3 x4->p6 x0 x1 x2 x3 x4->p7 x0 x1 x2 x3 x4->p8 x0 x1 x2 x3 x4->p9 x0 x1 x2 x3 x4->p10 x0 x1 x2 x3 x4->p11 x0 x1 x2 x3 x4->p12 x0 x1 x2 x3 x4->p13 x0 x1 x2 x3 x4->G):G:=h.elim fun x0 h0_=>h0_.elim fun x1 h1_=>h1_.elim fun x2 h2_=>h2_.elim fun x3 h3_=>h3_.elim fun x4 h4_=>k x0 x1 x2 x3 x4 h4_.1 h4_.2.1 h4_.2.2.1 h4_.2.2.2.1 h4_.2.2.2.2.1 h4_.2.2.2.2.2.1 h4_.2.2.2.2.2.2.1 h4_.2.2.2.2.2.2.2.1 h4_.2.2.2.2.2.2.2.2
theorem aN{α0 α1 α2 α3 α4 α5 α6 α7 α8 α9 α10 α11 α12 α13:Sort _}{p14:α0->α1->α2->α3->α4->α5->α6->α7->α8->α9->α10->α11->α12->α13->Prop}{G:Prop}(h:∃ x0 x1 x2 x3 x4 x5 x6 x7 x8 x9 x10 x11 x12 x13,p14 x0 x1 x2 x3 x4 x5 x6 x7 x8 x9 x10 x11 x12 x13)(k:∀ x0 x1 x2 x3 x4 x5 x6 x7 x8 x9 x10 x11 x12 x13,p14 x0 x1 x2 x3 x4 x5 x6 x7 x8 x9 x10 x11 x12 x13->G):G:=h.elim fun x0 h0_=>h0_.elim fun x1 h1_=>h1_.elim fun x2 h2_=>h2_.elim fun x3 h3_=>h3_.elim fun x4 h4_=>h4_.elim fun x5 h5_=>h5_.elim fun x6 h6_=>h6_.elim fun x7 h7_=>h7_.elim fun x8 h8_=>h8_.elim fun x9 h9_=>h9_.elim fun x10 h10_=>h10_.elim fun x11 h11_=>h11_.elim fun x12 h12_=>h12_.elim fun x13 h13_=>k x0 x1 x2 x3 x4 x5 x6 x7 x8 x9 x10 x11 x12 x13 h13_
theorem wl{α:Type}{a:α}{l:List α}{p:Prop}(h:[]=a::l):p:=nomatch h
theorem yz{p:Prop}(h:true=false):p:=nomatch h
theorem gw{p:Prop}(h:false=true):p:=nomatch h
@[elab_as_elim] theorem ac{α:Sort u}{a b:α}{p:α->Prop}(h:a=b)(m:p b):p a:=h▸m
@[elab_as_elim] theorem bo{α:Sort u}{a b:α}{p:α->Prop}(h:b=a)(m:p b):p a:=h▸m
theorem ao{p0:Prop}{p1:Prop}{p2:Prop}(h0:p0)(h1:p1)(h2:p2):p0/\p1/\p2:=⟨h0,h1,h2⟩
theorem ag.{u0} {α0:Sort u0} {p1:α0->Prop} {p2:α0->Prop} (x0:α0) (h1:p1 x0) (h2:p2 x0):∃ x0:α0,p1 x0/\p2 x0:=⟨x0,h1,h2⟩
theorem eY.{u0,u1} {α0:Sort u0} {α1:Sort u1} {p2:α0->α1->Prop} (x0:α0) (x1:α1) (h2:p2 x0 x1):∃ x0:α0,∃ x1:α1,p2 x0 x1:=⟨x0,x1,h2⟩
theorem bY{p0:Prop}{p1:Prop}{p2:Prop}{p3:Prop}(h0:p0)(h1:p1)(h2:p2)(h3:p3):p0/\p1/\p2/\p3:=⟨h0,h1,h2,h3⟩
theorem aH.{u0} {α0:Sort u0} {p1:α0->Prop} {p2:α0->Prop} {p3:α0->Prop} (x0:α0) (h1:p1 x0) (h2:p2 x0) (h3:p3 x0):∃ x0:α0,p1 x0/\p2 x0/\p3 x0:=⟨x0,h1,h2,h3⟩
theorem aw.{u0,u1} {α0:Sort u0} {α1:Sort u1} {p2:α0->α1->Prop} {p3:α0->α1->Prop} (x0:α0) (x1:α1) (h2:p2 x0 x1) (h3:p3 x0 x1):∃ x0:α0,∃ x1:α1,p2 x0 x1/\p3 x0 x1:=⟨x0,x1,h2,h3⟩
theorem oz.{u0,u1,u2} {α0:Sort u0} {α1:Sort u1} {α2:Sort u2} {p3:α0->α1->α2->Prop} (x0:α0) (x1:α1) (x2:α2) (h3:p3 x0 x1 x2):∃ x0:α0,∃ x1:α1,∃ x2:α2,p3 x0 x1 x2:=⟨x0,x1,x2,h3⟩
theorem lU{p0:Prop}{p1:Prop}{p2:Prop}{p3:Prop}{p4:Prop}(h0:p0)(h1:p1)(h2:p2)(h3:p3)(h4:p4):p0/\p1/\p2/\p3/\p4:=⟨h0,h1,h2,h3,h4⟩
theorem bR.{u0} {α0:Sort u0} {p1:α0->Prop} {p2:α0->Prop} {p3:α0->Prop} {p4:α0->Prop} (x0:α0) (h1:p1 x0) (h2:p2 x0) (h3:p3 x0) (h4:p4 x0):∃ x0:α0,p1 x0/\p2 x0/\p3 x0/\p4 x0:=⟨x0,h1,h2,h3,h4⟩
theorem ax.{u0,u1} {α0:Sort u0} {α1:Sort u1} {p2:α0->α1->Prop} {p3:α0->α1->Prop} {p4:α0->α1->Prop} (x0:α0) (x1:α1) (h2:p2 x0 x1) (h3:p3 x0 x1) (h4:p4 x0 x1):∃ x0:α0,∃ x1:α1,p2 x0 x1/\p3 x0 x1/\p4 x0 x1:=⟨x0,x1,h2,h3,h4⟩
theorem aD.{u0,u1,u2} {α0:Sort u0} {α1:Sort u1} {α2:Sort u2} {p3:α0->α1->α2->Prop} {p4:α0->α1->α2->Prop} (x0:α0) (x1:α1) (x2:α2) (h3:p3 x0 x1 x2) (h4:p4 x0 x1 x2):∃ x0:α0,∃ x1:α1,∃ x2:α2,p3 x0 x1 x2/\p4 x0 x1 x2:=⟨x0,x1,x2,h3,h4⟩
theorem rY.{u0,u1,u2,u3} {α0:Sort u0} {α1:Sort u1} {α2:Sort u2} {α3:Sort u3} {p4:α0->α1->α2->α3->Prop} (x0:α0) (x1:α1) (x2:α2) (x3:α3) (h4:p4 x0 x1 x2 x3):∃ x0:α0,∃ x1:α1,∃ x2:α2,∃ x3:α3,p4 x0 x1 x2 x3:=⟨x0,x1,x2,x3,h4⟩
theorem pz.{u0} {α0:Sort u0} {p1:α0->Prop} {p2:α0->Prop} {p3:α0->Prop} {p4:α0->Prop} {p5:α0->Prop} (x0:α0) (h1:p1 x0) (h2:p2 x0) (h3:p3 x0) (h4:p4 x0) (h5:p5 x0):∃ x0:α0,p1 x0/\p2 x0/\p3 x0/\p4 x0/\p5 x0:=⟨x0,h1,h2,h3,h4,h5⟩
theorem cH.{u0,u1} {α0:Sort u0} {α1:Sort u1} {p2:α0->α1->Prop} {p3:α0->α1->Prop} {p4:α0->α1->Prop} {p5:α0->α1->Prop} (x0:α0) (x1:α1) (h2:p2 x0 x1) (h3:p3 x0 x1) (h4:p4 x0 x1) (h5:p5 x0 x1):∃ x0:α0,∃ x1:α1,p2 x0 x1/\p3 x0 x1/\p4 x0 x1/\p5 x0 x1:=⟨x0,x1,h2,h3,h4,h5⟩
theorem aY.{u0,u1,u2} {α0:Sort u0} {α1:Sort u1} {α2:Sort u2} {p3:α0->α1->α2->Prop} {p4:α0->α1->α2->Prop} {p5:α0->α1->α2->Prop} (x0:α0) (x1:α1) (x2:α2) (h3:p3 x0 x1 x2) (h4:p4 x0 x1 x2) (h5:p5 x0 x1 x2):∃ x0:α0,∃ x1:α1,∃ x2:α2,p3 x0 x1 x2/\p4 x0 x1 x2/\p5 x0 x1 x2:=⟨x0,x1,x2,h3,h4,h5⟩
theorem pA.{u0,u1,u2,u3} {α0:Sort u0} {α1:Sort u1} {α2:Sort u2} {α3:Sort u3} {p4:α0->α1->α2->α3->Prop} {p5:α0->α1->α2->α3->Prop} (x0:α0) (x1:α1) (x2:α2) (x3:α3) (h4:p4 x0 x1 x2 x3) (h5:p5 x0 x1 x2 x3):∃ x0:α0,∃ x1:α1,∃ x2:α2,∃ x3:α3,p4 x0 x1 x2 x3/\p5 x0 x1 x2 x3:=⟨x0,x1,x2,x3,h4,h5⟩
theorem nf{p0:Prop}{p1:Prop}{p2:Prop}{p3:Prop}{p4:Prop}{p5:Prop}{p6:Prop}(h0:p0)(h1:p1)(h2:p2)(h3:p3)(h4:p4)(h5:p5)(h6:p6):p0/\p1/\p2/\p3/\p4/\p5/\p6:=⟨h0,h1,h2,h3,h4,h5,h6⟩
theorem ng.{u0} {α0:Sort u0} {p1:α0->Prop} {p2:α0->Prop} {p3:α0->Prop} {p4:α0->Prop} {p5:α0->Prop} {p6:α0->Prop} (x0:α0) (h1:p1 x0) (h2:p2 x0) (h3:p3 x0) (h4:p4 x0) (h5:p5 x0) (h6:p6 x0):∃ x0:α0,p1 x0/\p2 x0/\p3 x0/\p4 x0/\p5 x0/\p6 x0:=⟨x0,h1,h2,h3,h4,h5,h6⟩
theorem cJ.{u0,u1} {α0:Sort u0} {α1:Sort u1} {p2:α0->α1->Prop} {p3:α0->α1->Prop} {p4:α0->α1->Prop} {p5:α0->α1->Prop} {p6:α0->α1->Prop} (x0:α0) (x1:α1) (h2:p2 x0 x1) (h3:p3 x0 x1) (h4:p4 x0 x1) (h5:p5 x0 x1) (h6:p6 x0 x1):∃ x0:α0,∃ x1:α1,p2 x0 x1/\p3 x0 x1/\p4 x0 x1/\p5 x0 x1/\p6 x0 x1:=⟨x0,x1,h2,h3,h4,h5,h6⟩
theorem ck.{u0,u1,u2} {α0:Sort u0} {α1:Sort u1} {α2:Sort u2} {p3:α0->α1->α2->Prop} {p4:α0->α1->α2->Prop} {p5:α0->α1->α2->Prop} {p6:α0->α1->α2->Prop} (x0:α0) (x1:α1) (x2:α2) (h3:p3 x0 x1 x2) (h4:p4 x0 x1 x2) (h5:p5 x0 x1 x2) (h6:p6 x0 x1 x2):∃ x0:α0,∃ x1:α1,∃ x2:α2,p3 x0 x1 x2/\p4 x0 x1 x2/\p5 x0 x1 x2/\p6 x0 x1 x2:=⟨x0,x1,x2,h3,h4,h5,h6⟩
theorem nh.{u0,u1,u2,u3} {α0:Sort u0} {α1:Sort u1} {α2:Sort u2} {α3:Sort u3} {p4:α0->α1->α2->α3->Prop} {p5:α0->α1->α2->α3->Prop} {p6:α0->α1->α2->α3->Prop} (x0:α0) (x1:α1) (x2:α2) (x3:α3) (h4:p4 x0 x1 x2 x3) (h5:p5 x0 x1 x2 x3) (h6:p6 x0 x1 x2 x3):∃ x0:α0,∃ x1:α1,∃ x2:α2,∃ x3:α3,p4 x0 x1 x2 x3/\p5 x0 x1 x2 x3/\p6 x0 x1 x2 x3:=⟨x0,x1,x2,x3,h4,h5,h6⟩
theorem lV.{u0,u1} {α0:Sort u0} {α1:Sort u1} {p2:α0->α1->Prop} {p3:α0->α1->Prop} {p4:α0->α1->Prop} {p5:α0->α1->Prop} {p6:α0->α1->Prop} {p7:α0->α1->Prop} (x0:α0) (x1:α1) (h2:p2 x0 x1) (h3:p3 x0 x1) (h4:p4 x0 x1) (h5:p5 x0 x1) (h6:p6 x0 x1) (h7:p7 x0 x1):∃ x0:α0,∃ x1:α1,p2 x0 x1/\p3 x0 x1/\p4 x0 x1/\p5 x0 x1/\p6 x0 x1/\p7 x0 x1:=⟨x0,x1,h2,h3,h4,h5,h6,h7⟩
theorem cQ.{u0,u1,u2} {α0:Sort u0} {α1:Sort u1} {α2:Sort u2} {p3:α0->α1->α2->Prop} {p4:α0->α1->α2->Prop} {p5:α0->α1->α2->Prop} {p6:α0->α1->α2->Prop} {p7:α0->α1->α2->Prop} (x0:α0) (x1:α1) (x2:α2) (h3:p3 x0 x1 x2) (h4:p4 x0 x1 x2) (h5:p5 x0 x1 x2) (h6:p6 x0 x1 x2) (h7:p7 x0 x1 x2):∃ x0:α0,∃ x1:α1,∃ x2:α2,p3 x0 x1 x2/\p4 x0 x1 x2/\p5 x0 x1 x2/\p6 x0 x1 x2/\p7 x0 x1 x2:=⟨x0,x1,x2,h3,h4,h5,h6,h7⟩
theorem cu.{u0,u1,u2,u3} {α0:Sort u0} {α1:Sort u1} {α2:Sort u2} {α3:Sort u3} {p4:α0->α1->α2->α3->Prop} {p5:α0->α1->α2->α3->Prop} {p6:α0->α1->α2->α3->Prop} {p7:α0->α1->α2->α3->Prop} (x0:α0) (x1:α1) (x2:α2) (x3:α3) (h4:p4 x0 x1 x2 x3) (h5:p5 x0 x1 x2 x3) (h6:p6 x0 x1 x2 x3) (h7:p7 x0 x1 x2 x3):∃ x0:α0,∃ x1:α1,∃ x2:α2,∃ x3:α3,p4 x0 x1 x2 x3/\p5 x0 x1 x2 x3/\p6 x0 x1 x2 x3/\p7 x0 x1 x2 x3:=⟨x0,x1,x2,x3,h4,h5,h6,h7⟩
theorem cZ.{u0,u1,u2} {α0:Sort u0} {α1:Sort u1} {α2:Sort u2} {p3:α0->α1->α2->Prop} {p4:α0->α1->α2->Prop} {p5:α0->α1->α2->Prop} {p6:α0->α1->α2->Prop} {p7:α0->α1->α2->Prop} {p8:α0->α1->α2->Prop} (x0:α0) (x1:α1) (x2:α2) (h3:p3 x0 x1 x2) (h4:p4 x0 x1 x2) (h5:p5 x0 x1 x2) (h6:p6 x0 x1 x2) (h7:p7 x0 x1 x2) (h8:p8 x0 x1 x2):∃ x0:α0,∃ x1:α1,∃ x2:α2,p3 x0 x1 x2/\p4 x0 x1 x2/\p5 x0 x1 x2/\p6 x0 x1 x2/\p7 x0 x1 x2/\p8 x0 x1 x2:=⟨x0,x1,x2,h3,h4,h5,h6,h7,h8⟩
theorem kD.{u0,u1,u2,u3,u4} {α0:Sort u0} {α1:Sort u1} {α2:Sort u2} {α3:Sort u3} {α4:Sort u4} {p5:α0->α1->α2->α3->α4->Prop} {p6:α0->α1->α2->α3->α4->Prop} {p7:α0->α1->α2->α3->α4->Prop} {p8:α0->α1->α2->α3->α4->Prop} (x0:α0) (x1:α1) (x2:α2) (x3:α3) (x4:α4) (h5:p5 x0 x1 x2 x3 x4) (h6:p6 x0 x1 x2 x3 x4) (h7:p7 x0 x1 x2 x3 x4) (h8:p8 x0 x1 x2 x3 x4):∃ x0:α0,∃ x1:α1,∃ x2:α2,∃ x3:α3,∃ x4:α4,p5 x0 x1 x2 x3 x4/\p6 x0 x1 x2 x3 x4/\p7 x0 x1 x2 x3 x4/\p8 x0 x1 x2 x3 x4:=⟨x0,x1,x2,x3,x4,h5,h6,h7,h8⟩
theorem iR.{u0,u1} {α0:Sort u0} {α1:Sort u1} {p2:α0->α1->Prop} {p3:α0->α1->Prop} {p4:α0->α1->Prop} {p5:α0->α1->Prop} {p6:α0->α1->Prop} {p7:α0->α1->Prop} {p8:α0->α1->Prop} {p9:α0->α1->Prop} (x0:α0) (x1:α1) (h2:p2 x0 x1) (h3:p3 x0 x1) (h4:p4 x0 x1) (h5:p5 x0 x1) (h6:p6 x0 x1) (h7:p7 x0 x1) (h8:p8 x0 x1) (h9:p9 x0 x1):∃ x0:α0,∃ x1:α1,p2 x0 x1/\p3 x0 x1/\p4 x0 x1/\p5 x0 x1/\p6 x0 x1/\p7 x0 x1/\p8 x0 x1/\p9 x0 x1:=⟨x0,x1,h2,h3,h4,h5,h6,h7,h8,h9⟩
theorem eL.{u0,u1,u2} {α0:Sort u0} {α1:Sort u1} {α2:Sort u2} {p3:α0->α1->α2->Prop} {p4:α0->α1->α2->Prop} {p5:α0->α1->α2->Prop} {p6:α0->α1->α2->Prop} {p7:α0->α1->α2->Prop} {p8:α0->α1->α2->Prop} {p9:α0->α1->α2->Prop} (x0:α0) (x1:α1) (x2:α2) (h3:p3 x0 x1 x2) (h4:p4 x0 x1 x2) (h5:p5 x0 x1 x2) (h6:p6 x0 x1 x2) (h7:p7 x0 x1 x2) (h8:p8 x0 x1 x2) (h9:p9 x0 x1 x2):∃ x0:α0,∃ x1:α1,∃ x2:α2,p3 x0 x1 x2/\p4 x0 x1 x2/\p5 x0 x1 x2/\p6 x0 x1 x2/\p7 x0 x1 x2/\p8 x0 x1 x2/\p9 x0 x1 x2:=⟨x0,x1,x2,h3,h4,h5,h6,h7,h8,h9⟩
theorem iS.{u0,u1,u2,u3} {α0:Sort u0} {α1:Sort u1} {α2:Sort u2} {α3:Sort u3} {p4:α0->α1->α2->α3->Prop} {p5:α0->α1->α2->α3->Prop} {p6:α0->α1->α2->α3->Prop} {p7:α0->α1->α2->α3->Prop} {p8:α0->α1->α2->α3->Prop} {p9:α0->α1->α2->α3->Prop} (x0:α0) (x1:α1) (x2:α2) (x3:α3) (h4:p4 x0 x1 x2 x3) (h5:p5 x0 x1 x2 x3) (h6:p6 x0 x1 x2 x3) (h7:p7 x0 x1 x2 x3) (h8:p8 x0 x1 x2 x3) (h9:p9 x0 x1 x2 x3):∃ x0:α0,∃ x1:α1,∃ x2:α2,∃ x3:α3,p4 x0 x1 x2 x3/\p5 x0 x1 x2 x3/\p6 x0 x1 x2 x3/\p7 x0 x1 x2 x3/\p8 x0 x1 x2 x3/\p9 x0 x1 x2 x3:=⟨x0,x1,x2,x3,h4,h5,h6,h7,h8,h9⟩
end Mine.Lake
end
section
open PySem PySem.W PySem.Calls PyProof.Rows
open PySem.Sem (wp)
namespace Mine.Lake
noncomputable def decIds:List String:=Builtin.Bytes.decodersThatHold++["bytearray.__contains__","bytearray.__mod__","bytearray.__rmod__","_struct.pack_into.held","bytearray.find.held"]
noncomputable def dec:Code->Bool
 | .builtin id _=>decIds.contains id
 | _=>false
def e7(Γ:Ctx):Prop:=dec Γ.code=false/\∀ x∈Γ.below,dec x.1=false
theorem e7.enter{Γ:Ctx}(h:e7 Γ)(c:Code)(hd:Option Value)(p:Pos)(hc:dec c=false):e7 (Γ.enter c hd p):=
 ⟨hc,fun x hx=>by
  rcases List.mem_cons.mp (show x∈(Γ.code,p)::Γ.below from hx) with rfl | hx
  ·exact h.1
  ·exact h.2 x hx⟩
theorem e7.goto{Γ:Ctx}(h:e7 Γ)(c:Code)(hc:dec c=false):e7 (Γ.goto c):=⟨hc,h.2⟩
def wpD{α:Type}(M:Model)(A:Around)(t:Sem α)(Q:α->Shared->Prop)(E:Value->Shared->Prop)(s:Shared):Prop:=
 ∀ Γ p,Γ.In A->e7 Γ->wp M Γ t (fun a U s'=>Q a s') (fun e U s'=>E e s') p s
def bk(M:Model)(A:Around)(c:Code)(R:Result->Shared->Prop)(s:Shared):Prop:=
 ∀ Γ p,Γ.code=c->Γ.Below A->e7 Γ->wpCode M Γ R p s
section
variable {α β:Type}{M:Model}{A:Around}{E:Value->Shared->Prop}{s:Shared}
theorem al{t:Sem α}{Q:α->Shared->Prop}(h:wpAny M A t Q E s):wpD M A t Q E s:=fun Γ p hΓ _=>h Γ p hΓ
theorem qj{c:Code}{R:Result->Shared->Prop}(h:codeAny M A c R s):bk M A c R s:=fun Γ p hc hΓ _=>h Γ p hc hΓ
theorem ah{a:α}{Q:α->Shared->Prop}(h:Q a s):wpD M A (pure a) Q E s:=fun U U U U=>h
theorem am{t:Sem α}{Q Q':α->Shared->Prop}{E':Value->Shared->Prop}(h:wpD M A t Q E s)
  (hQ:∀ a s,Q a s->Q' a s)(hE:∀ e s,E e s->E' e s):wpD M A t Q' E' s:=
 fun Γ p hΓ hn=>Sem.wp_mono M Γ t (fun a U s=>hQ a s) (fun e U s=>hE e s) p s (h Γ p hΓ hn)
theorem ae{m:Sem α}{f:α->Sem β}{Q:β->Shared->Prop}(h:wpD M A m (fun a s'=>wpD M A (f a) Q E s') E s) :
  wpD M A (m>>=f) Q E s:=fun Γ p hΓ hn=>by
 refine ac (Sem.wp_bind' ..) ?_;exact Sem.wp_mono M Γ m (fun a p' s' h'=>h' Γ p' hΓ hn) (fun U U U h'=>h') p s (h Γ p hΓ hn)
theorem bF{m:Sem α}{k:Value->Sem Unit}{Q:α->Shared->Prop}
  (h:wpD M A m Q (fun e s'=>wpD M A (k e) (fun U s''=>E e s'') E s') s):wpD M A (m.onRaise k) Q E s:=fun Γ p hΓ hn=>by
 refine ac (Sem.wp_onRaise ..) ?_;exact Sem.wp_mono M Γ m (fun U U U h'=>h') (fun e p' s' h'=>h' Γ p' hΓ hn) p s (h Γ p hΓ hn)
theorem d9{m:Sem α}{Q:Except Value α->Shared->Prop}(h:wpD M A m (fun a=>Q (.ok a)) (fun e=>Q (.error e)) s) :
  wpD M A m.attempt Q E s:=fun Γ p hΓ hn=>by refine ac (Sem.wp_attempt ..) ?_;exact h Γ p hΓ hn
theorem au{vs:List Value}{m:Sem α}{Q:α->Shared->Prop}(h:wpD M A m Q E s):wpD M A (holding vs m) Q E s:=
 fun Γ p hΓ hn=>by refine ac (Sem.wp_holding ..) ?_;exact h Γ p hΓ hn
theorem dy{tag:String}{Q:Unit->Shared->Prop}(h:Q () s):wpD M A (rule tag) Q E s:=fun U U U U=>h
theorem bq{pos:Pos}{Q:Unit->Shared->Prop}(h:Q () s):wpD M A (standAt pos) Q E s:=fun U U U U=>h
theorem dw{Q:Unit->Shared->Prop}(h:Q () s):wpD M A point Q E s:=fun U U U U=>h
theorem lL{vs keep:List Value}{Q:Unit->Shared->Prop}(h:Q () s):wpD M A (release vs keep) Q E s:=fun Γ p _ _=>by
 refine ac (Sem.wp_release ..) ?_;exact h
theorem d_{vs:List Value}{m:Sem Value}{Q:Value->Shared->Prop}(h:wpD M A m Q E s):wpD M A (operate vs m) Q E s:=fun Γ p hΓ hn=>by
 refine ac (Sem.wp_operate ..) ?_;exact h Γ p hΓ hn
theorem m8{t t':Sem α}{Q:α->Shared->Prop}(e:t=t')(h:wpD M A t' Q E s):wpD M A t Q E s:=e▸h
theorem oo{c:Code}{h:Option Value}{Q:Flow->Shared->Prop}
  (hc:bk M (A.mark h) c (fun r s'=>match r with | .ok f=>Q f s' | .error e=>E e s') s)(hd:dec c=false)(hnb:h≠some byPass) :
  wpD M A (run c h) Q E s:=
 fun Γ p hΓ hn=>by refine ac (Sem.wp_run ..) ?_;exact hc _ p rfl (hΓ.enter c h p hnb) (hn.enter c h p hd)
theorem ku{c:Code}{Q:Value->Shared->Prop}
  (hc:bk M A c (fun r s'=>match r with | .ok (.ret v)=>Q v s' | .ok _=>False | .error e=>E e s') s)(hd:dec c=false) :
  wpD M A (runValue c) Q E s:=fun Γ p hΓ hn=>by refine ac (Sem.wp_runValue ..) ?_;exact hc _ p rfl (hΓ.enter c none p (by intro x;injection x)) (hn.enter c none p hd)
theorem db{f:Value}{pos:List Value}{kw:List (Str×Value)}{Q:Value->Shared->Prop}
  (hc:bk M A (.call f ⟨pos,kw⟩) (fun r s'=>match r with | .ok (.ret v)=>Q v s' | .ok _=>False | .error e=>E e s') s) :
  wpD M A (call f pos kw) Q E s:=ku hc rfl
theorem codeD_mono{c:Code}{R R':Result->Shared->Prop}(h:bk M A c R s)(hR:∀ r s,R r s->R' r s):bk M A c R' s:=
 fun Γ p hc hΓ hn=>wpCode_mono hR (h Γ p hc hΓ hn)
theorem aT{c:Code}{R:Result->Shared->Prop}
   (h:wpD M (A.under c) (M.den c) (fun fin s'=>match fin with | .done f=>R (.ok f) s' | .again c'=>c'.quiet=true/\dec c'=false/\bk M A c' R s')
    (fun e s'=>R (.error e) s') s):bk M A c R s:=fun Γ p hc hΓ hn=>by
 rw [wpCode_iff_wp,hc];refine Sem.wp_mono M Γ _ (fun fin p' s' h'=>?_) (fun U U U h'=>h') p s (h Γ p (hc▸hΓ.in) hn);induction fin with
 | done f=>exact h'
 | again c'=>exact⟨h'.1,h'.2.2 (Γ.goto c') p' rfl (hΓ.goto c') (hn.goto c' h'.2.1)⟩
theorem fW{v:Value}{Q:Bool->Shared->Prop}(h:Q false s):wpD M A (Builtin.Bytes.exported v) Q E s:=fun Γ p hΓ hn=>by
 have key:∀ l:List (Code×Pos),(∀ x∈l,dec x.1=false)->(l.any fun
  | (.builtin "bytearray.__contains__" ⟨v'::_,_⟩,_) | (.builtin "bytearray.__mod__" ⟨v'::_,_⟩,_)
  | (.builtin "bytearray.__rmod__" ⟨_::v'::_,_⟩,_) | (.builtin "_struct.pack_into.held" ⟨v'::_,_⟩,_)=>Builtin.Bytes.sameRef v' v
  | (.builtin "bytearray.find.held" ⟨_::_::held,_⟩,_)=>held.any (Builtin.Bytes.sameRef v)
  | (.builtin id ⟨v'::_,_⟩,_)=>Builtin.Bytes.sameRef v' v&&Builtin.Bytes.decodersThatHold.contains id
  | _=>false)=false:=by
  intro l hl
  rw [List.any_eq_false]
  rintro ⟨c,q⟩ hx
  have hd:=hl _ hx
  induction c with
  | builtin id args=>
   obtain ⟨pos,kw⟩:=args
   have hc:decIds.contains id=false:=hd
   have ne:∀ x,decIds.contains x=true->¬ id=x:=fun x h z=>by subst z;rw [h] at hc;exact yz hc
   have h0:Builtin.Bytes.decodersThatHold.contains id=false:=by
    induction z:Builtin.Bytes.decodersThatHold.contains id with
    | false=>rfl
    | true=>
     refine absurd hc ?_;refine ac (Bool.not_eq_false ..) ?_;unfold decIds;rw [List.contains_iff_mem] at z ⊢;exact List.mem_append_left _ z
   have n1:=ne "bytearray.__contains__" (by decide +kernel)
   have n2:=ne "bytearray.__mod__" (by decide +kernel)
   have n3:=ne "bytearray.__rmod__" (by decide +kernel)
   have n4:=ne "_struct.pack_into.held" (by decide +kernel)
   have n5:=ne "bytearray.find.held" (by decide +kernel)
   delta fW.match_1
   dsimp only;show ¬ (dite (id="bytearray.__contains__") _ (fun U=>dite (id="bytearray.__mod__") _ fun U=>dite (id="bytearray.__rmod__") _ fun U=>dite (id="_struct.pack_into.held") _ fun U=>dite (id="bytearray.find.held") _ fun U=>_)=true);refine ac (dif_neg n1 ..) (ac (dif_neg n2 ..) (ac (dif_neg n3 ..) (ac (dif_neg n4 ..) (ac (dif_neg n5 ..) ?_))));induction pos using List.casesOn with
   | nil=>exact Bool.false_ne_true
   | cons v1 r=>
    show ¬ ((Builtin.Bytes.sameRef v1 v&&Builtin.Bytes.decodersThatHold.contains id)=true);refine ac h0 (ac (Bool.and_false ..) ?_);exact Bool.false_ne_true
  | _=>exact Bool.false_ne_true
 show Q (((Γ.code,p)::Γ.below).any _) s;refine(congrArg (fun b=>Q b s) ?_).mpr h;refine key ((Γ.code,p)::Γ.below) fun x hx=>?_;rcases List.mem_cons.mp hx with rfl | hx
 ·exact hn.1
 ·exact hn.2 x hx
end
noncomputable abbrev callerΓ:Ctx:=⟨.builtin "claim.caller" {},none,none,[],none⟩
theorem callerΓ_nodec:e7 callerΓ:=⟨by decide +kernel,fun x hx=>(absurd hx List.not_mem_nil)⟩
theorem fS{prog:Program}{w:World}{t:Sem Fin}{s:Shared}{R:Result->Shared->Prop}(hreg:s.asleep)
  (h:wpD (model prog w) callerA t (fun fin s'=>∃ f,fin=.done f/\(R (.ok f) s'/\leftWithCleanup s'.gens=false)) (fun e s'=>R (.error e) s'/\leftWithCleanup s'.gens=false) s) :
  ∃ n r s' s'',runN (denote table) prog w n s ⟨t,.builtin "claim.caller" {},default,[]⟩=.halted (outcomeOf r) s'/\
   schedN (denote table) prog w n (.single s ⟨t,.builtin "claim.caller" {},default,[]⟩)=.halted (outcomeOf r) s'/\s'.forget=s''.forget/\R r s'':=by
 have h':wp (model prog w) callerΓ t (Sem.finPost (model prog w) callerΓ fun r s'=>R r s'/\leftWithCleanup s'.gens=false) (fun e U s'=>R (.error e) s'/\leftWithCleanup s'.gens=false) default s:=by
  refine Sem.wp_mono _ callerΓ t (fun fin p' s' h'=>?_) (fun U U U h'=>h') default s (h callerΓ default caller_in callerΓ_nodec);refine af h' fun f z1 hf=>?_;clear h';subst z1;exact hf
 refine bZ (wp_halts_full (M:=model prog w) (R:=R) hreg h') fun n r s₁ s₂ hs hn hfo hR=>?_;exact(cu n r s₂ s₁ hn hs hfo hR)
theorem fv{c:ClaimW}{tree:List Value->Sem Fin}{w:World}{s:Shared}{free:Addr->Prop}{gens:Prop}{kept:Heap->Prop}(hz:s.asleep)(hgens:s.gens=#[])
   (hspec:∀ args,c.pre args=true->WData.layableAll args=true->
   ∀ ord:List DictEntry->List DictEntry,(∀ l,(ord l).Perm l)->
   ∃ vs s₁,layAllW c.records (classAt s.heap) w.params ord args s=some (vs,s₁)/\
    wpD (model c.prog w) callerA (tree vs) (fun fin s'=>∃ f,fin=.done f/\(c.Ends s args vs s₁ (.ok f) s'/\s'.os=s.os/\AllBare s'.gens/\kept s'.heap))
      (fun e s'=>c.Ends s args vs s₁ (.error e) s'/\s'.os=s.os/\AllBare s'.gens/\kept s'.heap) s₁) :
  c.CallFrom (fun vs=>⟨tree vs,.builtin "claim.caller" {},default,[]⟩) w free gens kept s:=by
 intro args hpre hlay ord hord
 refine aI (hspec args hpre hlay ord hord) fun vs s₁ hlaid hcode=>?_;have hal:=layAllW_rest _ _ _ hlaid;refine cN (fS (prog:=c.prog) (w:=w) (t:=tree vs) (s:=s₁)
  (R:=fun r s'=>c.Ends s args vs s₁ r s'/\s'.os=s.os/\kept s'.heap)
  (Shared.asleep_of_life hal.2.2.2 hz)
  (am hcode (fun fin s' z=>py z fun f e h1 h2 h3 h4=>(aH f e (ao h1 h2 h4) (leftWithCleanup_false_of_bare h3))) (fun e s' z=>bK z fun h1 h2 h3 h4=>⟨ao h1 h2 h4,leftWithCleanup_false_of_bare h3⟩))) fun k r s' s'' hrun hsched hfo hcase hos hkp=>?_
 refine dz (Shared.forget_eq hfo) fun eh U U eo U=>?_;have hcase:=hcase.congr eh;have hkp:kept s'.heap:=by first | exact eh▸hkp | (rw [eh] at hkp;exact hkp) | (rw [<- eh] at hkp;exact hkp)
 rw [<- eo] at hos;have hlife:s'.heap.life=s.heap.life:=(runN_life _ _ _ hrun).trans hal.2.2.2;refine⟨vs,s₁,hlaid,k,_,s',hsched,?_,(fun U i x hx=>by rw [hgens] at hx;simp at hx),hkp,by exact ac hlife rfl,Shared.rest_eq hos⟩;exact hcase.elim (fun z=>.inl (nc z fun v e d1 d2 d3 d4 d5=>(ng v (congrArg outcomeOf e) d1 d2 d3 (fun b o y U=>d4 b o y) d5))) fun z=>.inr (b6 z fun e ob cls e' d1 d2 d3 d4 d5=>(cZ e ob cls (congrArg outcomeOf e') d1 d2 d3 d4 (fun b o y U=>d5 b o y)))
theorem pd{r:RowW}{run:Value->List Value->Sem Value}{tree:List Value->Sem Fin}{q:Program}{loose defs kps:List Str}{writes:Bool}{Xt:Shared->Bool}{XP:(Str->Option Value)->Heap->Prop}{α:Type}{Yf:Shared->α}{Ya:World->α}{YP:World->Heap->Prop}{N:Nat}
  (left:LeftO r.prog q loose Xt Yf Ya N)(hY:∀ w s,Yf s=Ya w->YP w s.heap)(hYk:∀ w h h',YP w h->(∀ b o,h.get? b=some o->h'.get? b=some o)->YP w h')(hX:∀ s,Xt s=true->XP (s.heap.nsMap mainGlobals) s.heap)(hXk:∀ mg h h',XP mg h->(∀ b o,h.get? b=some o->h'.get? b=some o)->XP mg h')
  (hRf:∀ s,Xt s=true->RecFacts r.records s.heap)(hwr:(!writes||r.records.isEmpty)=true)(ok:(chainsOk q&&opensWell r.prog&&(frees r&&r.within.isEmpty))=true)(hb:r.prog.bare)(hw:r.promised)
  (ht:∀ vs (w:World) (s:Shared) mg f (Q:Fin->Shared->Prop) (E:Value->Shared->Prop),s.heap.Ns mainGlobals mg->mg r.name=some f->wpD (model r.prog w) callerA (run f vs) (fun v s'=>Q (.done (.ret v)) s') E s->wpD (model r.prog w) callerA (tree vs) Q E s)
  (pin:∀ w s,s.heap.isNs mainGlobals=true->Ground q loose [] XP w s (s.heap.nsMap mainGlobals) (s.heap.nsMap builtinsNs) s.heap->∀ n∈defs,isTheDefsW r.prog s.heap n)
  (call:∀ (w:World) (s₀ s₁:Shared) (mg mb:Str->Option Value),Ground q loose r.records XP w s₀ mg mb s₁.heap->YP w s₁.heap->∀ (args:List WData) (vs:List Value) (as:List Addr),
   r.claim.pre args=true->WData.layableAll args=true->Laid r.records w s₀ s₁ args vs as->sysModules<s₀.heap.objs.size->∃ f,mg r.name=some f/\
    wpD (model r.prog w) callerA (run f vs) (fun v s'=>GoodWG r.claim (classAt s₀.heap) (ExcName.means s₀.heap) args s₁ (.ok (.ret v)) s')
     (fun e s'=>GoodWG r.claim (classAt s₀.heap) (ExcName.means s₀.heap) args s₁ (.error e) s') s₁):r.claim.HoldsOpenBy (fun vs=>⟨tree vs,.builtin "claim.caller" {},default,[]⟩) defs kps writes:=by
 refine aq (Bool.and_eq_true_iff.mp ok) fun ok k5=>?_;refine aq (Bool.and_eq_true_iff.mp ok) fun hch o1=>?_;refine aq (Bool.and_eq_true_iff.mp k5) fun k5 k6=>?_;refine dz (frees_parts k5) fun hsame hu ha hap hm=>?_;refine(ao (ao hb o1 (by show r.makers.map _=[];refine ac hm ?_;rfl)) hw.witness (fun w=>⟨(left.behind hX hch w).1,fun s' hs'=>?_⟩));refine iQ ((left.behind (XP:=fun mg h=>XP mg h/\RecFacts r.records h) (fun s hs=>⟨hX s hs,hRf s hs⟩) hch w).2 s' hs') fun s₀ hf hg0 s hT hz hgens hg G00 y=>?_;have G0:Ground q loose [] XP w s (s.heap.nsMap mainGlobals) (s.heap.nsMap builtinsNs) s.heap:=⟨G00.T,G00.B,G00.D,G00.TE,G00.TD,G00.W,G00.X.1,G00.cls,G00.has,G00.apart,G00.once,G00.K⟩;have RF:=G00.X.2;have hT':=hT;refine⟨s₀,hf,hg0,s,hT,pin w s hg G0,RF.1,RF.2.1,?_⟩;have hgens:s.gens=#[]:=Array.eq_empty_of_size_eq_zero (beq_iff_eq.mp hgens);have G:Ground q loose r.records XP w s _ _ s.heap:=RF.ground G0;refine fv (c:=r.claim) hz hgens fun args hpre hlay ord hord=>?_;refine aj (Option.isSome_iff_exists.mp (layAllW_isSome (P:=w.params) (ord:=ord) G.has args r.args s (pre_splitW hpre).1)) fun z0 hlaid=>?_;obtain ⟨vs,s₁⟩:=z0;have keeps:=layAllW_keeps _ _ _ hlaid;have hal:=layAllW_rest _ _ _ hlaid;refine az (reads_layAllW hord _ _ _ hlaid hlay s₁.heap (fun U U e=>e)) fun as hrd hin hold=>?_;have L:Laid r.records w s s₁ args vs as:=⟨ag ord hord hlaid,hrd,hin,hold,keeps,hal.1.trans hgens,hal.2.2.1⟩;have G₁:=G.keeps hXk keeps;refine af (call w s s₁ _ _ G₁ (hYk _ _ _ (hY w s y) keeps) args vs as hpre hlay L G.low) fun f hf h=>?_;have hi:=ident_freeW hu ha hap;have hwi:r.claim.within=[]:=List.isEmpty_iff.mp k6;exact(aw vs s₁ hlaid (ht vs w s₁ _ f _ _ G₁.T.g hf (am h (fun v s' g=>(ag _ rfl (have z:=g.laid (c:=r.claim) hsame hwi hi L;(bY z.1 z.2.1 z.2.2 (fun q=>⟨namesKept_of hT' hg kps keeps g.2.1.old,noTable hwr q⟩))))) fun e s' g=>have z:=g.laid (c:=r.claim) hsame hwi hi L;(bY z.1 z.2.1 z.2.2 (fun q=>⟨namesKept_of hT' hg kps keeps g.2.1.old,noTable hwr q⟩)))))
abbrev wD(q:Program)(loose:List Str)(XP:(Str->Option Value)->Heap->Prop)(YP:World->Heap->Prop)(r:RowW)(d:DefRec)(kwd:List (Str×Expr))(run:Value->List Value->Sem Value):Prop:=
 ∀ (w:World) (s₀ s₁:Shared) (mg mb:Str->Option Value),Ground q loose r.records XP w s₀ mg mb s₁.heap->YP w s₁.heap->∀ (a:Addr) (o:Obj) (pm cd doc dV kV:Value),s₁.heap.get? a=some o->
  o.data=.func { docDef d.name d.params d.body d.scope pm cd doc with defaults:=dV,kwdefaults:=kV }->s₁.heap.CodeRec cd d.name->Dflts mg s₁.heap d.params kwd dV kV->mg d.name=some (.ref a)->s₁.gens=#[]->
  ∀ (args:List WData) (vals:List Value) (as:List Addr),r.claim.pre args=true->WData.layableAll args=true->ReadsAllW r.records (classAt s₀.heap) s₁.heap vals args as->WellAll w.params s₁.heap vals args->(∀ a∈as,(a==sysModules)=false)->
   wpD (model r.prog w) callerA (run (.ref a) vals) (fun v s'=>GoodWG r.claim (classAt s₀.heap) (ExcName.means s₀.heap) args s₁ (.ok (.ret v)) s')
    (fun e s'=>GoodWG r.claim (classAt s₀.heap) (ExcName.means s₀.heap) args s₁ (.error e) s') s₁
theorem PySem.W.holds_open{r:OpenRow}{q:Program}{loose:List Str}{Xt:Shared->Bool}{XP:(Str->Option Value)->Heap->Prop}{α:Type}{Yf:Shared->α}{Ya:World->α}{YP:World->Heap->Prop}{d:DefRec}{kwd:List (Str×Expr)}{N:Nat}
  (left:LeftO r.prog q loose Xt Yf Ya N)(hY:∀ w s,Yf s=Ya w->YP w s.heap)(hYk:∀ w h h',YP w h->(∀ b o,h.get? b=some o->h'.get? b=some o)->YP w h')
  (hX:∀ s,Xt s=true->XP (s.heap.nsMap mainGlobals) s.heap)(hXk:∀ mg h h',XP mg h->(∀ b o,h.get? b=some o->h'.get? b=some o)->XP mg h')
  (hdef:defOf q r.name=some (d,kwd))(hp:r.prog.theDef r.name=some (d.params,d.body,d.scope))(hk:kwWritten? d.params.kwonlyargs d.params.kw_defaults=some kwd)(hRf:∀ s,Xt s=true->RecFacts r.records s.heap)(hwr:(!r.writes||r.records.isEmpty)=true)
  (k1:r.wellSaid=true) (ok:(chainsOk q&&opensWell r.prog&&(frees r.toRowW&&r.within.isEmpty))=true) (hb:r.prog.bare) (hw:r.toRowW.promised)
  (call:wD q loose XP YP r.toRowW d kwd fun f vs=>_root_.PySem.call f vs):r.Holds:=by
 refine⟨k1,hw,pd (r:=r.toRowW) (run:=fun f vs=>_root_.PySem.call f vs) (tree:=fun vs=>do match <- nsGet mainNs r.name with
   | some f=>do ret (<- _root_.PySem.call f vs)
   | none=>unsupported "claim.caller:no-such-global") left hY hYk hX hXk hRf hwr ok hb hw
  (fun vs w s mg f Q E hg hf h=>ae (al (wpAny_nsGet hg (by refine ac hf ?_;exact ae (am h (fun U U x=>ah x) fun U U x=>x)))))
  (fun w s hg G n hn=>?_) fun w s₀ s₁ mg mb G Y args vs as hpre hlay L low=>?_⟩
 ·obtain rfl:n=r.name:=by split at hn <;> simp_all
  exact pinned_of_view hg G hdef hp hk
 ·refine gE (G.fn hdef) fun a o pm cd doc dV kV h1 h2 h3 h4 h5=>?_;exact(ag (.ref a) h1 (call w s₀ s₁ mg mb G Y a o pm cd doc dV kV h2 h3 h4 h5 (defOf_name hdef▸h1) L.gens args vs as hpre hlay L.reads L.well (L.low low)))
end Mine.Lake
end
section
set_option backward.match.sparseCases false
set_option genCtorIdx false
open PySem
namespace Mine.Lake
def Nm:Type:=Fin 119
deriving DecidableEq
noncomputable def bc(k:Nat)(h:Nat.ble (k+1) 119=true):Nm:=⟨k,Nat.le_of_ble_eq_true h⟩
namespace Nm
def Buffer:Nm:=bc 0 rfl
def init:Nm:=bc 1 rfl
def self:Nm:=bc 2 rfl
def number:Nm:=bc 3 rfl
def octets:Nm:=bc 4 rfl
def data:Nm:=bc 5 rfl
def bytearray:Nm:=bc 6 rfl
def holders:Nm:=bc 7 rfl
def pins:Nm:=bc 8 rfl
def is_free:Nm:=bc 9 rfl
def bytes:Nm:=bc 10 rfl
def need_part:Nm:=bc 11 rfl
def place:Nm:=bc 12 rfl
def count:Nm:=bc 13 rfl
def len:Nm:=bc 14 rfl
def BadArgument:Nm:=bc 15 rfl
def take:Nm:=bc 16 rfl
def put:Nm:=bc 17 rfl
def fill:Nm:=bc 18 rfl
def clear:Nm:=bc 19 rfl
def little:Nm:=bc 20 rfl
def found:Nm:=bc 21 rfl
def octet:Nm:=bc 22 rfl
def reversed:Nm:=bc 23 rfl
def put_little:Nm:=bc 24 rfl
def value:Nm:=bc 25 rfl
def «at»:Nm:=bc 26 rfl
def range:Nm:=bc 27 rfl
def bit:Nm:=bc 28 rfl
def put_bit:Nm:=bc 29 rfl
def mask:Nm:=bc 30 rfl
def int:Nm:=bc 31 rfl
def Cache:Nm:=bc 32 rfl
def disk:Nm:=bc 33 rfl
def most:Nm:=bc 34 rfl
def size:Nm:=bc 35 rfl
def row:Nm:=bc 36 rfl
def by_number:Nm:=bc 37 rfl
def hits:Nm:=bc 38 rfl
def reads:Nm:=bc 39 rfl
def writes:Nm:=bc 40 rfl
def need_block:Nm:=bc 41 rfl
def isinstance:Nm:=bc 42 rfl
def blocks:Nm:=bc 43 rfl
def BadDisk:Nm:=bc 44 rfl
def need_held:Nm:=bc 45 rfl
def buffer:Nm:=bc 46 rfl
def get:Nm:=bc 47 rfl
def make_room:Nm:=bc 48 rfl
def read:Nm:=bc 49 rfl
def append:Nm:=bc 50 rfl
def enumerate:Nm:=bc 51 rfl
def NoRoom:Nm:=bc 52 rfl
def release:Nm:=bc 53 rfl
def remove:Nm:=bc 54 rfl
def pin:Nm:=bc 55 rfl
def unpin:Nm:=bc 56 rfl
def write:Nm:=bc 57 rfl
def peek:Nm:=bc 58 rfl
def poke:Nm:=bc 59 rfl
def known:Nm:=bc 60 rfl
def free_count:Nm:=bc 61 rfl
def forget:Nm:=bc 62 rfl
def list:Nm:=bc 63 rfl
def Disk:Nm:=bc 64 rfl
def kept:Nm:=bc 65 rfl
def latest:Nm:=bc 66 rfl
def unflushed:Nm:=bc 67 rfl
def flushes:Nm:=bc 68 rfl
def last:Nm:=bc 69 rfl
def last_flush:Nm:=bc 70 rfl
def is_dead:Nm:=bc 71 rfl
def need_power:Nm:=bc 72 rfl
def Crash:Nm:=bc 73 rfl
def fail:Nm:=bc 74 rfl
def law_pool:Nm:=bc 75 rfl
def script:Nm:=bc 76 rfl
def whole:Nm:=bc 77 rfl
def cell:Nm:=bc 78 rfl
def abs:Nm:=bc 79 rfl
def law_take:Nm:=bc 80 rfl
def pool:Nm:=bc 81 rfl
def many:Nm:=bc 82 rfl
def digit:Nm:=bc 83 rfl
def law_met:Nm:=bc 84 rfl
def deed:Nm:=bc 85 rfl
def told:Nm:=bc 86 rfl
def room:Nm:=bc 87 rfl
def argument:Nm:=bc 88 rfl
def law_is_free:Nm:=bc 89 rfl
def world:Nm:=bc 90 rfl
def held:Nm:=bc 91 rfl
def law_got:Nm:=bc 92 rfl
def met:Nm:=bc 93 rfl
def spare:Nm:=bc 94 rfl
def other:Nm:=bc 95 rfl
def seen:Nm:=bc 96 rfl
def law_left:Nm:=bc 97 rfl
def law_get:Nm:=bc 98 rfl
def cache:Nm:=bc 99 rfl
def due:Nm:=bc 100 rfl
def law_held_deed:Nm:=bc 101 rfl
noncomputable def own:Nm:=bc 102 rfl
def way:Nm:=bc 103 rfl
def old:Nm:=bc 104 rfl
def pop:Nm:=bc 105 rfl
def written:Nm:=bc 106 rfl
def calls:Nm:=bc 107 rfl
def call:Nm:=bc 108 rfl
def law_other_deed:Nm:=bc 109 rfl
def pinned:Nm:=bc 110 rfl
def turn:Nm:=bc 111 rfl
def odd:Nm:=bc 112 rfl
def deeds:Nm:=bc 113 rfl
def law_seen:Nm:=bc 114 rfl
def taken:Nm:=bc 115 rfl
def sorted:Nm:=bc 116 rfl
def fine:Nm:=bc 117 rfl
def law:Nm:=bc 118 rfl
end Nm
noncomputable abbrev nmp(s:String)(n:Nm):Str×Nm:=(Str.ofString s,n)
noncomputable def qX:List (Str×Nm):=[nmp "self" .self,nmp "number" .number,nmp "octets" .octets,nmp "place" .place,nmp "count" .count,nmp "value" .value,nmp "found" .found,nmp "buffer" .buffer,nmp "data" .data,nmp "disk" .disk,nmp "row" .row,nmp "by_number" .by_number,nmp "holders" .holders,nmp "pins" .pins,nmp "world" .world,nmp "pool" .pool,nmp "cache" .cache,
 nmp "Buffer" .Buffer,nmp "__init__" .init,nmp "bytearray" .bytearray,nmp "is_free" .is_free,nmp "bytes" .bytes,nmp "need_part" .need_part,nmp "len" .len,nmp "BadArgument" .BadArgument,nmp "take" .take,nmp "put" .put,nmp "fill" .fill,nmp "clear" .clear,nmp "little" .little,nmp "octet" .octet,nmp "reversed" .reversed,nmp "put_little" .put_little,nmp "at" .at,nmp "range" .range,nmp "bit" .bit,nmp "put_bit" .put_bit,nmp "mask" .mask,nmp "int" .int,nmp "Cache" .Cache,nmp "most" .most,nmp "size" .size,nmp "hits" .hits,nmp "reads" .reads,nmp "writes" .writes,nmp "need_block" .need_block,nmp "isinstance" .isinstance,nmp "blocks" .blocks,nmp "BadDisk" .BadDisk,nmp "need_held" .need_held,nmp "get" .get,nmp "make_room" .make_room,nmp "read" .read,nmp "append" .append,nmp "enumerate" .enumerate,nmp "NoRoom" .NoRoom,nmp "release" .release,nmp "remove" .remove,nmp "pin" .pin,nmp "unpin" .unpin,nmp "write" .write,nmp "peek" .peek,nmp "poke" .poke,nmp "known" .known,nmp "free_count" .free_count,nmp "forget" .forget,nmp "list" .list,nmp "Disk" .Disk,nmp "kept" .kept,nmp "latest" .latest,nmp "unflushed" .unflushed,nmp "flushes" .flushes,nmp "last" .last,nmp "last_flush" .last_flush,nmp "is_dead" .is_dead,nmp "need_power" .need_power,nmp "Crash" .Crash,nmp "fail" .fail,nmp "_law_pool" .law_pool,nmp "script" .script,nmp "whole" .whole,nmp "cell" .cell,nmp "abs" .abs,nmp "_law_take" .law_take,nmp "many" .many,nmp "digit" .digit,nmp "_law_met" .law_met,nmp "deed" .deed,nmp "told" .told,nmp "room" .room,nmp "argument" .argument,nmp "_law_is_free" .law_is_free,nmp "held" .held,nmp "_law_got" .law_got,nmp "met" .met,nmp "spare" .spare,nmp "other" .other,nmp "seen" .seen,nmp "_law_left" .law_left,nmp "_law_get" .law_get,nmp "due" .due,nmp "_law_held_deed" .law_held_deed,nmp "own" .own,nmp "way" .way,nmp "old" .old,nmp "pop" .pop,nmp "written" .written,nmp "calls" .calls,nmp "call" .call,nmp "_law_other_deed" .law_other_deed,nmp "pinned" .pinned,nmp "turn" .turn,nmp "odd" .odd,nmp "deeds" .deeds,nmp "_law_seen" .law_seen,nmp "taken" .taken,nmp "sorted" .sorted,nmp "fine" .fine,nmp "law" .law]
noncomputable def nmOf(s:Str):Option Nm:=qX.lookup s
def Nm.str(n:Nm):Str:=match qX.find? (fun p=>decide (p.2=n)) with | some p=>p.1 | none=>Str.empty
set_option genCtorIdx true in
inductive Bf
 | len | abs | int | bytes | bytearray | isinstance | list | sorted
inductive RE
 | none | bool (b:Bool) | int (i:Int) | str (n:Nm)
 | loc (n:Nm) | cel (n:Nm) | glo (n:Nm)
 | attr (e:RE) (n:Nm)
 | sub (e i:RE)
 | slc (e:RE) (lo hi:Option RE)
 | call (f:RE) (args:List RE)
 | mcall (o:RE) (n:Nm) (args:List RE)
 | bin (op:Operator) (a b:RE)
 | un (op:UnaryOp) (a:RE)
 | bop (op:BoolOp) (es:List RE)
 | cmp (l:RE) (ops:List (CmpOp×RE))
 | ife (t a b:RE)
 | list (es:List RE)
 | tup (es:List RE)
 | dict (kvs:List (Nm×RE))
 | comp (elt:RE) (x:Nm) (kind:Nat) (iter:RE) (ifs:List RE) (frees:List Nm)
 | lam (body:RE) (frees:List Nm)
@[reducible] noncomputable def RE.ctorIdx(t:RE):Nat:=RE.casesOn (motive_1:=fun U=>Nat) t 0 (fun U=>1) (fun U=>2) (fun U=>3) (fun U=>4) (fun U=>5) (fun U=>6) (fun U U=>7) (fun U U=>8) (fun U U U=>9) (fun U U=>10) (fun U U U=>11) (fun U U U=>12) (fun U U=>13) (fun U U=>14) (fun U U=>15) (fun U U U=>16) (fun U=>17) (fun U=>18) (fun U=>19) (fun U U U U U U=>20) (fun U U=>21)
inductive RT1
 | loc (n:Nm) | cel (n:Nm) | attr (e:RE) (n:Nm) | sub (e i:RE) | slc (e:RE) (lo hi:Option RE)
@[reducible] noncomputable def RT1.ctorIdx(t:RT1):Nat:=RT1.casesOn (motive:=fun U=>Nat) t (fun U=>0) (fun U=>1) (fun U U=>2) (fun U U=>3) (fun U U U=>4)
inductive RT
 | one (t:RT1) | tup (ts:List RT1)
@[reducible] noncomputable def RT.ctorIdx(t:RT):Nat:=RT.casesOn (motive:=fun U=>Nat) t (fun U=>0) (fun U=>1)
inductive RS
 | asg (t:RT) (e:RE)
 | augA (e:RE) (n:Nm) (op:Operator) (v:RE)
 | augS (e i:RE) (op:Operator) (v:RE)
 | ret (e:RE) | retN
 | ite (t:RE) (a b:List RS)
 | for (t:RT) (kind:Nat) (iter:RE) (body:List RS)
 | expr (e:RE)
 | del (e i:RE)
 | raise (C:Nm)
 | tryE (body:List RS) (hs:List (Nm×Nm))
 | bad
@[reducible] noncomputable def RS.ctorIdx(t:RS):Nat:=RS.casesOn (motive_1:=fun U=>Nat) t (fun U U=>0) (fun U U U U=>1) (fun U U U U=>2) (fun U=>3) 4 (fun U U U=>5) (fun U U U U=>6) (fun U=>7) (fun U U=>8) (fun U=>9) (fun U U=>10) 11
noncomputable def lk{α β:Type}[DecidableEq α]:List (α×β)->α->Option β
 | [],_=>.none
 | (a,b)::l,x=>if a=x then some b else lk l x
theorem br{α β:Type}[DecidableEq α]{x:α}:lk ([]:List (α×β)) x=none:=rfl
theorem aP{α β:Type}[DecidableEq α]{a x:α}{b:β}{l:List (α×β)}:lk ((a,b)::l) x=if a=x then some b else lk l x:=rfl
theorem dv{α β:Type}[DecidableEq α]{a:α}{b:β}:∀ {l:List (α×β)},lk l a=some b->(a,b)∈l:=by
 intro l_
 induction l_ with
 | nil=>
  intro h
  exact nomatch h
 | cons p_ l ih_=>
  intro h
  rw [aP] at h;by_cases e:p_.1=a
  ·rw [if_pos e] at h;rw [<- e,<- Option.some.inj h];exact .head _
  ·rw [if_neg e] at h;exact .tail _ (ih_ h)
noncomputable def excL:List (Nm×Nat):=[(.BadArgument,52),(.BadDisk,64),(.NoRoom,76)]
def excTab(n:Nm):Option Nat:=lk excL n
def u5(n:Nm):Bool:=(excTab n).isSome
theorem aA{α:Type}{a:α}{p:Prop}(h:(none:Option α)=some a):p:=nomatch h
noncomputable def fK{α:Type}{β:Sort u}(o:Option α)(f:α->β)(d:β):β:=match o with | some a=>f a | .none=>d
noncomputable def jC{α β γ:Type}(f:α->β->γ)(x:Option α)(y:Option β):Option γ:=match x with | some a=>(match y with | some b=>some (f a b) | .none=>.none) | .none=>.none
theorem fo{α β γ:Type}{f:α->β->γ}{x:Option α}{y:Option β}{r:γ}(h:jC f x y=some r):∃ a b,x=some a/\y=some b/\f a b=r:=by
 induction x with
 | none=>exact aA h
 | some a=>induction y with
  | none=>exact aA h
  | some b=>exact⟨a,b,rfl,rfl,Option.some.inj h⟩
noncomputable def la(x y:Option Bool):Option Bool:=match x with | some b=>(match b with | true=>y | false=>.none) | .none=>.none
theorem qo{x y:Option Bool}{r:Bool}(h:la x y=some r):x=some true/\y=some r:=by
 induction x with
 | none=>exact aA h
 | some b=>induction b with
  | false=>exact aA h
  | true=>exact⟨rfl,h⟩
noncomputable def lB(x:Option Bool)(y:Option Nat):Option Nat:=match x with | some b=>(match b with | true=>some 0 | false=>y.map (·+1)) | .none=>.none
theorem posvK_inv{x:Option Bool}{y:Option Nat}{k:Nat}(h:lB x y=some k):(x=some true/\0=k)∨(x=some false/\y.map (·+1)=some k):=by
 induction x with
 | none=>exact aA h
 | some b=>induction b with
  | true=>exact .inl ⟨rfl,Option.some.inj h⟩
  | false=>exact .inr ⟨rfl,h⟩
abbrev Kd:=Str->Option NameKind
noncomputable def allS{α β:Type}(f:α->Option β):List α->Option (List β)
 | []=>some []
 | a::l=>(f a).bind fun b=>(allS f l).map fun r=>b::r
noncomputable def eT{α β:Type}(f:α->Option β):Option α->Option (Option β)
 | none=>some none
 | some a=>match f a with | some b=>some (some b) | none=>none
noncomputable def zipS{α β:Type}:List α->List β->Option (List (α×β))
 | [],r=>(match r with | []=>some [] | _::_=>none)
 | a::l,r=>(match r with | []=>none | b::r=>(zipS l r).map fun x=>(a,b)::x)
noncomputable def dF(sc:Scope):Option (List Nm):=allS (fun p:Str×NameKind=>nmOf p.1) (sc.names.filter fun p=>p.2==.free)
noncomputable def lz(sc:Scope):Bool:=sc.kind==.function&&!sc.isGenerator&&!sc.isCoroutine&&(sc.names.all fun p=>p.2 != .cell)&&sc.names.all fun p=>p.2 != .local||sc.names.lookup p.1==some .local
noncomputable def ti(f:Str):Nat:=if f==("range":Str) then 1 else if f==("enumerate":Str) then 2 else if f==("reversed":Str) then 3 else 0
inductive InvI(tr:Expr->Option RE)(k:Kd):Expr->Nat×RE->Prop
 | one {f p e p2 r n} (h1:k f=some .globalImplicit) (h2:ti f=n+1) (h3:tr e=some r):InvI tr k (.Call (.Name f p) [e] [] p2) (n+1,r)
 | dflt {e r} (h:tr e=some r):InvI tr k e (0,r)
abbrev Iv{α β:Type}(P:α->β->Prop)(e:α):=Option {r:β // P e r}
noncomputable def dI(tr:Expr->Option RE)(k:Kd)(e:Expr):Iv (InvI tr k) e:=(tr e).pbind fun U h=>some ⟨_,.dflt h⟩
noncomputable def vd(tr:Expr->Option RE)(k:Kd)(e:Expr):Iv (InvI tr k) e:=match e with
 | .Call (.Name f p) [e] [] p2=>if h:k f=some .globalImplicit then
   (match h2:ti f with | 0=>dI tr k _ | _+1=>(tr e).pbind fun U h3=>some ⟨_,.one h h2 h3⟩)
  else dI tr k _
 | e=>dI tr k e
noncomputable def vl{α:Type}{p:α->Prop}:Option {r:α // p r}->Option α
 | some ⟨r,_⟩=>some r
 | none=>none
theorem vl_inv{α:Type}{p:α->Prop}{o:Option {r:α // p r}}{r:α}(h:vl o=some r):p r:=by
 induction o with
 | none=>exact aA h
 | some x=>exact Option.some.inj h▸x.2
noncomputable def fC(tr:Expr->Option RE)(k:Kd)(e:Expr):Option (Nat×RE):=vl (vd tr k e)
inductive InvK:Option Expr->Nm->Prop
 | str {s x p q} (h:nmOf s=some x):InvK (some (.Constant (.str s) p q)) x
noncomputable def ve:(e:Option Expr)->Iv InvK e
 | some (.Constant (.str s) _ _)=>(nmOf s).pbind fun U h=>some ⟨_,.str h⟩
 | _=>none
noncomputable def nK(e:Option Expr):Option Nm:=vl (ve e)
noncomputable def mD:Expr->Bool | .Attribute ..=>true | _=>false
noncomputable def qH:Expr->Bool | .ListComp ..=>true | _=>false
inductive InvE(f:Kd->Expr->Option RE)(k:Kd):Expr->RE->Prop
 | none {p q}:InvE f k (.Constant .none p q) .none
 | bool {b p q}:InvE f k (.Constant (.bool b) p q) (.bool b)
 | int {i p q}:InvE f k (.Constant (.int i) p q) (.int i)
 | str {s x p q} (h:nmOf s=some x):InvE f k (.Constant (.str s) p q) (.str x)
 | loc {n x p} (h:nmOf n=some x) (hk:k n=some .local):InvE f k (.Name n p) (.loc x)
 | cel {n x p} (h:nmOf n=some x) (hk:k n=some .cell∨k n=some .free):InvE f k (.Name n p) (.cel x)
 | glo {n x p} (h:nmOf n=some x) (hk:k n=some .globalImplicit):InvE f k (.Name n p) (.glo x)
 | attr {v a p r x} (h1:f k v=some r) (h2:nmOf a=some x):InvE f k (.Attribute v a p) (.attr r x)
 | slc {v lo hi p q r a b} (h1:f k v=some r) (h2:eT (f k) lo=some a) (h3:eT (f k) hi=some b):InvE f k (.Subscript v (.Slice lo hi Option.none p) q) (.slc r a b)
 | sub {v i p r a} (h1:f k v=some r) (h2:f k i=some a):InvE f k (.Subscript v i p) (.sub r a)
 | mcall {o a ap args p r x as} (h1:f k o=some r) (h2:nmOf a=some x) (h3:allS (f k) args=some as) (h4:(ap.endLine==p.line)=true) (h5:args.length<30):InvE f k (.Call (.Attribute o a ap) args [] p) (.mcall r x as)
 | call {g args p r as} (h0:mD g=false) (h1:f k g=some r) (h2:allS (f k) args=some as):InvE f k (.Call g args [] p) (.call r as)
 | bin {l op r p a b} (h1:f k l=some a) (h2:f k r=some b):InvE f k (.BinOp l op r p) (.bin op a b)
 | un {op e p a} (h:f k e=some a):InvE f k (.UnaryOp op e p) (.un op a)
 | bop {op es p as} (h:allS (f k) es=some as):InvE f k (.BoolOp op es p) (.bop op as)
 | cmp {l ops rs p a bs z} (h1:f k l=some a) (h2:allS (f k) rs=some bs) (hz:zipS ops bs=some z):InvE f k (.Compare l ops rs p) (.cmp a z)
 | ife {t a b p t' a' b'} (h1:f k t=some t') (h2:f k a=some a') (h3:f k b=some b'):InvE f k (.IfExp t a b p) (.ife t' a' b')
 | list {es p as} (h:allS (f k) es=some as):InvE f k (.List es p) (.list as)
 | tup {es c p as} (h:allS (f k) es=some as):InvE f k (.Tuple es c p) (.tup as)
 | dict {ks vs p ks' vs' z} (h1:allS nK ks=some ks') (h2:allS (f k) vs=some vs') (hz:zipS ks' vs'=some z):InvE f k (.Dict ks vs p) (.dict z)
 | comp {elt x px iter ifs sc p e y kd it ifs' fr} (h1:f (fun s=>sc.names.lookup s) elt=some e) (h2:nmOf x=some y) (h3:fC (f k) k iter=some (kd,it)) (h4:allS (f fun s=>sc.names.lookup s) ifs=some ifs') (h5:dF sc=some fr)
   (h6:lz sc=true) (h7:sc.names.lookup x=some .local):InvE f k (.ListComp elt [⟨.Name x px,iter,ifs,0⟩] sc p) (.comp e y kd it ifs' fr)
 | lam {body sc p b fr} (h1:f (fun s=>sc.names.lookup s) body=some b) (h2:dF sc=some fr) (h3:lz sc=true):InvE f k (.Lambda ⟨[],[],Option.none,[],[],Option.none,[]⟩ body sc p) (.lam b fr)
noncomputable def w7(f:Kd->Expr->Option RE)(k:Kd)(n:Str)(p:Pos):Iv (InvE f k) (.Name n p):=(nmOf n).pbind fun U h=>match hk:k n with
 | some .local=>some ⟨_,.loc h hk⟩
 | some .cell=>some ⟨_,.cel h (.inl hk)⟩
 | some .free=>some ⟨_,.cel h (.inr hk)⟩
 | some .globalImplicit=>some ⟨_,.glo h hk⟩
 | _=>none
noncomputable def vU(f:Kd->Expr->Option RE)(k:Kd)(e:Expr):Iv (InvE f k) e:=match e with
 | .Constant .none _ _=>some ⟨_,.none⟩
 | .Constant (.bool _) _ _=>some ⟨_,.bool⟩
 | .Constant (.int _) _ _=>some ⟨_,.int⟩
 | .Constant (.str s) _ _=>(nmOf s).pbind fun U h=>some ⟨_,.str h⟩
 | .Name n p=>w7 f k n p
 | .Attribute v a _=>(f k v).pbind fun U h1=>(nmOf a).pbind fun U h2=>some ⟨_,.attr h1 h2⟩
 | .Subscript v (.Slice lo hi none _) _=>(f k v).pbind fun U h1=>(eT (f k) lo).pbind fun U h2=>(eT (f k) hi).pbind fun U h3=>some ⟨_,.slc h1 h2 h3⟩
 | .Subscript v i _=>(f k v).pbind fun U h1=>(f k i).pbind fun U h2=>some ⟨_,.sub h1 h2⟩
 | .Call (.Attribute o a ap) args [] p=>(f k o).pbind fun U h1=>(nmOf a).pbind fun U h2=>(allS (f k) args).pbind fun U h3=>if h4:(ap.endLine==p.line)=true then (if h5:args.length<30 then some ⟨_,.mcall h1 h2 h3 h4 h5⟩ else none) else none
 | .Call g args [] _=>if h0:mD g=false then (f k g).pbind fun U h1=>(allS (f k) args).pbind fun U h2=>some ⟨_,.call h0 h1 h2⟩ else none
 | .BinOp l _ r _=>(f k l).pbind fun U h1=>(f k r).pbind fun U h2=>some ⟨_,.bin h1 h2⟩
 | .UnaryOp _ e _=>(f k e).pbind fun U h1=>some ⟨_,.un h1⟩
 | .BoolOp _ es _=>(allS (f k) es).pbind fun U h1=>some ⟨_,.bop h1⟩
 | .Compare l ops rs _=>(f k l).pbind fun U h1=>(allS (f k) rs).pbind fun bs h2=>(zipS ops bs).pbind fun U hz=>some ⟨_,.cmp h1 h2 hz⟩
 | .IfExp t a b _=>(f k t).pbind fun U h1=>(f k a).pbind fun U h2=>(f k b).pbind fun U h3=>some ⟨_,.ife h1 h2 h3⟩
 | .List es _=>(allS (f k) es).pbind fun U h1=>some ⟨_,.list h1⟩
 | .Tuple es _ _=>(allS (f k) es).pbind fun U h1=>some ⟨_,.tup h1⟩
 | .Dict ks vs _=>(allS nK ks).pbind fun ks' h1=>(allS (f k) vs).pbind fun vs' h2=>(zipS ks' vs').pbind fun U hz=>some ⟨_,.dict h1 h2 hz⟩
 | .ListComp elt [⟨.Name x _,iter,ifs,0⟩] sc _=>(f (fun s=>sc.names.lookup s) elt).pbind fun U h1=>(nmOf x).pbind fun U h2=>(fC (f k) k iter).pbind fun (_,_) h3=>(allS (f fun s=>sc.names.lookup s) ifs).pbind fun U h4=>(dF sc).pbind fun U h5=>
   if h6:lz sc=true then (if h7:sc.names.lookup x=some .local then some ⟨_,.comp h1 h2 h3 h4 h5 h6 h7⟩ else none) else none
 | .Lambda ⟨[],[],none,[],[],none,[]⟩ body sc _=>(f (fun s=>sc.names.lookup s) body).pbind fun U h1=>(dF sc).pbind fun U h2=>if h3:lz sc=true then some ⟨_,.lam h1 h2 h3⟩ else none
 | _=>none
noncomputable def trE:Nat->Kd->Expr->Option RE
 | 0,_,_=>none
 | n+1,k,e=>vl (vU (trE n) k e)
theorem trE_inv{n:Nat}{k:Kd}{e:Expr}{r:RE}(h:trE (n+1) k e=some r):InvE (trE n) k e r:=vl_inv (p:=InvE (trE n) k e) h
inductive InvT1(f:Kd->Expr->Option RE)(k:Kd):Expr->RT1->Prop
 | loc {n x p} (h:nmOf n=some x) (hk:k n=some .local):InvT1 f k (.Name n p) (.loc x)
 | cel {n x p} (h:nmOf n=some x) (hk:k n=some .cell):InvT1 f k (.Name n p) (.cel x)
 | attr {v a p r x} (h1:f k v=some r) (h2:nmOf a=some x):InvT1 f k (.Attribute v a p) (.attr r x)
 | slc {v lo hi p q r a b} (h1:f k v=some r) (h2:eT (f k) lo=some a) (h3:eT (f k) hi=some b):InvT1 f k (.Subscript v (.Slice lo hi none p) q) (.slc r a b)
 | sub {v i p r a} (h1:f k v=some r) (h2:f k i=some a):InvT1 f k (.Subscript v i p) (.sub r a)
noncomputable def w8(f:Kd->Expr->Option RE)(k:Kd)(n:Str)(p:Pos):Iv (InvT1 f k) (.Name n p):=(nmOf n).pbind fun U h=>if hk:k n=some .local then some ⟨_,.loc h hk⟩ else if hk:k n=some .cell then some ⟨_,.cel h hk⟩ else none
noncomputable def vR(f:Kd->Expr->Option RE)(k:Kd)(e:Expr):Iv (InvT1 f k) e:=match e with
 | .Name n p=>w8 f k n p
 | .Attribute v a _=>(f k v).pbind fun U h1=>(nmOf a).pbind fun U h2=>some ⟨_,.attr h1 h2⟩
 | .Subscript v (.Slice lo hi none _) _=>(f k v).pbind fun U h1=>(eT (f k) lo).pbind fun U h2=>(eT (f k) hi).pbind fun U h3=>some ⟨_,.slc h1 h2 h3⟩
 | .Subscript v i _=>(f k v).pbind fun U h1=>(f k i).pbind fun U h2=>some ⟨_,.sub h1 h2⟩
 | _=>none
noncomputable def trT1(n:Nat)(k:Kd)(e:Expr):Option RT1:=vl (vR (trE n) k e)
theorem trT1_i{n:Nat}{k:Kd}{e:Expr}{r:RT1}(h:trT1 n k e=some r):InvT1 (trE n) k e r:=vl_inv (p:=InvT1 (trE n) k e) h
inductive InvT(f:Kd->Expr->Option RT1)(k:Kd):Expr->RT->Prop
 | tup {es c p ts} (h:allS (f k) es=some ts):InvT f k (.Tuple es c p) (.tup ts)
 | one {e t} (h:f k e=some t):InvT f k e (.one t)
noncomputable def vT(f:Kd->Expr->Option RT1)(k:Kd)(e:Expr):Iv (InvT f k) e:=match e with
 | .Tuple es _ _=>(allS (f k) es).pbind fun U h=>some ⟨_,.tup h⟩
 | e=>(f k e).pbind fun U h=>some ⟨_,.one h⟩
noncomputable def m4(n:Nat)(k:Kd)(e:Expr):Option RT:=vl (vT (trT1 n) k e)
theorem xA{n:Nat}{k:Kd}{e:Expr}{r:RT}(h:m4 n k e=some r):InvT (trT1 n) k e r:=vl_inv (p:=InvT (trT1 n) k e) h
theorem pb{α β:Type}{o:Option α}{a:α}{f:(a:α)->o=some a->Option β}(h:o=some a):o.pbind f=f a h:=by subst h;rfl
theorem rP{m:Nat}{k:Kd}{n:Str}{x:Nm}{p:Pos}(hx:nmOf n=some x)(hk:k n=some .local):trT1 m k (.Name n p)=some (.loc x):=by
 show vl ((nmOf n).pbind _)=_;rw [pb hx,dif_pos hk];rfl
theorem ub{m:Nat}{k:Kd}{n:Str}{x:Nm}{p:Pos}(hx:nmOf n=some x)(hk:k n=some .local):m4 m k (.Name n p)=some (.one (.loc x)):=by
 show vl ((trT1 m k (.Name n p)).pbind _)=_;rw [pb (rP hx hk)];rfl
theorem mT{α β:Type}{p:β->Prop}{o:Option α}{f:(a:α)->o=some a->Option {r:β // p r}}{r:β}(h:vl (o.pbind f)=some r):∃ a,∃ e:o=some a,vl (f a e)=some r:=by
 induction o with
 | none=>exact aA h
 | some a=>exact⟨a,rfl,h⟩
theorem rO{m:Nat}{k:Kd}{id:Str}{p:Pos}{r:RE}(h:trE m k (.Name id p)=some r):(nmOf id).isSome=true:=by
 induction m using Nat.casesOn with
 | zero=>exact aA h
 | succ m=>
  obtain ⟨x,e,_⟩:=mT (p:=InvE (trE m) k (.Name id p)) (o:=nmOf id) h
  rw [e];rfl
theorem pj{m:Nat}{k:Kd}{id:Str}{p q:Pos}{r:RE}(h:trE m k (.Call (.Name id p) [] [] q)=some r):(nmOf id).isSome=true:=by
 induction m using Nat.casesOn with
 | zero=>exact aA h
 | succ m=>
  obtain ⟨x,e,_⟩:=mT (p:=InvE (trE m) k (.Call (.Name id p) [] [] q)) (o:=trE m k (.Name id p)) h
  exact rO e
theorem tZ{m:Nat}{k:Kd}{es:List Expr}{x1:Nat}{p:Pos}{r:RE}(h:trE m k (.Tuple es x1 p)=some r):∃ m',m=m'+1/\∃ rs,allS (trE m' k) es=some rs/\r=.tup rs:=by
 induction m using Nat.casesOn with
 | zero=>exact aA h
 | succ m=>
  obtain ⟨x,e,q⟩:=mT (p:=InvE (trE m) k (.Tuple es x1 p)) (o:=allS (trE m k) es) h
  exact⟨m,rfl,x,e,(Option.some.inj q).symm⟩
noncomputable def ly(t v:Expr):Bool:=match t with
 | .Tuple ..=>(match v with | .Tuple vs _ _=>!(vs.all (constantsAlone 8)) | _=>true)
 | _=>true
inductive InvX(k:Kd):ExceptHandler->Nm×Nm->Prop
 | mk {c x c' x' p1 p2 p3 p4 p5 p6 p7 p8 p9} (h1:k c=some .globalImplicit) (h2:nmOf c=some c') (h3:nmOf x=some x') (h4:u5 c'=true) :
   InvX k (.ExceptHandler (some (.Name c p1)) none [.Return (some (.Tuple [.Constant (.str x) p2 p3,.Constant .none p4 p5] p6 p7)) p8] p9) (c',x')
def xx(k:Kd)(h:ExceptHandler):Iv (InvX k) h:=match h with
 | .ExceptHandler (some (.Name c _)) none [.Return (some (.Tuple [.Constant (.str x) _ _,.Constant .none _ _] _ _)) _] _=>
  if h1:k c=some .globalImplicit then (nmOf c).pbind fun c' h2=>(nmOf x).pbind fun U h3=>if h4:u5 c'=true then some ⟨_,.mk h1 h2 h3 h4⟩ else none else none
 | _=>none
def fX(k:Kd)(h:ExceptHandler):Option (Nm×Nm):=vl (xx k h)
theorem pr{k:Kd}{h:ExceptHandler}{r:Nm×Nm}(e:fX k h=some r):InvX k h r:=vl_inv (p:=InvX k h) e
inductive InvS(n:Nat)(f:Kd->Stmt->Option RS)(k:Kd):Stmt->RS->Prop
 | asg {t v p t' v'} (h1:m4 n k t=some t') (h2:trE n k v=some v') (h3:ly t v=true):InvS n f k (.Assign [t] v p) (.asg t' v')
 | augA {o a q op v p o' a' v'} (h1:trE n k o=some o') (h2:nmOf a=some a') (h3:trE n k v=some v'):InvS n f k (.AugAssign (.Attribute o a q) op v p) (.augA o' a' op v')
 | augS {o i q op v p o' i' v'} (h1:trE n k o=some o') (h2:trE n k i=some i') (h3:trE n k v=some v'):InvS n f k (.AugAssign (.Subscript o i q) op v p) (.augS o' i' op v')
 | ret {e p r} (h:trE n k e=some r):InvS n f k (.Return (some e) p) (.ret r)
 | retN {p}:InvS n f k (.Return none p) .retN
 | ite {t a b p t' a' b'} (h1:trE n k t=some t') (h2:allS (f k) a=some a') (h3:allS (f k) b=some b'):InvS n f k (.If t a b p) (.ite t' a' b')
 | for {t iter body p t' kd it b} (h1:m4 n k t=some t') (h2:fC (trE n k) k iter=some (kd,it)) (h3:allS (f k) body=some b):InvS n f k (.For t iter body [] p) (.for t' kd it b)
 | expr {e p r} (h0:qH e=false) (h:trE n k e=some r):InvS n f k (.Expr e p) (.expr r)
 | del {o i q p o' i'} (h1:trE n k o=some o') (h2:trE n k i=some i'):InvS n f k (.Delete [.Subscript o i q] p) (.del o' i')
 | raise {c x p1 p2 p3 p4 p5 c'} (h1:k c=some .globalImplicit) (h2:nmOf c=some c'):InvS n f k (.Raise (some (.Call (.Name c p1) [.Constant (.str x) p2 p3] [] p4)) none p5) (.raise c')
 | bad {s}:InvS n f k s .bad
 | tryE {body hs p b hs'} (h1:allS (f k) body=some b) (h2:allS (fX k) hs=some hs'):InvS n f k (.Try body hs [] [] p) (.tryE b hs')
def vS(n:Nat)(f:Kd->Stmt->Option RS)(k:Kd)(s:Stmt):Iv (InvS n f k) s:=match s with
 | .Assign [t] v _=>(m4 n k t).pbind fun U h1=>(trE n k v).pbind fun U h2=>if h3:ly t v=true then some ⟨_,.asg h1 h2 h3⟩ else none
 | .AugAssign (.Attribute o a _) _ v _=>(trE n k o).pbind fun U h1=>(nmOf a).pbind fun U h2=>(trE n k v).pbind fun U h3=>some ⟨_,.augA h1 h2 h3⟩
 | .AugAssign (.Subscript o i _) _ v _=>(trE n k o).pbind fun U h1=>(trE n k i).pbind fun U h2=>(trE n k v).pbind fun U h3=>some ⟨_,.augS h1 h2 h3⟩
 | .Return (some e) _=>(trE n k e).pbind fun U h=>some ⟨_,.ret h⟩
 | .Return none _=>some ⟨_,.retN⟩
 | .If t a b _=>(trE n k t).pbind fun U h1=>(allS (f k) a).pbind fun U h2=>(allS (f k) b).pbind fun U h3=>some ⟨_,.ite h1 h2 h3⟩
 | .For t iter body [] _=>(m4 n k t).pbind fun U h1=>(fC (trE n k) k iter).pbind fun (_,_) h2=>(allS (f k) body).pbind fun U h3=>some ⟨_,.for h1 h2 h3⟩
 | .Expr e _=>if h0:qH e=false then (trE n k e).pbind fun U h=>some ⟨_,.expr h0 h⟩ else none
 | .Delete [.Subscript o i _] _=>(trE n k o).pbind fun U h1=>(trE n k i).pbind fun U h2=>some ⟨_,.del h1 h2⟩
 | .Raise (some (.Call (.Name c _) [.Constant (.str _) _ _] [] _)) none _=>if h1:k c=some .globalImplicit then (nmOf c).pbind fun U h2=>some ⟨_,.raise h1 h2⟩ else none
 | .Raise _ _ _=>some ⟨_,.bad⟩
 | .Try body hs [] [] _=>(allS (f k) body).pbind fun U h1=>(allS (fX k) hs).pbind fun U h2=>some ⟨_,.tryE h1 h2⟩
 | _=>none
def trS:Nat->Kd->Stmt->Option RS
 | 0,_,_=>none
 | n+1,k,s=>vl (vS n (trS n) k s)
theorem ua{n:Nat}{k:Kd}{s:Stmt}{r:RS}(h:trS (n+1) k s=some r):InvS n (trS n) k s r:=vl_inv (p:=InvS n (trS n) k s) h
inductive AV
 | none | bool (b:Bool) | int (i:Int) | str (s:Nm) | bytes (b:List UInt8)
 | obj (i:Nat) | base (a:Nat) | bf (f:Bf)
@[reducible] noncomputable def AV.ctorIdx(t:AV):Nat:=AV.casesOn (motive:=fun U=>Nat) t 0 (fun U=>1) (fun U=>2) (fun U=>3) (fun U=>4) (fun U=>5) (fun U=>6) (fun U=>7)
set_option genInjectivity true in
inductive AO
 | inst (C d:Nat)
 | sd (l:List (Nm×AV))
 | idd (l:List (Int×AV))
 | frz (l:List (Int×AV))
 | fl (l:List AV)
 | li (l:List AV)
 | tu (l:List AV)
 | ba (b:List UInt8)
 | ce (v:Option AV)
 | lam (body:RE) (cells:List (Nm×Nat))
@[reducible] noncomputable def AO.ctorIdx(t:AO):Nat:=AO.casesOn (motive:=fun U=>Nat) t (fun U U=>0) (fun U=>1) (fun U=>2) (fun U=>3) (fun U=>4) (fun U=>5) (fun U=>6) (fun U=>7) (fun U=>8) (fun U U=>9)
noncomputable def AO.fz:AO->Bool
 | .frz _ | .fl _=>true
 | _=>false
set_option genInjectivity true in
structure St where
 H:Nat->Option AO
 n:Nat
 m:List (Nm×AV)
inductive Res(α:Type)
 | ok (a:α) (s:St)
 | exc (C:Nat) (s:St)
 | bad
@[reducible] noncomputable def Res.ctorIdx{α:Type}(t:Res α):Nat:=Res.casesOn (motive:=fun U=>Nat) t (fun U U=>0) (fun U U=>1) 2
theorem xL{α:Type}{a:α}{s:St}{p:Prop}(h:(Res.bad:Res α)=.ok a s):p:=nomatch h
theorem yZ{α:Type}{C:Nat}{s:St}{p:Prop}(h:(Res.bad:Res α)=.exc C s):p:=nomatch h
theorem zN{α:Type}{a:α}{C:Nat}{s s':St}{p:Prop}(h:(Res.ok a s:Res α)=.exc C s'):p:=nomatch h
theorem w_{α:Type}{a:α}{s:St}:(Res.ok a s:Res α)≠.bad:=nofun
theorem xM{α:Type}{C:Nat}{s:St}:(Res.exc C s:Res α)≠.bad:=nofun
noncomputable def Res.bind{α β:Type}(x:Res α)(f:α->St->Res β):Res β:=
 match x with
 | .ok a s=>f a s
 | .exc C s=>.exc C s
 | .bad=>.bad
noncomputable def lift{α:Type}(o:Option α)(s:St):Res α:=match o with | some a=>.ok a s | .none=>.bad
noncomputable def st{α β:Type}[DecidableEq α]:List (α×β)->α->β->List (α×β)
 | [],x,v=>[(x,v)]
 | (a,b)::l,x,v=>if a=x then (a,v)::l else (a,b)::st l x v
noncomputable def rm{α β:Type}[DecidableEq α]:List (α×β)->α->List (α×β)
 | [],_=>[]
 | (a,b)::l,x=>if a=x then l else (a,b)::rm l x
theorem b8{α β:Type}[DecidableEq α]{x:α}{v:β}:st [] x v=[(x,v)]:=rfl
theorem bE{α β:Type}[DecidableEq α]{a x:α}{b v:β}{l:List (α×β)}:st ((a,b)::l) x v=if a=x then (a,v)::l else (a,b)::st l x v:=rfl
theorem eU{α β:Type}[DecidableEq α]{x:α}:rm ([]:List (α×β)) x=[]:=rfl
theorem dK{α β:Type}[DecidableEq α]{a x:α}{b:β}{l:List (α×β)}:rm ((a,b)::l) x=if a=x then l else (a,b)::rm l x:=rfl
theorem bw{α β:Type}[DecidableEq α](l:List (α×β))(x y:α)(v:β):lk (st l x v) y=if x=y then some v else lk l y:=by
 induction l with
 | nil=>rfl
 | cons p l ih=>
  rw [bE];by_cases h:p.1=x
  ·rw [if_pos h,aP,aP,h];by_cases q:x=y
   ·rw [if_pos q,if_pos q]
   ·rw [if_neg q,if_neg q,if_neg q]
  ·rw [if_neg h,aP,aP,ih];by_cases q:x=y
   ·rw [if_pos q,if_neg fun z=>h (z.trans q.symm),if_pos q]
   ·rw [if_neg q,if_neg q]
noncomputable def St.set(s:St)(i:Nat)(o:AO):St:={ s with H:=fun j=>if j=i then some o else s.H j }
noncomputable def St.push(s:St)(o:AO):St:={ s with H:=fun j=>if j=s.n then some o else s.H j,n:=s.n+1 }
def St.var(s:St)(x:Nm)(v:AV):St:={ s with m:=st s.m x v }
noncomputable def St.at(s:St)(v:AV):Option AO:=match v with | .obj i=>s.H i | _=>.none
noncomputable def St.new(s:St)(o:AO):Res AV:=.ok (.obj s.n) (s.push o)
structure FI where
 params:List Nm
 cells:List Nm
 tab:Nat
 body:List RS
structure AEnv where
 cells:List (Nm×Nat)
 tab:Nat
inductive Flow
 | next
 | ret (v:AV)
@[reducible] noncomputable def Flow.ctorIdx(t:Flow):Nat:=Flow.casesOn (motive:=fun U=>Nat) t 0 (fun U=>1)
noncomputable def tC:List (Nat×List Nm):=[(189,[.number,.data,.holders,.pins]),(304,[.disk,.most,.size,.row,.by_number,.hits,.reads,.writes]),(402,[.blocks,.size,.kept,.latest,.unflushed,.writes,.flushes,.last,.last_flush,.is_dead])]
def okData(C:Nat)(n:Nm):Bool:=match lk tC C with | some l=>decide (n∈l) | .none=>false
noncomputable def methL:List (Nat×List (Nm×Nat)):=[(189,[(.is_free,118),(.octets,125),(.need_part,132),(.take,139),(.put,146),(.fill,153),(.clear,160),(.little,167),(.put_little,172),(.bit,179),(.put_bit,186)]),
 (304,[(.need_block,214),(.need_held,221),(.get,228),(.make_room,235),(.release,242),(.pin,249),(.unpin,256),(.write,263),(.peek,277),(.poke,284),(.known,289),(.free_count,294),(.forget,301)]),
 (402,[(.need_power,329),(.need_block,336),(.read,343),(.write,350)])]
def ek(C:Nat)(n:Nm):Option Nat:=match lk methL C with | some l=>lk l n | .none=>.none
noncomputable def initL:List (Nat×Nat):=[(189,111),(304,207),(402,322)]
noncomputable def bW(C:Nat):Option Nat:=lk initL C
noncomputable def gloL:List (Nm×AV):=[(.Buffer,.base 189),(.Cache,.base 304),(.Disk,.base 402),(.law_pool,.base 413),(.law_take,.base 420),(.law_met,.base 427),(.law_is_free,.base 434),(.law_got,.base 439),(.law_left,.base 446),
 (.law_get,.base 453),(.law_held_deed,.base 460),(.law_other_deed,.base 465),(.law_seen,.base 470),(.len,.bf .len),(.abs,.bf .abs),(.int,.bf .int),(.bytes,.bf .bytes),(.bytearray,.bf .bytearray),(.isinstance,.bf .isinstance),(.list,.bf .list),(.sorted,.bf .sorted)]
def f9(n:Nm):Option AV:=lk gloL n
noncomputable def sm(a:Int):Bool:=decide (a.natAbs<18446744073709551616)
noncomputable def dY(op:Operator)(a b:Int):Option Int:=match op with
 | .Add=>some (a+b)
 | .Sub=>some (a - b)
 | .Mult=>if sm a||sm b then some (a * b) else .none
 | .FloorDiv=>if b=0 then .none else if sm b then some (a.fdiv b) else .none
 | .Mod=>if b=0 then .none else some (a.fmod b)
 | .Pow=>if sm a&&decide (0<=b)&&decide (b<=1000) then some (a ^ b.toNat) else .none
 | .LShift=>if sm a&&decide (0<=b)&&decide (b<=1000) then some (a * 2 ^ b.toNat) else .none
 | .RShift=>if 0<=b then some (a.fdiv (2 ^ b.toNat)) else .none
 | .BitAnd=>some (Builtin.bitAnd a b)
 | .BitOr=>some (Builtin.bitOr a b)
 | _=>.none
noncomputable def bg{α:Type}(l:List α):Bool:=decide (l.length<=1000)
noncomputable def qG(a b:AV):Option (Int×Int):=match a with
 | .int x=>(match b with | .int y=>some (x,y) | _=>.none)
 | _=>.none
theorem jS{a b:AV}{p:Int×Int}(h:qG a b=some p):a=.int p.1/\b=.int p.2:=by
 induction a with
 | int x=>
  induction b with
  | int y=>rw [<- Option.some.inj h];exact⟨rfl,rfl⟩
  | _=>exact aA h
 | _=>exact aA h
noncomputable def liAt(s:St)(v:AV):Option (List AV):=match s.at v with | some (.li l)=>some l | _=>.none
noncomputable def tuAt(s:St)(v:AV):Option (List AV):=match s.at v with | some (.tu l)=>some l | _=>.none
noncomputable def iop(op:Operator)(a b:AV)(s:St):Res AV:=match qG a b with
 | some p=>lift ((dY op p.1 p.2).map .int) s
 | .none=>.bad
noncomputable def binop(op:Operator)(a b:AV)(s:St):Res AV:=match liAt s a with
 | some x=>(match op with
  | .Add=>(match liAt s b with | some y=>if bg (x++y) then s.new (.li (x++y)) else .bad | .none=>.bad)
  | _=>.bad)
 | .none=>iop op a b s
noncomputable def rS(op:UnaryOp)(a:AV)(s:St):Res AV:=match op,a with
 | .USub,.int x=>.ok (.int (-x)) s
 | .Invert,.int x=>.ok (.int (Builtin.bitNot x)) s
 | _,_=>.bad
noncomputable def eqI(s:St)(i j:Nat):Option Bool:=match s.H i with
 | some (.inst C _)=>(match s.H j with | some (.inst D _)=>if C=189/\D=189 then some (decide (i=j)) else .none | _=>.none)
 | _=>.none
def eq1(s:St)(a b:AV):Option Bool:=match a with
 | .int x=>(match b with | .int y=>some (decide (x=y)) | _=>.none)
 | .str x=>(match b with | .str y=>some (decide (x=y)) | _=>.none)
 | .bytes x=>(match b with | .bytes y=>some (decide (x=y)) | _=>.none)
 | .none=>(match b with | .none=>some true | _=>.none)
 | .obj i=>(match b with | .obj j=>eqI s i j | _=>.none)
 | _=>.none
def eqs(s:St):List AV->List AV->Option Bool
 | [],[]=>some true
 | a::x,b::y=>la (eq1 s a b) (eqs s x y)
 | _,_=>.none
def eqv(s:St)(a b:AV):Option Bool:=match liAt s a with
 | some x=>(match liAt s b with | some y=>if x.length=y.length then eqs s x y else some false | .none=>.none)
 | .none=>(match tuAt s a with
  | some x=>(match tuAt s b with | some y=>eqs s x y | .none=>.none)
  | .none=>eq1 s a b)
noncomputable def xI(s:St)(a b:AV):Option Bool:=match a with
 | .none=>(match b with | .none=>some true | .obj _=>some false | .int _=>some false | _=>.none)
 | .int _=>(match b with | .none=>some false | _=>.none)
 | .obj i=>(match b with | .none=>some false | .obj j=>eqI s i j | _=>.none)
 | _=>.none
def memv(s:St)(a:AV):List AV->Option Bool
 | []=>some false
 | b::l=>jC (fun r t=>r||t) (eq1 s b a) (memv s a l)
def wW(s:St)(a:AV)(o:Option AO):Option Bool:=match o with
 | some (.li l)=>memv s a l
 | some (.tu l)=>memv s a l
 | some (.idd l)=>(match a with | .int i=>some (lk l i).isSome | _=>.none)
 | _=>.none
def inv(s:St)(a b:AV):Option Bool:=wW s a (s.at b)
noncomputable def i_(a b:AV)(f:Int->Int->Bool):Option Bool:=match qG a b with
 | some p=>some (f p.1 p.2)
 | .none=>.none
theorem fB{a b:AV}{f:Int->Int->Bool}{r:Bool}(h:i_ a b f=some r):∃ x y,a=.int x/\b=.int y/\f x y=r:=by
 unfold i_ at h;induction e:qG a b with
 | none=>rw [e] at h;exact aA h
 | some p=>rw [e] at h;exact⟨p.1,p.2,(jS e).1,(jS e).2,Option.some.inj h⟩
def eO(op:CmpOp)(a b:AV)(s:St):Option Bool:=match op with
 | .Eq=>eqv s a b
 | .NotEq=>(eqv s a b).map (!·)
 | .Is=>xI s a b
 | .IsNot=>(xI s a b).map (!·)
 | .In=>inv s a b
 | .NotIn=>.none
 | .Lt=>i_ a b fun x y=>decide (x<y)
 | .LtE=>i_ a b fun x y=>decide (x<=y)
 | .Gt=>i_ a b fun x y=>decide (y<x)
 | .GtE=>i_ a b fun x y=>decide (y<=x)
def dc(op:CmpOp)(a b:AV)(s:St):Res Bool:=lift (eO op a b s) s
def getA(a:AV)(n:Nm)(s:St):Res AV:=match s.at a with
 | some (.inst C d)=>match s.H d,okData C n with
  | some (.sd l),true=>lift (lk l n) s
  | _,_=>.bad
 | _=>.bad
def setA(a:AV)(n:Nm)(v:AV)(s:St):Res Unit:=match s.at a with
 | some (.inst C d)=>match s.H d,okData C n with
  | some (.sd l),true=>if l.length<60 then .ok () (s.set d (.sd (st l n v))) else .bad
  | _,_=>.bad
 | _=>.bad
noncomputable def dR(i:Int)(len:Nat):Option Nat:=if 0<=i then (if i<len then some i.toNat else .none) else if 0<=i+len then some (i+len).toNat else .none
noncomputable def lf(o:AO)(i:Int)(s:St):Res AV:=match o with
 | .li l=>if bg l then lift ((dR i l.length).bind (l[·]?)) s else .bad
 | .tu l=>if bg l then lift ((dR i l.length).bind (l[·]?)) s else .bad
 | .ba l=>if bg l then lift (((dR i l.length).bind (l[·]?)).map fun b=>.int b.toNat) s else .bad
 | .idd l=>lift (lk l i) s
 | .frz l=>lift (lk l i) s
 | _=>.bad
def getX(o:AO)(x:Nm)(s:St):Res AV:=match o with
 | .sd l=>lift (lk l x) s
 | _=>.bad
def getI(a i:AV)(s:St):Res AV:=match s.at a with
 | some o=>(match i with | .int i=>lf o i s | .str x=>getX o x s | _=>.bad)
 | .none=>.bad
noncomputable def cz(v:AV):Option UInt8:=match v with | .int i=>if 0<=i/\i<256 then some i.toNat.toUInt8 else .none | _=>.none
noncomputable def rF(j:Nat)(o:AO)(i:Int)(v:AV)(s:St):Res Unit:=match o with
 | .li l=>if 0<=i/\bg l=true then (match dR i l.length with | some k=>.ok () (s.set j (.li (l.set k v))) | .none=>.bad) else .bad
 | .ba l=>if bg l=true then (match dR i l.length with | some k=>(match cz v with | some b=>.ok () (s.set j (.ba (l.set k b))) | .none=>.bad) | .none=>.bad) else .bad
 | .idd l=>if l.length<900 then .ok () (s.set j (.idd (st l i v))) else .bad
 | _=>.bad
def setX(j:Nat)(o:AO)(x:Nm)(v:AV)(s:St):Res Unit:=match o with
 | .sd l=>if l.length<60 then .ok () (s.set j (.sd (st l x v))) else .bad
 | _=>.bad
def setI(a i v:AV)(s:St):Res Unit:=match a with
 | .obj j=>(match s.H j with
  | some o=>(match i with | .int i=>rF j o i v s | .str x=>setX j o x v s | _=>.bad)
  | .none=>.bad)
 | _=>.bad
noncomputable def uX(j:Nat)(o:AO)(i:Int)(s:St):Res Unit:=match o with
 | .li l=>if bg l=true then (match dR i l.length with | some k=>.ok () (s.set j (.li (l.eraseIdx k))) | .none=>.bad) else .bad
 | .idd l=>if (lk l i).isSome&&bg l then .ok () (s.set j (.idd (rm l i))) else .bad
 | _=>.bad
noncomputable def jN(a i:AV)(s:St):Res Unit:=match a with
 | .obj j=>(match s.H j with
  | some o=>(match i with | .int i=>uX j o i s | _=>.bad)
  | .none=>.bad)
 | _=>.bad
noncomputable def ends(lo hi:Option AV)(len:Nat):Option (Nat×Nat):=match hi with
 | .none=>(match lo with | .none=>some (0,len) | some _=>.none)
 | some (.int h)=>(match lo with
  | .none=>if 0<=h then some (0,min h.toNat len) else .none
  | some (.int l)=>if 0<=l/\l<=h/\h<=len then some (l.toNat,h.toNat) else .none
  | some _=>.none)
 | some _=>.none
noncomputable def nF(o:AO)(lo hi:Option AV)(s:St):Res AV:=match o with
 | .fl l=>if bg l=true then (match ends lo hi l.length with | some (x,y)=>s.new (.li ((l.take y).drop x)) | .none=>.bad) else .bad
 | .li l=>if bg l=true then (match ends lo hi l.length with | some (x,y)=>s.new (.li ((l.take y).drop x)) | .none=>.bad) else .bad
 | .ba l=>if bg l=true then (match ends lo hi l.length with | some (x,y)=>s.new (.ba ((l.take y).drop x)) | .none=>.bad) else .bad
 | _=>.bad
noncomputable def ia(a:AV)(lo hi:Option AV)(s:St):Res AV:=match s.at a with
 | some o=>nF o lo hi s
 | .none=>.bad
open Classical in
def ki(a:AV)(lo hi:Option AV)(v:AV)(s:St):Res Unit:=match a with
 | .obj j=>(match s.H j with
  | some (.li l)=>(match s.at v with
   | some (.li r)=>(match ends lo hi l.length with
    | some (x,y)=>if r.length=y - x/\v≠a/\bg l=true then .ok () (s.set j (.li (l.take x++r++l.drop y))) else .bad
    | .none=>.bad)
   | _=>.bad)
  | some (.ba l)=>(match v with
   | .bytes r=>(match ends lo hi l.length with
    | some (x,y)=>if r.length=y - x/\bg l=true then .ok () (s.set j (.ba (l.take x++r++l.drop y))) else .bad
    | .none=>.bad)
   | _=>.bad)
  | _=>.bad)
 | _=>.bad
noncomputable def dX(l:List (Int×AV)):List Int:=l.map (·.1)
noncomputable def r6(x:Int):List Int->List Int
 | []=>[x]
 | y::l=>if x<=y then x::y::l else y::r6 x l
theorem fA{x:Int}:r6 x []=[x]:=rfl
theorem dW{x y:Int}{l:List Int}:r6 x (y::l)=if x<=y then x::y::l else y::r6 x l:=rfl
noncomputable def sortI:List Int->List Int
 | []=>[]
 | x::l=>r6 x (sortI l)
theorem ph:sortI []=[]:=rfl
theorem mY{x:Int}{l:List Int}:sortI (x::l)=r6 x (sortI l):=rfl
noncomputable def d6:List AV->Option (List UInt8)
 | []=>some []
 | v::l=>jC (fun b r=>b::r) (cz v) (d6 l)
noncomputable def one{α:Type}(args:List AV)(k:AV->Res α):Res α:=match args with
 | []=>.bad
 | v::r=>(match r with | []=>k v | _::_=>.bad)
noncomputable def two{α:Type}(args:List AV)(k:AV->AV->Res α):Res α:=match args with
 | []=>.bad
 | v::r=>one r (k v)
noncomputable def lenB(v:AV)(s:St):Res AV:=match v with
 | .bytes b=>if bg b then .ok (.int b.length) s else .bad
 | .obj i=>(match s.H i with
  | some (.fl l)=>if bg l then .ok (.int l.length) s else .bad
  | some (.li l)=>if bg l then .ok (.int l.length) s else .bad
  | some (.ba l)=>if bg l then .ok (.int l.length) s else .bad
  | _=>.bad)
 | _=>.bad
noncomputable def bytesB(v:AV)(s:St):Res AV:=match v with
 | .int i=>if 0<=i/\i<1000 then .ok (.bytes (List.replicate i.toNat 0)) s else .bad
 | .bytes b=>.ok (.bytes b) s
 | .obj i=>(match s.H i with
  | some (.ba l)=>if bg l then .ok (.bytes l) s else .bad
  | some (.li l)=>if bg l=true then (match d6 l with | some b=>.ok (.bytes b) s | .none=>.bad) else .bad
  | _=>.bad)
 | _=>.bad
noncomputable def listB(v:AV)(s:St):Res AV:=match v with
 | .bytes b=>if bg b then s.new (.li (b.map fun x=>.int x.toNat)) else .bad
 | .obj i=>(match s.H i with
  | some (.li l)=>if bg l then s.new (.li l) else .bad
  | _=>.bad)
 | _=>.bad
noncomputable def sortedB(v:AV)(s:St):Res AV:=match v with
 | .obj i=>(match s.H i with
  | some (.idd l)=>if l.length<64 then s.new (.li ((sortI (dX l)).map .int)) else .bad
  | _=>.bad)
 | _=>.bad
open Classical in
def cU(f:Bf)(args:List AV)(s:St):Res AV:=match f with
 | .len=>one args fun v=>lenB v s
 | .abs=>one args fun v=>(match v with | .int i=>.ok (.int i.natAbs) s | _=>.bad)
 | .int=>one args fun v=>(match v with | .int i=>.ok (.int i) s | .bool b=>.ok (.int (if b then 1 else 0)) s | _=>.bad)
 | .isinstance=>two args fun v u=>if u=.bf .int then (match v with | .int _=>.ok (.bool true) s | .none=>.ok (.bool false) s | _=>.bad) else .bad
 | .bytes=>one args fun v=>bytesB v s
 | .bytearray=>one args fun v=>(match v with | .bytes b=>if bg b then s.new (.ba b) else .bad | _=>.bad)
 | .list=>one args fun v=>listB v s
 | .sorted=>one args fun v=>sortedB v s
inductive Cal
 | fn (f:Nat) (self:AV)
 | bm (n:Nm) (i:Nat)
@[reducible] noncomputable def Cal.ctorIdx(t:Cal):Nat:=Cal.casesOn (motive:=fun U=>Nat) t (fun U U=>0) (fun U U=>1)
def fJ(a:AV)(n:Nm)(s:St):Option Cal:=match a with
 | .obj i=>(match s.H i with
  | some (.inst C d)=>(match s.H d with
   | some (.sd l)=>(match ek C n with | some f=>if (lk l n).isNone then some (.fn f a) else .none | .none=>.none)
   | _=>.none)
  | some (.li _)=>if n=.append∨n=.remove then some (.bm n i) else .none
  | some (.idd _)=>if n=.get∨n=.pop then some (.bm n i) else .none
  | _=>.none)
 | _=>.none
def j_(s:St)(a:AV):List AV->Option Nat
 | []=>.none
 | b::l=>lB (eq1 s b a) (j_ s a l)
noncomputable def wI(i:Nat)(l:List AV)(args:List AV)(s:St):Res AV:=one args fun v=>if l.length<1000 then .ok .none (s.set i (.li (l++[v]))) else .bad
def vq(i:Nat)(l:List AV)(args:List AV)(s:St):Res AV:=one args fun v=>if bg l=true then (match j_ s v l with | some k=>.ok .none (s.set i (.li (l.eraseIdx k))) | .none=>.bad) else .bad
noncomputable def u_(l:List (Int×AV))(args:List AV)(s:St):Res AV:=match args with
 | .int k::r=>(match r with
  | []=>.ok ((lk l k).getD .none) s
  | d::r=>(match r with | []=>.ok ((lk l k).getD d) s | _::_=>.bad))
 | _=>.bad
noncomputable def vo(i:Nat)(l:List (Int×AV))(args:List AV)(s:St):Res AV:=one args fun v=>(match v with
 | .int k=>if bg l=true then (match lk l k with | some v=>.ok v (s.set i (.idd (rm l k))) | .none=>.bad) else .bad
 | _=>.bad)
def bB(n:Nm)(i:Nat)(args:List AV)(s:St):Res AV:=match s.H i with
 | some (.li l)=>if n=.append then wI i l args s else if n=.remove then vq i l args s else .bad
 | some (.idd l)=>if n=.get then u_ l args s else if n=.pop then vo i l args s else .bad
 | _=>.bad
def ig(env:AEnv)(x:Nm)(s:St):Res AV:=match lk env.cells x with
 | some i=>match s.H i with | some (.ce (some v))=>.ok v s | _=>.bad
 | .none=>.bad
def iz(env:AEnv)(x:Nm)(v:AV)(s:St):Res Unit:=match lk env.cells x with
 | some i=>match s.H i with | some (.ce _)=>.ok () (s.set i (.ce (some v))) | _=>.bad
 | .none=>.bad
def closeC(env:AEnv):List Nm->Option (List (Nm×Nat))
 | []=>some []
 | x::l=>jC (fun i r=>(x,i)::r) (lk env.cells x) (closeC env l)
noncomputable def fT(v:AV)(s:St):Res Bool:=match v with | .bool b=>.ok b s | _=>.bad
structure Fns where
 E:AEnv->RE->St->Res AV
 T:AEnv->RE->St->Res Bool
 S:AEnv->List RS->St->Res Flow
noncomputable def bx{α β:Type}(f:α->St->Res β):List α->St->Res (List β)
 | [],s=>.ok [] s
 | a::l,s=>(f a s).bind fun b s=>(bx f l s).bind fun r s=>.ok (b::r) s
noncomputable def iL{α β:Type}(f:α->St->Res β):Option α->St->Res (Option β)
 | .none,s=>.ok .none s
 | some a,s=>(f a s).bind fun b s=>.ok (some b) s
inductive Itk
 | list (i:Nat) | keys (i:Nat) | range (n:Nat) | enum (i:Nat) | rev (b:List UInt8)
@[reducible] noncomputable def Itk.ctorIdx(t:Itk):Nat:=Itk.casesOn (motive:=fun U=>Nat) t (fun U=>0) (fun U=>1) (fun U=>2) (fun U=>3) (fun U=>4)
noncomputable def itkOf(kind:Nat)(v:AV)(s:St):Option Itk:=match kind with
 | 0=>(match v with
  | .obj i=>(match s.H i with | some (.li _)=>some (.list i) | some (.idd _)=>some (.keys i) | _=>.none)
  | _=>.none)
 | 1=>(match v with | .int n=>if 0<=n/\n<1000 then some (.range n.toNat) else .none | _=>.none)
 | 2=>(match v with
  | .obj i=>(match s.H i with | some (.li _)=>some (.enum i) | _=>.none)
  | _=>.none)
 | 3=>(match v with | .bytes b=>if bg b then some (.rev b) else .none | _=>.none)
 | _=>.none
noncomputable def onLi{α:Type}(s:St)(i:Nat)(k:List AV->Option α):Res (Option α):=match s.H i with | some (.li l)=>.ok (k l) s | _=>.bad
noncomputable def onFrz{α:Type}(s:St)(i:Nat)(k:List (Int×AV)->Option α):Res (Option α):=match s.H i with | some (.frz l)=>.ok (k l) s | _=>.bad
theorem el{α:Type}{s s':St}{i:Nat}{k:List AV->Option α}{a:Option α}(h:onLi s i k=.ok a s'):s'=s/\∃ l,s.H i=some (.li l)/\k l=a:=by
 unfold onLi at h;induction e:s.H i with
 | none=>rw [e] at h;exact xL h
 | some o=>
  rw [e] at h;induction o with
  | li l=>injection h with h1 h2;exact⟨h2.symm,l,rfl,h1⟩
  | _=>exact xL h
theorem io{α:Type}{s s':St}{i:Nat}{k:List (Int×AV)->Option α}{a:Option α}(h:onFrz s i k=.ok a s'):s'=s/\∃ l,s.H i=some (.frz l)/\k l=a:=by
 unfold onFrz at h;induction e:s.H i with
 | none=>rw [e] at h;exact xL h
 | some o=>
  rw [e] at h;induction o with
  | frz l=>injection h with h1 h2;exact⟨h2.symm,l,rfl,h1⟩
  | _=>exact xL h
theorem nV{α:Type}{s s':St}{i C:Nat}{k:List AV->Option α}:onLi s i k≠.exc C s':=fun h=>by
 unfold onLi at h;induction e:s.H i with
 | none=>rw [e] at h;exact yZ h
 | some o=>rw [e] at h;induction o <;> exact nomatch h
theorem q6{α:Type}{s s':St}{i C:Nat}{k:List (Int×AV)->Option α}:onFrz s i k≠.exc C s':=fun h=>by
 unfold onFrz at h;induction e:s.H i with
 | none=>rw [e] at h;exact yZ h
 | some o=>rw [e] at h;induction o <;> exact nomatch h
noncomputable def ga(k:Itk)(j:Nat)(s:St):Res (Option (List AV)):=match k with
 | .list i=>onLi s i fun l=>l[j]?.map fun v=>[v]
 | .enum i=>onLi s i fun l=>l[j]?.map fun v=>[.int j,v]
 | .keys i=>onFrz s i fun l=>l[j]?.map fun v=>[.int v.1]
 | .range n=>.ok (if j<n then some [.int j] else .none) s
 | .rev b=>.ok (b.reverse[j]?.map fun v=>[.int v.toNat]) s
theorem lx{k:Itk}{j:Nat}{o:Option (List AV)}{s s':St}(e:ga k j s=.ok o s'):s'=s:=by
 induction k with
 | list i=>exact(el e).1
 | keys i=>exact(io e).1
 | enum i=>exact(el e).1
 | range n=>injection e with _ h;exact h.symm
 | rev b=>injection e with _ h;exact h.symm
theorem gb{k:Itk}{j C:Nat}{s s':St}:ga k j s≠.exc C s':=by
 induction k with
 | list i=>exact nV
 | keys i=>exact q6
 | enum i=>exact nV
 | range n=>nofun
 | rev b=>nofun
noncomputable def r7(K:St->Res Flow)(r:Res Flow):Res Flow:=match r with
 | .ok fl s=>(match fl with | .next=>K s | .ret v=>.ok (.ret v) s)
 | .exc _ _=>.bad
 | .bad=>.bad
noncomputable def xK(body:List AV->St->Res Flow)(K:St->Res Flow)(o:Option (List AV))(s:St):Res Flow:=match o with
 | .none=>.ok .next s
 | some vs=>r7 K (body vs s)
noncomputable def yN(i:Nat)(v:AV)(s:St)(o:AO):Res Flow:=match o with | .li l=>if l.length<1000 then .ok .next (s.set i (.li (l++[v]))) else .bad | _=>.bad
noncomputable def apB(i:Nat)(v:AV)(s:St):Res Flow:=fK (s.H i) (yN i v s) .bad
noncomputable def loopR(k:Itk)(body:List AV->St->Res Flow):Nat->Nat->St->Res Flow
 | 0,_,_=>.bad
 | f+1,j,s=>(ga k j s).bind (xK body (loopR k body f (j+1)))
noncomputable def loopK(k:Itk)(body:List AV->St->Res Flow)(s:St):Res Flow:=match k with
 | .keys i=>match s.H i with
  | some (.idd l)=>match loopR k body 100 0 (s.set i (.frz l)) with
   | .ok fl s=>match s.H i with | some (.frz l)=>.ok fl (s.set i (.idd l)) | _=>.bad
   | _=>.bad
  | _=>.bad
 | k=>loopR k body 100 0 s
def asg1(F:Fns)(env:AEnv)(t:RT1)(v:AV)(s:St):Res Unit:=match t with
 | .loc x=>.ok () (s.var x v)
 | .cel x=>iz env x v s
 | .attr e n=>(F.E env e s).bind fun o s=>setA o n v s
 | .sub e i=>(F.E env e s).bind fun o s=>(F.E env i s).bind fun i s=>setI o i v s
 | .slc e lo hi=>(F.E env e s).bind fun o s=>(iL (F.E env) lo s).bind fun a s=>(iL (F.E env) hi s).bind fun b s=>ki o a b v s
def asgL(F:Fns)(env:AEnv):List RT1->List AV->St->Res Unit
 | [],[],s=>.ok () s
 | t::ts,v::vs,s=>(asg1 F env t v s).bind fun U s=>asgL F env ts vs s
 | _,_,_=>.bad
def iE(F:Fns)(env:AEnv)(ts:List RT1)(s:St)(o:Option AO):Res Unit:=match o with
 | some o=>(match o with | .tu vs=>if ts.length=vs.length then asgL F env ts vs s else .bad | _=>.bad)
 | .none=>.bad
def asgT(F:Fns)(env:AEnv)(t:RT)(v:AV)(s:St):Res Unit:=match t with
 | .one t=>asg1 F env t v s
 | .tup ts=>iE F env ts s (s.at v)
def dT(F:Fns)(env:AEnv)(t:RT)(vs:List AV)(s:St):Res Unit:=match t with
 | .one t=>asgL F env [t] vs s
 | .tup ts=>match vs with | [_,_]=>if ts.length=2 then asgL F env ts vs s else .bad | _=>.bad
def chain(F:Fns)(env:AEnv)(l:AV):List (CmpOp×RE)->St->Res Bool
 | [],_=>.bad
 | [(op,r)],s=>(F.E env r s).bind fun b s=>dc op l b s
 | (op,r)::rest,s=>(F.E env r s).bind fun b s=>(dc op l b s).bind fun c s=>if c then chain F env b rest s else .ok false s
noncomputable def kQ(F:Fns)(env:AEnv)(op:BoolOp):List RE->St->Res AV
 | [],_=>.bad
 | [e],s=>F.E env e s
 | e::es,s=>(F.E env e s).bind fun v s=>(fT v s).bind fun b s=>if b=(op==.And) then kQ F env op es s else .ok v s
noncomputable def dP(F:Fns)(env:AEnv)(op:BoolOp):List RE->St->Res Bool
 | [],s=>.ok (op==.And) s
 | e::es,s=>(F.T env e s).bind fun b s=>if b=(op==.And) then dP F env op es s else .ok b s
abbrev b9:=AV->List AV->St->Res AV
def stepE(C:b9)(F:Fns)(env:AEnv)(e:RE)(s:St):Res AV:=match e with
 | .none=>.ok .none s
 | .bool b=>.ok (.bool b) s
 | .int i=>.ok (.int i) s
 | .str x=>.ok (.str x) s
 | .loc x=>lift (lk s.m x) s
 | .cel x=>ig env x s
 | .glo x=>lift (f9 x) s
 | .attr e n=>(F.E env e s).bind fun o s=>getA o n s
 | .sub e i=>(F.E env e s).bind fun o s=>(F.E env i s).bind fun i s=>getI o i s
 | .slc e lo hi=>(F.E env e s).bind fun o s=>(iL (F.E env) lo s).bind fun a s=>(iL (F.E env) hi s).bind fun b s=>ia o a b s
 | .call f args=>(F.E env f s).bind fun g s=>(bx (F.E env) args s).bind fun as s=>C g as s
 | .mcall o n args=>(F.E env o s).bind fun a s=>match fJ a n s with
  | some (.fn f self)=>(bx (F.E env) args s).bind fun as s=>C (.base f) (self::as) s
  | some (.bm n i)=>(bx (F.E env) args s).bind fun as s=>bB n i as s
  | .none=>.bad
 | .bin op a b=>(F.E env a s).bind fun a s=>(F.E env b s).bind fun b s=>binop op a b s
 | .un op a=>match op with
  | .Not=>(F.E env a s).bind fun v s=>(fT v s).bind fun b s=>.ok (.bool (!b)) s
  | op=>(F.E env a s).bind fun v s=>rS op v s
 | .bop op es=>kQ F env op es s
 | .cmp l ops=>(F.E env l s).bind fun a s=>(chain F env a ops s).bind fun b s=>.ok (.bool b) s
 | .ife t a b=>(F.T env t s).bind fun c s=>if c then F.E env a s else F.E env b s
 | .list es=>(bx (F.E env) es s).bind fun vs s=>if bg vs then s.new (.li vs) else .bad
 | .tup es=>(bx (F.E env) es s).bind fun vs s=>if bg vs then s.new (.tu vs) else .bad
 | .dict kvs=>if kvs.length<=15/\(kvs.map (·.1)).Nodup then (s.new (.idd [])).bind fun d s=>(bx (F.E env) (kvs.map (·.2)) s).bind fun vs s=>
   match d,kvs,s.at d with
   | d,[],_=>.ok d s
   | .obj i,kvs,some (.idd [])=>.ok (.obj i) (s.set i (.sd ((kvs.map (·.1)).zip vs)))
   | _,_,_=>.bad
   else .bad
 | .comp elt x kind iter ifs frees=>(F.E env iter s).bind fun v s=>match itkOf kind v s,closeC env frees with
  | some k,some cells=>(s.new (.li [])).bind fun acc s=>match acc with
   | .obj i=>
    let env':AEnv:=⟨cells,env.tab⟩
    let m:=s.m
    (loopK k (fun vs s=>(asgL F env' [.loc x] vs s).bind fun U s=>(dP F env' .And ifs s).bind fun b s=>
     if b then (F.E env' elt s).bind fun v s=>apB i v s
     else .ok .next s) { s with m:=[] }).bind fun fl s=>match fl with | .next=>.ok (.obj i) { s with m:=m } | .ret _=>.bad
   | _=>.bad
  | _,_=>.bad
 | .lam body frees=>match closeC env frees,env.tab with
  | some cells,_+1=>s.new (.lam body cells)
  | _,_=>.bad
def stepT(F:Fns)(env:AEnv)(e:RE)(s:St):Res Bool:=match e with
 | .un .Not a=>(F.T env a s).bind fun b s=>.ok (!b) s
 | .bop op es=>dP F env op es s
 | .ife t a b=>(F.T env t s).bind fun c s=>if c then F.T env a s else F.T env b s
 | .cmp l ops=>(F.E env l s).bind fun a s=>chain F env a ops s
 | e=>(F.E env e s).bind fun v s=>fT v s
def step1(F:Fns)(env:AEnv)(x:RS)(s:St):Res Flow:=match x with
 | .asg t e=>(F.E env e s).bind fun v s=>(asgT F env t v s).bind fun U s=>.ok .next s
 | .augA e n op v=>(F.E env e s).bind fun o s=>(getA o n s).bind fun a s=>(F.E env v s).bind fun b s=>(iop op a b s).bind fun r s=>(setA o n r s).bind fun U s=>.ok .next s
 | .augS e i op v=>(F.E env e s).bind fun o s=>(F.E env i s).bind fun i s=>(getI o i s).bind fun a s=>(F.E env v s).bind fun b s=>(iop op a b s).bind fun r s=>(setI o i r s).bind fun U s=>.ok .next s
 | .ret e=>(F.E env e s).bind fun v s=>.ok (.ret v) s
 | .retN=>.ok (.ret .none) s
 | .ite t a b=>(F.T env t s).bind fun c s=>if c then F.S env a s else F.S env b s
 | .for t kind iter body=>(F.E env iter s).bind fun v s=>match itkOf kind v s with
  | some k=>loopK k (fun vs s=>(dT F env t vs s).bind fun U s=>F.S env body s) s
  | .none=>.bad
 | .expr e=>(F.E env e s).bind fun U s=>.ok .next s
 | .del e i=>(F.E env e s).bind fun o s=>(F.E env i s).bind fun i s=>(jN o i s).bind fun U s=>.ok .next s
 | .raise c=>match excTab c with | some C=>.exc C s | .none=>.bad
 | .tryE body hs=>match F.S env body s with
  | .exc C s=>match hs.find? (fun h=>decide (excTab h.1=some C)) with
   | some h=>(s.new (.tu [.str h.2,.none])).bind fun v s=>.ok (.ret v) s
   | .none=>.bad
  | r=>r
 | .bad=>.bad
def stepS(F:Fns)(env:AEnv):List RS->St->Res Flow
 | [],s=>.ok .next s
 | x::l,s=>(step1 F env x s).bind fun fl s=>match fl with | .next=>stepS F env l s | .ret v=>.ok (.ret v) s
def aL(C:b9):Nat->Fns
 | 0=>⟨fun U U U=>.bad,fun U U U=>.bad,fun U U U=>.bad⟩
 | n+1=>⟨stepE C (aL C n),stepT (aL C n),stepS (aL C n)⟩
noncomputable def aR:List Nm->List (Nm×Nat)->St->List (Nm×Nat)×St
 | [],cs,s=>(cs,s)
 | x::l,cs,s=>aR l ((x,s.n)::cs) (s.push (.ce .none))
theorem mu{cs:List (Nm×Nat)}{s:St}:aR [] cs s=(cs,s):=rfl
theorem kZ{x:Nm}{l:List Nm}{cs:List (Nm×Nat)}{s:St}:aR (x::l) cs s=aR l ((x,s.n)::cs) (s.push (.ce .none)):=rfl
def bindsR(cs:List (Nm×Nat)):List Nm->List AV->St->Res Unit
 | [],[],s=>.ok () s
 | p::ps,v::vs,s=>(match lk cs p with | some i=>.ok () (s.set i (.ce (some v))) | .none=>.ok () (s.var p v):Res Unit).bind fun U s=>bindsR cs ps vs s
 | _,_,_=>.bad
noncomputable def back{α:Type}(m:List (Nm×AV))(r:Res α):Res α:=match r with
 | .ok v s=>.ok v { s with m:=m }
 | .exc C s=>.exc C { s with m:=m }
 | .bad=>.bad
noncomputable def dO(r:Res Flow):Res AV:=r.bind fun fl s=>match fl with | .next=>.ok .none s | .ret v=>.ok v s
def runF(F:Fns)(fi:FI)(args:List AV)(s:St):Res AV:=
 let (cs,s1):=aR fi.cells [] { s with m:=[] }
 back s.m ((bindsR cs fi.params args s1).bind fun U s=>dO (F.S ⟨cs,fi.tab⟩ fi.body s))
noncomputable def made(i:Nat)(v:AV)(s:St):Res AV:=match v with | .none=>.ok (.obj i) s | _=>.bad
def yV(F:Fns)(a:Nat)(args:List AV)(s:St)(x:Option FI):Res AV:=match x with
 | some fi=>(runF F fi (.obj (s.n+1)::args) ((s.push (.sd [])).push (.inst a s.n))).bind (made (s.n+1))
 | .none=>.bad
def yW(F:Fns)(args:List AV)(s:St)(x:Option FI):Res AV:=match x with
 | some fi=>runF F fi args s
 | .none=>.bad
def yy(T:Nat->Option FI)(F:Fns)(a:Nat)(args:List AV)(s:St)(x:Option Nat):Res AV:=match x with
 | some i=>yV F a args s (T i)
 | .none=>yW F args s (T a)
noncomputable def yX(F:Fns)(args:List AV)(s:St)(x:Option AO):Res AV:=match x with
 | some o=>(match o with
  | .lam body cells=>(match args with | []=>back s.m (F.E ⟨cells,0⟩ body { s with m:=[] }) | _::_=>.bad)
  | _=>.bad)
 | .none=>.bad
def lvl(T:Nat->Option FI):Nat->b9
 | 0=>fun U U U=>.bad
 | k+1=>fun f args s=>match f with
  | .base a=>yy T (aL (lvl T k) 60) a args s (bW a)
  | .bf f=>cU f args s
  | .obj i=>yX (aL (lvl T k) 60) args s (s.H i)
  | _=>.bad
section
variable {T:Nat->Option FI}{k a i:Nat}{args:List AV}{s:St}
theorem jX{x:Option FI}(e1:bW a=some i)(e2:T i=x):lvl T (k+1) (.base a) args s=yV (aL (lvl T k) 60) a args s x:=by
 show yy T (aL (lvl T k) 60) a args s (bW a)=_;rw [e1,<- e2];rfl
theorem fH{x:Option FI}(e1:bW a=none)(e2:T a=x):lvl T (k+1) (.base a) args s=yW (aL (lvl T k) 60) args s x:=by
 show yy T (aL (lvl T k) 60) a args s (bW a)=_;rw [e1,<- e2];rfl
theorem fI{x:Option AO}(e:s.H i=x):lvl T (k+1) (.obj i) args s=yX (aL (lvl T k) 60) args s x:=e▸rfl
end
end Mine.Lake
end
section
set_option backward.match.sparseCases false
open PySem PySem.W
namespace Mine.Lake
noncomputable def nz:List (Nat×Nat):=[(452,448),(459,455),(464,462)]
noncomputable def vW:Value->Option Nat
 | .ref a=>(match lk nz a with | some t=>some t | none=>some 0)
 | _=>some 0
inductive InvF(A:Arguments)(B:FuncBody)(S:Scope)(t:Nat):FI->Prop
 | mk {as b ps cs body} (hp:A=⟨[],as,none,[],[],none,[]⟩) (hb:B=.stmts b) (h1:allS (fun a:Arg=>nmOf a.arg) as=some ps)
   (h2:allS (fun p:Str×NameKind=>nmOf p.1) (S.names.filter fun p=>p.2==.cell)=some cs)(h3:allS (trS 60 fun s=>S.names.lookup s) b=some body):InvF A B S t ⟨ps,cs,t,body⟩
def yG(A:Arguments)(B:FuncBody)(S:Scope)(t:Nat):Option {r:FI // InvF A B S t r}:=
 match hp:A with
 | ⟨[],as,none,[],[],none,[]⟩=>(match hb:B with
  | .stmts b=>(allS (fun a:Arg=>nmOf a.arg) as).pbind fun U h1=>(allS (fun p:Str×NameKind=>nmOf p.1) (S.names.filter fun p=>p.2==.cell)).pbind fun U h2=>
    (allS (trS 60 fun s=>S.names.lookup s) b).pbind fun U h3=>some ⟨_,.mk rfl rfl h1 h2 h3⟩
  | _=>none)
 | _=>none
def zG(A:Arguments)(B:FuncBody)(S:Scope)(t:Nat):Option FI:=vl (yG A B S t)
def c111:FI:=⟨[.self,.number,.octets],[],0,[
 .asg (.one (.attr (.loc .self) .number)) (.loc .number),
 .asg (.one (.attr (.loc .self) .data)) (.call (.glo .bytearray) [.loc .octets]),
 .asg (.one (.attr (.loc .self) .holders)) (.int 0),
 .asg (.one (.attr (.loc .self) .pins)) (.int 0)]⟩
def c118:FI:=⟨[.self],[],0,[
 .ret (.bop .And [.cmp (.attr (.loc .self) .holders) [(.Eq,(.int 0))],.cmp (.attr (.loc .self) .pins) [(.Eq,(.int 0))]])]⟩
def c125:FI:=⟨[.self],[],0,[
 .ret (.call (.glo .bytes) [.attr (.loc .self) .data])]⟩
def c132:FI:=⟨[.self,.place,.count],[],0,[
 .ite (.bop .Or [.cmp (.loc .place) [(.Lt,(.int 0))],.cmp (.loc .count) [(.Lt,(.int 0))],.cmp (.bin .Add (.loc .place) (.loc .count)) [(.Gt,(.call (.glo .len) [.attr (.loc .self) .data]))]]) [.raise .BadArgument] []]⟩
def c139:FI:=⟨[.self,.place,.count],[],0,[
 .expr (.mcall (.loc .self) .need_part [.loc .place,.loc .count]),
 .ret (.call (.glo .bytes) [.slc (.attr (.loc .self) .data) (some (.loc .place)) (some (.bin .Add (.loc .place) (.loc .count)))])]⟩
def c146:FI:=⟨[.self,.place,.octets],[],0,[
 .expr (.mcall (.loc .self) .need_part [.loc .place,.call (.glo .len) [.loc .octets]]),
 .asg (.one (.slc (.attr (.loc .self) .data) (some (.loc .place)) (some (.bin .Add (.loc .place) (.call (.glo .len) [.loc .octets]))))) (.loc .octets)]⟩
def c153:FI:=⟨[.self,.octets],[],0,[
 .ite (.cmp (.call (.glo .len) [.loc .octets]) [(.NotEq,(.call (.glo .len) [.attr (.loc .self) .data]))]) [.raise .BadArgument] [],
 .asg (.one (.slc (.attr (.loc .self) .data) none none)) (.loc .octets)]⟩
def c160:FI:=⟨[.self],[],0,[
 .asg (.one (.slc (.attr (.loc .self) .data) none none)) (.call (.glo .bytes) [.call (.glo .len) [.attr (.loc .self) .data]])]⟩
def c167:FI:=⟨[.self,.place,.count],[],0,[
 .asg (.one (.loc .found)) (.int 0),
 .for (.one (.loc .octet)) 3 (.mcall (.loc .self) .take [.loc .place,.loc .count]) [.asg (.one (.loc .found)) (.bin .BitOr (.bin .LShift (.loc .found) (.int 8)) (.loc .octet))],
 .ret (.loc .found)]⟩
def c172:FI:=⟨[.self,.place,.count,.value],[.value],0,[
 .ite (.bop .Or [.cmp (.cel .value) [(.Lt,(.int 0))],.cmp (.bin .RShift (.cel .value) (.bin .Mult (.int 8) (.loc .count))) [(.NotEq,(.int 0))]]) [.raise .BadArgument] [],
 .expr (.mcall (.loc .self) .put [.loc .place,.call (.glo .bytes) [.comp (.bin .BitAnd (.bin .RShift (.cel .value) (.bin .Mult (.int 8) (.loc .at))) (.int 255)) .at 1 (.loc .count) [] [.value]]])]⟩
def c179:FI:=⟨[.self,.place],[],0,[
 .expr (.mcall (.loc .self) .need_part [.bin .RShift (.loc .place) (.int 3),.int 1]),
 .ret (.bin .BitAnd (.bin .RShift (.sub (.attr (.loc .self) .data) (.bin .RShift (.loc .place) (.int 3))) (.bin .BitAnd (.loc .place) (.int 7))) (.int 1))]⟩
def c186:FI:=⟨[.self,.place,.value],[],0,[
 .expr (.mcall (.loc .self) .need_part [.bin .RShift (.loc .place) (.int 3),.int 1]),
 .asg (.one (.loc .mask)) (.bin .LShift (.int 1) (.bin .BitAnd (.loc .place) (.int 7))),
 .asg (.one (.sub (.attr (.loc .self) .data) (.bin .RShift (.loc .place) (.int 3)))) (.bin .BitOr (.bin .BitAnd (.sub (.attr (.loc .self) .data) (.bin .RShift (.loc .place) (.int 3))) (.un .Invert (.loc .mask))) (.bin .Mult (.loc .mask) (.call (.glo .int) [.loc .value])))]⟩
def c207:FI:=⟨[.self,.disk,.most],[],0,[
 .ite (.cmp (.loc .most) [(.Lt,(.int 1))]) [.raise .BadArgument] [],
 .asg (.one (.attr (.loc .self) .disk)) (.loc .disk),
 .asg (.one (.attr (.loc .self) .most)) (.loc .most),
 .asg (.one (.attr (.loc .self) .size)) (.attr (.loc .disk) .size),
 .asg (.one (.attr (.loc .self) .row)) (.list []),
 .asg (.one (.attr (.loc .self) .by_number)) (.dict []),
 .asg (.one (.attr (.loc .self) .hits)) (.int 0),
 .asg (.one (.attr (.loc .self) .reads)) (.int 0),
 .asg (.one (.attr (.loc .self) .writes)) (.int 0)]⟩
def c214:FI:=⟨[.self,.number],[],0,[
 .ite (.bop .Or [.un .Not (.call (.glo .isinstance) [.loc .number,.glo .int]),.un .Not (.cmp (.int 0) [(.LtE,(.loc .number)),(.Lt,(.attr (.attr (.loc .self) .disk) .blocks))])]) [.raise .BadDisk] []]⟩
def c221:FI:=⟨[.self,.buffer],[],0,[
 .ite (.bop .Or [.cmp (.mcall (.attr (.loc .self) .by_number) .get [.attr (.loc .buffer) .number]) [(.IsNot,(.loc .buffer))],.cmp (.attr (.loc .buffer) .holders) [(.Eq,(.int 0))]]) [.raise .BadArgument] []]⟩
def c228:FI:=⟨[.self,.number],[],0,[
 .expr (.mcall (.loc .self) .need_block [.loc .number]),
 .asg (.one (.loc .found)) (.mcall (.attr (.loc .self) .by_number) .get [.loc .number]),
 .ite (.cmp (.loc .found) [(.Is,.none)]) [.expr (.mcall (.loc .self) .make_room []),.asg (.one (.loc .found)) (.call (.glo .Buffer) [.loc .number,.mcall (.attr (.loc .self) .disk) .read [.loc .number]]),.augA (.loc .self) .reads .Add (.int 1),.asg (.one (.sub (.attr (.loc .self) .by_number) (.loc .number))) (.loc .found),.expr (.mcall (.attr (.loc .self) .row) .append [.loc .found])] [.augA (.loc .self) .hits .Add (.int 1)],
 .augA (.loc .found) .holders .Add (.int 1),
 .ret (.loc .found)]⟩
def c235:FI:=⟨[.self],[],0,[
 .ite (.cmp (.call (.glo .len) [.attr (.loc .self) .row]) [(.Lt,(.attr (.loc .self) .most))]) [.retN] [],
 .for (.tup [.loc .place,.loc .buffer]) 2 (.attr (.loc .self) .row) [.ite (.mcall (.loc .buffer) .is_free []) [.del (.attr (.loc .self) .by_number) (.attr (.loc .buffer) .number),.del (.attr (.loc .self) .row) (.loc .place),.retN] []],
 .raise .NoRoom]⟩
def c242:FI:=⟨[.self,.buffer],[],0,[
 .expr (.mcall (.loc .self) .need_held [.loc .buffer]),
 .augA (.loc .buffer) .holders .Sub (.int 1),
 .ite (.cmp (.attr (.loc .buffer) .holders) [(.Eq,(.int 0))]) [.expr (.mcall (.attr (.loc .self) .row) .remove [.loc .buffer]),.expr (.mcall (.attr (.loc .self) .row) .append [.loc .buffer])] []]⟩
def c249:FI:=⟨[.self,.buffer],[],0,[
 .expr (.mcall (.loc .self) .need_held [.loc .buffer]),
 .augA (.loc .buffer) .pins .Add (.int 1)]⟩
def c256:FI:=⟨[.self,.number],[],0,[
 .asg (.one (.loc .found)) (.mcall (.attr (.loc .self) .by_number) .get [.loc .number]),
 .ite (.bop .Or [.cmp (.loc .found) [(.Is,.none)],.cmp (.attr (.loc .found) .pins) [(.Eq,(.int 0))]]) [.raise .BadArgument] [],
 .augA (.loc .found) .pins .Sub (.int 1)]⟩
def c263:FI:=⟨[.self,.buffer],[],0,[
 .expr (.mcall (.loc .self) .need_held [.loc .buffer]),
 .expr (.mcall (.attr (.loc .self) .disk) .write [.attr (.loc .buffer) .number,.mcall (.loc .buffer) .octets []]),
 .augA (.loc .self) .writes .Add (.int 1)]⟩
def c277:FI:=⟨[.self,.number],[],0,[
 .asg (.one (.loc .buffer)) (.mcall (.loc .self) .get [.loc .number]),
 .asg (.one (.loc .octets)) (.mcall (.loc .buffer) .octets []),
 .expr (.mcall (.loc .self) .release [.loc .buffer]),
 .ret (.loc .octets)]⟩
def c284:FI:=⟨[.self,.number,.octets],[],0,[
 .asg (.one (.loc .buffer)) (.mcall (.loc .self) .get [.loc .number]),
 .expr (.mcall (.loc .buffer) .fill [.loc .octets]),
 .expr (.mcall (.loc .self) .write [.loc .buffer]),
 .expr (.mcall (.loc .self) .release [.loc .buffer])]⟩
def c289:FI:=⟨[.self],[],0,[
 .ret (.comp (.attr (.loc .buffer) .number) .buffer 0 (.attr (.loc .self) .row) [] [])]⟩
def c294:FI:=⟨[.self],[],0,[
 .ret (.bin .Sub (.attr (.loc .self) .most) (.call (.glo .len) [.comp (.loc .buffer) .buffer 0 (.attr (.loc .self) .row) [.un .Not (.mcall (.loc .buffer) .is_free [])] []]))]⟩
def c301:FI:=⟨[.self],[],0,[
 .for (.one (.loc .buffer)) 0 (.call (.glo .list) [.attr (.loc .self) .row]) [.ite (.mcall (.loc .buffer) .is_free []) [.del (.attr (.loc .self) .by_number) (.attr (.loc .buffer) .number),.expr (.mcall (.attr (.loc .self) .row) .remove [.loc .buffer])] []]]⟩
def c322:FI:=⟨[.self,.blocks,.size],[],0,[
 .ite (.bop .Or [.cmp (.loc .blocks) [(.Lt,(.int 1))],.cmp (.loc .size) [(.Lt,(.int 1))]]) [.raise .BadArgument] [],
 .asg (.one (.attr (.loc .self) .blocks)) (.loc .blocks),
 .asg (.one (.attr (.loc .self) .size)) (.loc .size),
 .asg (.one (.attr (.loc .self) .kept)) (.dict []),
 .asg (.one (.attr (.loc .self) .latest)) (.dict []),
 .asg (.one (.attr (.loc .self) .unflushed)) (.list []),
 .asg (.one (.attr (.loc .self) .writes)) (.int 0),
 .asg (.one (.attr (.loc .self) .flushes)) (.int 0),
 .asg (.one (.attr (.loc .self) .last)) .none,
 .asg (.one (.attr (.loc .self) .last_flush)) .none,
 .asg (.one (.attr (.loc .self) .is_dead)) (.bool false)]⟩
def c329:FI:=⟨[.self],[],0,[
 .ite (.attr (.loc .self) .is_dead) [.bad] []]⟩
def c336:FI:=⟨[.self,.number],[],0,[
 .ite (.bop .Or [.un .Not (.call (.glo .isinstance) [.loc .number,.glo .int]),.un .Not (.cmp (.int 0) [(.LtE,(.loc .number)),(.Lt,(.attr (.loc .self) .blocks))])]) [.bad] []]⟩
def c343:FI:=⟨[.self,.number],[],0,[
 .expr (.mcall (.loc .self) .need_power []),
 .expr (.mcall (.loc .self) .need_block [.loc .number]),
 .ret (.mcall (.attr (.loc .self) .latest) .get [.loc .number,.call (.glo .bytes) [.attr (.loc .self) .size]])]⟩
def c350:FI:=⟨[.self,.number,.octets],[],0,[
 .expr (.mcall (.loc .self) .need_power []),
 .expr (.mcall (.loc .self) .need_block [.loc .number]),
 .ite (.cmp (.call (.glo .len) [.loc .octets]) [(.NotEq,(.attr (.loc .self) .size))]) [.bad] [],
 .ite (.bop .And [.cmp (.attr (.loc .self) .last) [(.IsNot,.none)],.cmp (.attr (.loc .self) .writes) [(.GtE,(.attr (.loc .self) .last))]]) [.expr (.mcall (.loc .self) .fail [])] [],
 .augA (.loc .self) .writes .Add (.int 1),
 .asg (.one (.sub (.attr (.loc .self) .latest) (.loc .number))) (.call (.glo .bytes) [.loc .octets]),
 .expr (.mcall (.attr (.loc .self) .unflushed) .append [.tup [.loc .number,.call (.glo .bytes) [.loc .octets]]])]⟩
def c413:FI:=⟨[.script],[],0,[
 .asg (.one (.loc .whole)) (.int 0),
 .for (.one (.loc .cell)) 0 (.slc (.loc .script) none (some (.int 24))) [.asg (.one (.loc .whole)) (.bin .Mod (.bin .Add (.bin .Add (.bin .Mult (.loc .whole) (.int 1019)) (.bin .Mult (.int 2) (.call (.glo .abs) [.loc .cell]))) (.call (.glo .int) [.cmp (.loc .cell) [(.Lt,(.int 0))]])) (.bin .Pow (.int 10) (.int 90)))],
 .ret (.list [.loc .whole,.int 0])]⟩
def c420:FI:=⟨[.pool,.many],[],0,[
 .ite (.cmp (.sub (.loc .pool) (.int 0)) [(.Gt,(.int 0))]) [.asg (.one (.loc .digit)) (.bin .Mod (.sub (.loc .pool) (.int 0)) (.loc .many)),.asg (.one (.sub (.loc .pool) (.int 0))) (.bin .FloorDiv (.sub (.loc .pool) (.int 0)) (.loc .many)),.ret (.loc .digit)] [],
 .augS (.loc .pool) (.int 1) .Add (.int 1),
 .ret (.bin .Mod (.bin .Mod (.bin .Add (.bin .Add (.bin .Mult (.bin .Mult (.int 5) (.sub (.loc .pool) (.int 1))) (.sub (.loc .pool) (.int 1))) (.bin .Mult (.int 11) (.sub (.loc .pool) (.int 1)))) (.int 3)) (.int 1009)) (.loc .many))]⟩
def c427:FI:=⟨[.deed],[],0,[
 .tryE [.ret (.tup [.str .told,.call (.loc .deed) []])] [(.NoRoom,.room),(.BadDisk,.disk),(.BadArgument,.argument)]]⟩
def c434:FI:=⟨[.world,.number],[],0,[
 .ret (.bop .And [.cmp (.mcall (.sub (.loc .world) (.str .held)) .get [.loc .number,.int 0]) [(.Eq,(.int 0))],.cmp (.mcall (.sub (.loc .world) (.str .pins)) .get [.loc .number,.int 0]) [(.Eq,(.int 0))]])]⟩
def c439:FI:=⟨[.world,.number],[.world],0,[
 .asg (.one (.loc .row)) (.sub (.cel .world) (.str .row)),
 .ite (.cmp (.loc .number) [(.In,(.loc .row))]) [.augS (.cel .world) (.str .met) .Add (.int 1),.ret (.bool true)] [],
 .ite (.cmp (.call (.glo .len) [.loc .row]) [(.Eq,(.sub (.cel .world) (.str .most)))]) [.asg (.one (.loc .spare)) (.comp (.loc .other) .other 0 (.loc .row) [.call (.glo .law_is_free) [.cel .world,.loc .other]] [.world]),.ite (.cmp (.loc .spare) [(.Eq,(.list []))]) [.ret (.bool false)] [],.expr (.mcall (.loc .row) .remove [.sub (.loc .spare) (.int 0)])] [],
 .expr (.mcall (.loc .row) .append [.loc .number]),
 .augS (.cel .world) (.str .seen) .Add (.int 1),
 .asg (.one (.sub (.sub (.cel .world) (.str .octets)) (.loc .number))) (.call (.glo .list) [.sub (.sub (.cel .world) (.str .disk)) (.loc .number)]),
 .ret (.bool true)]⟩
def c446:FI:=⟨[.world,.number],[],0,[
 .expr (.mcall (.sub (.loc .world) (.str .row)) .remove [.loc .number]),
 .expr (.mcall (.sub (.loc .world) (.str .row)) .append [.loc .number])]⟩
def c453:FI:=⟨[.pool,.cache,.world,.number],[.cache,.number],448,[
 .asg (.one (.loc .due)) (.call (.glo .law_got) [.loc .world,.cel .number]),
 .asg (.one (.loc .found)) (.call (.glo .law_met) [.lam (.mcall (.cel .cache) .get [.cel .number]) [.cache,.number]]),
 .ite (.un .Not (.loc .due)) [.ret (.cmp (.loc .found) [(.Eq,(.tup [.str .room,.none]))])] [],
 .asg (.one (.sub (.sub (.loc .world) (.str .held)) (.cel .number))) (.bin .Add (.mcall (.sub (.loc .world) (.str .held)) .get [.cel .number,.int 0]) (.int 1)),
 .ite (.bop .Or [.cmp (.sub (.loc .found) (.int 0)) [(.NotEq,(.str .told))],.bop .And [.cmp (.cel .number) [(.In,(.sub (.loc .world) (.str .kept)))],.cmp (.sub (.sub (.loc .world) (.str .kept)) (.cel .number)) [(.NotEq,(.sub (.loc .found) (.int 1)))]]]) [.ret (.bool false)] [],
 .asg (.one (.sub (.sub (.loc .world) (.str .kept)) (.cel .number))) (.sub (.loc .found) (.int 1)),
 .ret (.bop .And [.cmp (.mcall (.sub (.loc .found) (.int 1)) .octets []) [(.Eq,(.call (.glo .bytes) [.sub (.sub (.loc .world) (.str .octets)) (.cel .number)]))],.cmp (.attr (.sub (.loc .found) (.int 1)) .number) [(.Eq,(.cel .number))]])]⟩
def c460:FI:=⟨[.pool,.cache,.world,.number],[.cache,.buffer,.place,.value],455,[
 .asg (.tup [.cel .buffer,.loc .own]) (.tup [.sub (.sub (.loc .world) (.str .kept)) (.loc .number),.sub (.sub (.loc .world) (.str .octets)) (.loc .number)]),
 .asg (.tup [.loc .way,.cel .place,.cel .value]) (.tup [.call (.glo .law_take) [.loc .pool,.int 6],.call (.glo .law_take) [.loc .pool,.int 4],.call (.glo .law_take) [.loc .pool,.int 256]]),
 .ite (.cmp (.loc .way) [(.Eq,(.int 0))]) [.augS (.sub (.loc .world) (.str .held)) (.loc .number) .Sub (.int 1),.ite (.cmp (.sub (.sub (.loc .world) (.str .held)) (.loc .number)) [(.Eq,(.int 0))]) [.expr (.call (.glo .law_left) [.loc .world,.loc .number]),.expr (.mcall (.sub (.loc .world) (.str .old)) .append [.mcall (.sub (.loc .world) (.str .kept)) .pop [.loc .number]])] [],.ret (.cmp (.call (.glo .law_met) [.lam (.mcall (.cel .cache) .release [.cel .buffer]) [.buffer,.cache]]) [(.Eq,(.tup [.str .told,.none]))])] [],
 .ite (.cmp (.loc .way) [(.Eq,(.int 1))]) [.asg (.one (.sub (.sub (.loc .world) (.str .disk)) (.loc .number))) (.call (.glo .list) [.loc .own]),.augS (.loc .world) (.str .written) .Add (.int 1),.ret (.cmp (.call (.glo .law_met) [.lam (.mcall (.cel .cache) .write [.cel .buffer]) [.buffer,.cache]]) [(.Eq,(.tup [.str .told,.none]))])] [],
 .ite (.cmp (.loc .way) [(.Eq,(.int 2))]) [.asg (.one (.sub (.sub (.loc .world) (.str .pins)) (.loc .number))) (.bin .Add (.mcall (.sub (.loc .world) (.str .pins)) .get [.loc .number,.int 0]) (.int 1)),.ret (.cmp (.call (.glo .law_met) [.lam (.mcall (.cel .cache) .pin [.cel .buffer]) [.buffer,.cache]]) [(.Eq,(.tup [.str .told,.none]))])] [],
 .ite (.cmp (.loc .way) [(.Eq,(.int 3))]) [.asg (.one (.sub (.loc .own) (.cel .place))) (.cel .value),.ret (.cmp (.call (.glo .law_met) [.lam (.mcall (.cel .buffer) .put [.cel .place,.call (.glo .bytes) [.list [.cel .value]]]) [.buffer,.place,.value]]) [(.Eq,(.tup [.str .told,.none]))])] [],
 .ite (.cmp (.loc .way) [(.Eq,(.int 4))]) [.asg (.one (.cel .place)) (.bin .FloorDiv (.cel .place) (.int 2)),.asg (.one (.slc (.loc .own) (some (.cel .place)) (some (.bin .Add (.cel .place) (.int 2))))) (.list [.cel .value,.bin .Sub (.int 255) (.cel .value)]),.expr (.mcall (.cel .buffer) .put_little [.cel .place,.int 2,.bin .Add (.cel .value) (.bin .Mult (.int 256) (.bin .Sub (.int 255) (.cel .value)))]),.ret (.bop .And [.cmp (.mcall (.cel .buffer) .little [.cel .place,.int 2]) [(.Eq,(.bin .Add (.cel .value) (.bin .Mult (.int 256) (.bin .Sub (.int 255) (.cel .value)))))],.cmp (.mcall (.cel .buffer) .take [.int 0,.int 4]) [(.Eq,(.call (.glo .bytes) [.loc .own]))]])] [],
 .asg (.one (.loc .mask)) (.bin .LShift (.int 1) (.bin .Mod (.cel .value) (.int 8))),
 .asg (.one (.sub (.loc .own) (.cel .place))) (.bin .BitOr (.bin .BitAnd (.sub (.loc .own) (.cel .place)) (.bin .Sub (.int 255) (.loc .mask))) (.bin .Mult (.loc .mask) (.bin .FloorDiv (.cel .value) (.int 128)))),
 .expr (.mcall (.cel .buffer) .put_bit [.bin .Add (.bin .Mult (.int 8) (.cel .place)) (.bin .Mod (.cel .value) (.int 8)),.bin .FloorDiv (.cel .value) (.int 128)]),
 .ite (.cmp (.mcall (.cel .buffer) .bit [.bin .Add (.bin .Mult (.int 8) (.cel .place)) (.bin .Mod (.cel .value) (.int 8))]) [(.NotEq,(.bin .FloorDiv (.cel .value) (.int 128)))]) [.ret (.bool false)] [],
 .asg (.one (.loc .calls)) (.list [.lam (.mcall (.cel .buffer) .put [.cel .place,.call (.glo .bytes) [.int 5]]) [.buffer,.place],.lam (.mcall (.cel .buffer) .take [.un .USub (.int 1),.int 1]) [.buffer],.lam (.mcall (.cel .buffer) .fill [.call (.glo .bytes) [.int 3]]) [.buffer]]),
 .asg (.one (.loc .calls)) (.bin .Add (.loc .calls) (.list [.lam (.mcall (.cel .buffer) .put_little [.int 0,.int 1,.int 256]) [.buffer],.lam (.mcall (.cel .buffer) .bit [.int 32]) [.buffer],.lam (.mcall (.cel .buffer) .little [.int 4,.int 1]) [.buffer]])),
 .asg (.one (.loc .calls)) (.bin .Add (.loc .calls) (.list [.lam (.mcall (.cel .buffer) .fill [.call (.glo .bytes) [.int 5]]) [.buffer],.lam (.mcall (.cel .buffer) .take [.int 1,.un .USub (.int 1)]) [.buffer],.lam (.mcall (.cel .buffer) .put_little [.int 0,.int 1,.un .USub (.int 1)]) [.buffer]])),
 .asg (.one (.loc .calls)) (.bin .Add (.loc .calls) (.list [.lam (.mcall (.cel .buffer) .put_bit [.int 32,.int 1]) [.buffer],.lam (.mcall (.cel .buffer) .put_bit [.un .USub (.int 1),.int 0]) [.buffer],.lam (.mcall (.cel .buffer) .bit [.un .USub (.int 1)]) [.buffer]])),
 .for (.one (.loc .call)) 0 (.list [.sub (.loc .calls) (.bin .Mod (.cel .value) (.int 12)),.sub (.loc .calls) (.bin .Mod (.bin .Add (.cel .value) (.int 5)) (.int 12))]) [.ite (.bop .Or [.cmp (.call (.glo .law_met) [.loc .call]) [(.NotEq,(.tup [.str .argument,.none]))],.cmp (.mcall (.cel .buffer) .octets []) [(.NotEq,(.call (.glo .bytes) [.loc .own]))]]) [.ret (.bool false)] []],
 .ite (.cmp (.bin .Mod (.cel .value) (.int 16)) [(.Eq,(.int 3))]) [.asg (.one (.slc (.loc .own) (some (.int 0)) (some (.int 4)))) (.list [.int 0,.int 0,.int 0,.int 0]),.expr (.mcall (.cel .buffer) .clear [])] [],
 .ret (.bool true)]⟩
def c465:FI:=⟨[.pool,.cache,.world,.blocks],[.pool,.cache,.world,.number,.odd,.old,.value,.way],462,[
 .asg (.tup [.cel .way,.cel .number]) (.tup [.call (.glo .law_take) [.cel .pool,.int 7],.call (.glo .law_take) [.cel .pool,.loc .blocks]]),
 .ite (.cmp (.cel .way) [(.Eq,(.int 0))]) [.asg (.one (.loc .pinned)) (.mcall (.sub (.cel .world) (.str .pins)) .get [.cel .number,.int 0]),.ite (.cmp (.loc .pinned) [(.Gt,(.int 0))]) [.asg (.one (.sub (.sub (.cel .world) (.str .pins)) (.cel .number))) (.bin .Sub (.loc .pinned) (.int 1))] [],.ret (.cmp (.call (.glo .law_met) [.lam (.mcall (.cel .cache) .unpin [.cel .number]) [.cache,.number]]) [(.Eq,(.tup [.ife (.cmp (.loc .pinned) [(.Gt,(.int 0))]) (.str .told) (.str .argument),.none]))])] [],
 .ite (.cmp (.cel .way) [(.In,(.tup [.int 1,.int 2]))]) [.asg (.one (.cel .value)) (.call (.glo .bytes) [.comp (.call (.glo .law_take) [.cel .pool,.int 256]) .turn 1 (.int 4) [] [.pool]]),.asg (.one (.loc .due)) (.call (.glo .law_got) [.cel .world,.cel .number]),.asg (.one (.loc .found)) (.call (.glo .law_met) [.lam (.ife (.cmp (.cel .way) [(.Eq,(.int 1))]) (.mcall (.cel .cache) .peek [.cel .number]) (.mcall (.cel .cache) .poke [.cel .number,.cel .value])) [.cache,.number,.value,.way]]),.ite (.un .Not (.loc .due)) [.ret (.cmp (.loc .found) [(.Eq,(.tup [.str .room,.none]))])] [],.ite (.cmp (.cel .way) [(.Eq,(.int 2))]) [.asg (.one (.sub (.sub (.cel .world) (.str .octets)) (.cel .number))) (.call (.glo .list) [.cel .value]),.asg (.one (.sub (.sub (.cel .world) (.str .disk)) (.cel .number))) (.call (.glo .list) [.cel .value]),.augS (.cel .world) (.str .written) .Add (.int 1)] [],.ite (.cmp (.mcall (.sub (.cel .world) (.str .held)) .get [.cel .number,.int 0]) [(.Eq,(.int 0))]) [.expr (.call (.glo .law_left) [.cel .world,.cel .number])] [],.ret (.cmp (.loc .found) [(.Eq,(.tup [.str .told,.ife (.cmp (.cel .way) [(.Eq,(.int 1))]) (.call (.glo .bytes) [.sub (.sub (.cel .world) (.str .octets)) (.cel .number)]) .none]))])] [],
 .ite (.cmp (.cel .way) [(.Eq,(.int 3))]) [.asg (.one (.sub (.cel .world) (.str .row))) (.comp (.loc .other) .other 0 (.sub (.cel .world) (.str .row)) [.un .Not (.call (.glo .law_is_free) [.cel .world,.loc .other])] [.world]),.ret (.cmp (.call (.glo .law_met) [.lam (.mcall (.cel .cache) .forget []) [.cache]]) [(.Eq,(.tup [.str .told,.none]))])] [],
 .ite (.cmp (.cel .way) [(.Eq,(.int 4))]) [.asg (.one (.cel .odd)) (.sub (.list [.un .USub (.int 1),.loc .blocks,.none,.bin .Pow (.int 10) (.int 30)]) (.call (.glo .law_take) [.cel .pool,.int 4])),.ret (.bop .And [.cmp (.call (.glo .law_met) [.lam (.mcall (.cel .cache) .get [.cel .odd]) [.cache,.odd]]) [(.Eq,(.tup [.str .disk,.none]))],.cmp (.call (.glo .law_met) [.lam (.mcall (.cel .cache) .peek [.cel .odd]) [.cache,.odd]]) [(.Eq,(.tup [.str .disk,.none]))]])] [],
 .ite (.cmp (.sub (.cel .world) (.str .old)) [(.Eq,(.list []))]) [.ret (.cmp (.call (.glo .law_met) [.lam (.call (.glo .Cache) [.attr (.cel .cache) .disk,.un .USub (.call (.glo .law_take) [.cel .pool,.int 2])]) [.cache,.pool]]) [(.Eq,(.tup [.str .argument,.none]))])] [],
 .asg (.one (.cel .old)) (.sub (.sub (.cel .world) (.str .old)) (.un .USub (.int 1))),
 .ite (.cmp (.cel .old) [(.In,(.comp (.sub (.sub (.cel .world) (.str .kept)) (.loc .other)) .other 0 (.sub (.cel .world) (.str .kept)) [] [.world]))]) [.ret (.bool true)] [],
 .asg (.one (.loc .deeds)) (.list [.lam (.mcall (.cel .cache) .release [.cel .old]) [.cache,.old],.lam (.mcall (.cel .cache) .write [.cel .old]) [.cache,.old],.lam (.mcall (.cel .cache) .pin [.cel .old]) [.cache,.old]]),
 .ret (.cmp (.call (.glo .law_met) [.sub (.loc .deeds) (.call (.glo .law_take) [.cel .pool,.int 3])]) [(.Eq,(.tup [.str .argument,.none]))])]⟩
def c470:FI:=⟨[.cache,.world],[.world],0,[
 .ite (.bop .Or [.cmp (.mcall (.loc .cache) .known []) [(.NotEq,(.sub (.cel .world) (.str .row)))],.cmp (.list [.attr (.loc .cache) .hits,.attr (.loc .cache) .reads,.attr (.loc .cache) .writes]) [(.NotEq,(.list [.sub (.cel .world) (.str .met),.sub (.cel .world) (.str .seen),.sub (.cel .world) (.str .written)]))]]) [.ret (.bool false)] [],
 .for (.one (.loc .number)) 0 (.sub (.cel .world) (.str .kept)) [.ite (.cmp (.mcall (.sub (.sub (.cel .world) (.str .kept)) (.loc .number)) .octets []) [(.NotEq,(.call (.glo .bytes) [.sub (.sub (.cel .world) (.str .octets)) (.loc .number)]))]) [.ret (.bool false)] []],
 .asg (.one (.loc .taken)) (.comp (.loc .number) .number 0 (.sub (.cel .world) (.str .row)) [.un .Not (.call (.glo .law_is_free) [.cel .world,.loc .number])] [.world]),
 .ret (.cmp (.mcall (.loc .cache) .free_count []) [(.Eq,(.bin .Sub (.sub (.cel .world) (.str .most)) (.call (.glo .len) [.loc .taken])))])]⟩
def c475:FI:=⟨[.script],[.disk],0,[
 .asg (.one (.loc .pool)) (.call (.glo .law_pool) [.loc .script]),
 .asg (.tup [.loc .blocks,.loc .most]) (.tup [.bin .Add (.int 5) (.call (.glo .law_take) [.loc .pool,.int 5]),.bin .Add (.int 1) (.call (.glo .law_take) [.loc .pool,.int 4])]),
 .asg (.one (.cel .disk)) (.call (.glo .Disk) [.loc .blocks,.int 4]),
 .asg (.one (.loc .world)) (.dict [(.disk,(.comp (.list [.int 0,.int 0,.int 0,.int 0]) .number 1 (.loc .blocks) [] [])),(.row,(.list [])),(.octets,(.dict [])),(.held,(.dict [])),(.pins,(.dict []))]),
 .asg (.tup [.sub (.loc .world) (.str .kept),.sub (.loc .world) (.str .old),.sub (.loc .world) (.str .most),.sub (.loc .world) (.str .met),.sub (.loc .world) (.str .seen),.sub (.loc .world) (.str .written)]) (.tup [.dict [],.list [],.loc .most,.int 0,.int 0,.int 0]),
 .asg (.one (.loc .cache)) (.call (.glo .Cache) [.cel .disk,.loc .most]),
 .for (.one (.loc .turn)) 1 (.ife (.cmp (.call (.glo .len) [.loc .script]) [(.Lt,(.int 2))]) (.int 8) (.bin .Add (.int 10) (.call (.glo .law_take) [.loc .pool,.int 20]))) [.asg (.tup [.loc .way,.loc .held]) (.tup [.call (.glo .law_take) [.loc .pool,.int 5],.call (.glo .sorted) [.sub (.loc .world) (.str .kept)]]),.ite (.bop .Or [.cmp (.loc .way) [(.Lt,(.int 2))],.bop .And [.cmp (.loc .way) [(.Lt,(.int 4))],.cmp (.loc .held) [(.Eq,(.list []))]]]) [.asg (.one (.loc .fine)) (.call (.glo .law_get) [.loc .pool,.loc .cache,.loc .world,.call (.glo .law_take) [.loc .pool,.loc .blocks]])] [.ite (.cmp (.loc .way) [(.Lt,(.int 4))]) [.asg (.one (.loc .fine)) (.call (.glo .law_held_deed) [.loc .pool,.loc .cache,.loc .world,.sub (.loc .held) (.call (.glo .law_take) [.loc .pool,.call (.glo .len) [.loc .held]])])] [.asg (.one (.loc .fine)) (.call (.glo .law_other_deed) [.loc .pool,.loc .cache,.loc .world,.loc .blocks])]],.ite (.bop .Or [.un .Not (.loc .fine),.un .Not (.call (.glo .law_seen) [.loc .cache,.loc .world])]) [.ret (.bool false)] []],
 .ret (.cmp (.comp (.mcall (.cel .disk) .read [.loc .number]) .number 1 (.loc .blocks) [] [.disk]) [(.Eq,(.comp (.call (.glo .bytes) [.loc .octets]) .octets 0 (.sub (.loc .world) (.str .disk)) [] []))])]⟩
noncomputable def fnL:List (Nat×FI):=[(111,c111),(118,c118),(125,c125),(132,c132),(139,c139),(146,c146),(153,c153),(160,c160),(167,c167),(172,c172),(179,c179),(186,c186),(207,c207),(214,c214),(221,c221),(228,c228),(235,c235),(242,c242),(249,c249),(256,c256),(263,c263),(277,c277),(284,c284),(289,c289),(294,c294),(301,c301),(322,c322),(329,c329),(336,c336),(343,c343),(350,c350),(413,c413),(420,c420),(427,c427),(434,c434),(439,c439),(446,c446),(453,c453),(460,c460),(465,c465),(470,c470),(475,c475)]
noncomputable def aG(f:Nat):Option FI:=lk fnL f
theorem xO:aG 111=some c111:=rfl
theorem xQ:aG 118=some c118:=rfl
theorem xR:aG 125=some c125:=rfl
theorem xS:aG 132=some c132:=rfl
theorem xT:aG 139=some c139:=rfl
theorem xU:aG 146=some c146:=rfl
theorem xV:aG 153=some c153:=rfl
theorem xW:aG 160=some c160:=rfl
theorem ws:aG 167=some c167:=rfl
theorem wt:aG 172=some c172:=rfl
theorem xX:aG 179=some c179:=rfl
theorem wu:aG 186=some c186:=rfl
theorem wv:aG 207=some c207:=rfl
theorem ww:aG 214=some c214:=rfl
theorem xY:aG 221=some c221:=rfl
theorem pC:aG 228=some c228:=rfl
theorem uD:aG 235=some c235:=rfl
theorem wx:aG 242=some c242:=rfl
theorem wy:aG 249=some c249:=rfl
theorem wz:aG 256=some c256:=rfl
theorem wA:aG 263=some c263:=rfl
theorem wB:aG 277=some c277:=rfl
theorem wC:aG 284=some c284:=rfl
theorem xZ:aG 289=some c289:=rfl
theorem x_:aG 294=some c294:=rfl
theorem ya:aG 301=some c301:=rfl
theorem yb:aG 322=some c322:=rfl
theorem yc:aG 329=some c329:=rfl
theorem yd:aG 336=some c336:=rfl
theorem ye:aG 343=some c343:=rfl
theorem yf:aG 350=some c350:=rfl
theorem yg:aG 413=some c413:=rfl
theorem yh:aG 420=some c420:=rfl
theorem yi:aG 427=some c427:=rfl
theorem yj:aG 434=some c434:=rfl
theorem sp:aG 439=some c439:=rfl
theorem yk:aG 446=some c446:=rfl
theorem yl:aG 453=some c453:=rfl
theorem ym:aG 460=some c460:=rfl
theorem yn:aG 465=some c465:=rfl
theorem yo:aG 470=some c470:=rfl
theorem yp:aG 475=some c475:=rfl
end Mine.Lake
end
section
open PySem PySem.W PySem.Calls PyProof.Rows
namespace Mine.Lake
noncomputable def runP(p:Program)(w:World):Option Shared:=openEnds treeTable p w 6802
noncomputable def runIt(w:World):Option Shared:=runP PySem.Challenge.rw_nu0087_01.row.prog w
noncomputable def vw:Program:=view PySem.Challenge.pw_nu0087_01 [0,2,3,4,5,6,8,9,11,13,14,15,16,17,18,19,20,21,22,23]
noncomputable def lw:List Str:=[Str.ofString "BoardError"]
noncomputable def yC:RowW:=PySem.Challenge.rw_nu0087_01.row.toRowW
noncomputable def ze:List Nat:=[189,188,304,303,402,401,3,39,38,52,51,64,63,76,75,36,35,29,111,118,125,132,139,146,153,160,167,172,179,186,207,214,221,228,235,242,249,256,263,277,284,289,294,301,322,329,336,343,350,413,420,427,434,439,446,453,460,465,470,475,110,117,124,131,138,145,152,159,166,171,178,185,206,213,220,227,234,241,248,255,262,276,283,288,293,300,321,328,335,342,349,412,419,426,433,438,445,452,459,464,469,474,2,15,17,18,20,21,22,30,32,33,37,40,43,50,55,62,67,74,79,86,88,89,91,92,93,94,95,105,107,108,112,114,115,119,121,122,126,128,129,133,135,136,140,142,143,147,149,150,154,156,157,161,163,164,168,173,175,176,180,182,183,187,190,191,201,203,204,208,210,211,215,217,218,222,224,225,229,231,232,236,238,239,243,245,246,250,252,253,257,259,260,264,266,267,269,270,271,273,274,278,280,281,285,290,295,297,298,302,305,306,316,318,319,323,325,326,330,332,333,337,339,340,344,346,347,351,353,354,356,357,358,360,361,363,364,365,367,368,370,371,372,374,375,377,378,379,381,382,384,385,386,388,389,391,392,393,395,396,398,399,400,403,404,407,409,410,414,416,417,421,423,424,428,430,431,435,440,442,443,447,449,450,454,456,457,461,466,471]
noncomputable def uo(h:Heap):Frag:=ze.filterMap fun a=>(h.get? a).map fun o=>(a,o)
theorem u8(h:Heap):(uo h).In h:=fun a o e=>by
 obtain ⟨b,_,e⟩:=List.mem_filterMap.mp (mem_of_lookupK e)
 obtain ⟨o',e1,e2⟩:=Option.map_eq_some_iff.mp e
 cases e2;exact e1
noncomputable def wZ(o:Option Shared):Frag:=match o with | some s=>uo s.heap | none=>[]
@[irreducible] noncomputable def KF(w:World):Frag:=wZ (runIt w)
abbrev Fp:=Option (Arguments×FuncBody×Scope)
noncomputable def dN:Stmt->Fp
 | .FunctionDef _ a b _ _ _ sc _ _ _=>some (a,.stmts b,sc)
 | _=>none
noncomputable def qU:Option Stmt->List Fp
 | some (.ClassDef _ _ _ b _ _ _ _ _ _ _)=>(b.map dN).filter (·.isSome)
 | _=>[]
noncomputable def oa(i:Nat):Option Stmt:=PySem.Challenge.pw_nu0087_01.main.body[i]?
noncomputable def astL:List Fp:=qU (oa 8)++(qU (oa 9)).eraseIdx 9++(qU (oa 11)).take 5++[(oa 13).bind dN,(oa 14).bind dN,(oa 15).bind dN,(oa 16).bind dN,(oa 17).bind dN,(oa 18).bind dN,(oa 19).bind dN,(oa 20).bind dN,(oa 21).bind dN,(oa 22).bind dN,(oa 23).bind dN]
noncomputable def u6(o:Obj):Fp:=match o.data with | .func fd=>some (fd.params,fd.body,fd.scope) | _=>none
def y7(t:Nat)(a:Fp):Option FI:=a.bind fun x=>zG x.1 x.2.1 x.2.2 t
noncomputable def gR(K:Frag)(f t:Nat):Bool:=match K.lookup f with | some ⟨_,_,.func fd,_⟩=>vW fd.code==some t | _=>false
noncomputable def Bf.val:Bf->Value
 | .len=>.builtin "len" | .abs=>.builtin "abs" | .int=>.type "int" | .bytes=>.type "bytes" | .bytearray=>.type "bytearray" | .isinstance=>.builtin "isinstance" | .list=>.type "list" | .sorted=>.builtin "sorted"
noncomputable def jM(K:Frag)(C:Addr)(name:Str):Bool:=plainGet K C name&&hasDictIn K C&&findIn K (.ref C) name==some none
noncomputable def mN(K:Frag)(C:Addr)(name:Str)(f:Addr):Bool:=plainGet K C name&&hasDictIn K C&&findIn K (.ref C) name==some (some (.ref f))&&isFn K (.ref f)
noncomputable def gP(K:Frag)(C:Addr)(name:Str):Bool:=findIn K (.ref C) "__setattr__"==some (some (.builtin "object.__setattr__"))&&plainOver K C&&takerIn K C name==some none&&hasDictIn K C
def qC(K:Frag)(n:Nm):AV->Bool
 | .base a=>nsIn K mainGlobals n.str==some (some (.ref a))
 | .bf f=>nsIn K mainGlobals n.str==some none&&bootBuiltins n.str==some f.val&&n.str != ("__name__":Str)
 | _=>false
noncomputable def xa:Value->Bool
 | .none=>true
 | _=>false
noncomputable def vm(K:Frag)(fd:FuncData):Bool:=
 fd.closure.isEmpty&&xa fd.defaults&&fd.globals==mainGlobals&&fd.builtins==builtinsNs&&fd.scope.kind==.function&&!fd.scope.isGenerator&&!fd.scope.isCoroutine &&
  codeIn K fd.code fd.qualname&&decide ((fd.params.args.map (·.arg)).Nodup) &&
  (fd.params.args.all fun p=>(fd.scope.names.lookup p.arg==some .local&&!(fd.scope.names.any fun q=>q.1==p.arg&&q.2==.cell))||fd.scope.names.lookup p.arg==some .cell)
noncomputable def tD(K:Frag)(f:Addr):Bool:=match K.lookup f with | some ⟨_,_,.func fd,_⟩=>vm K fd | _=>false
noncomputable def noLists(K:Frag):Bool:=K.all fun p=>!(p.2.cls==.type "list")
noncomputable def excO(C N k0 t:Nat)(nm:Str):Obj:={ cls:=.type "type",data:=.cls { name:=nm,bases:=[.ref 39],mro:=[.ref C,.ref 39,.type "ValueError",.type "Exception",.type "BaseException",.type "object"],ns:=N,qualname:=nm },slots:=#[some (.ref k0),none,some (.str nm t),some (.str nm (t+8)),some (.builtin "ValueError.__new__"),some (.bool true)] }
noncomputable def o189:Obj:={ cls:=.type "type",data:=.cls { name:="Buffer",bases:=[.type "object"],mro:=[.ref 189,.type "object"],ns:=188,qualname:="Buffer" },slots:=#[none,none,some (.str "Buffer" 299),some (.str "Buffer" 307),some (.builtin "object.__new__"),some (.bool true)] }
noncomputable def sZ:FuncData:={ name:="__init__",qualname:="BoardError.__init__",params:={ posonlyargs:=[],args:=[{ arg:="self",annotation:=none,pos:=⟨7,17,7,21⟩ },{ arg:="reason",annotation:=none,pos:=⟨7,23,7,29⟩ }],vararg:=none,kwonlyargs:=[],kw_defaults:=[],kwarg:=none,defaults:=[.Constant (.str "") 0 ⟨7,30,7,32⟩] },body:=.stmts [.Expr (.Call (.Attribute (.Name "ValueError" ⟨8,8,8,18⟩) "__init__" ⟨8,8,8,27⟩) [.Name "self" ⟨8,28,8,32⟩,.Name "reason" ⟨8,34,8,40⟩] [] ⟨8,8,8,41⟩) ⟨8,8,8,41⟩,.Assign [.Attribute (.Name "self" ⟨9,8,9,12⟩) "reason" ⟨9,8,9,19⟩] (.Name "reason" ⟨9,22,9,28⟩) ⟨9,8,9,28⟩],scope:={ kind:=.function,names:=[("self",.local),("reason",.local),("ValueError",.globalImplicit)],isGenerator:=false,isCoroutine:=false },globals:=3,closure:=[],defaults:=.ref 29,kwdefaults:=.none,pyModule:=.str "pipeboard.errors" 194,code:=.ref 35 }
noncomputable def o36:Obj:={ cls:=.type "function",data:=.func sZ }
noncomputable def o29:Obj:={ cls:=.type "tuple",data:=.seq #[.str "" 208] 0 }
noncomputable def objL:List (Nat×Obj):=[(189,o189),(36,o36),(29,o29),(52,excO 52 51 43 224 "BadArgument"),(64,excO 64 63 55 240 "BadDisk"),(76,excO 76 75 67 256 "NoRoom")]
noncomputable def rG(K:Frag)(C:Nat):Bool:=findIn K (.ref C) "__setattr__"==some (some (.builtin "object.__setattr__"))&&takerIn K C "reason"==some none&&findIn K (.ref C) "reason"==some none
noncomputable def qf(K:Frag)(C:Nat):Bool:=specialIn K (.ref C) "__call__"==some (some (.builtin "type.__call__"))&&instIn K (.ref C) (.type "type")==some true&&findIn K (.ref C) "__init__"==some (some (.ref 36))
noncomputable def qE(K:Frag)(C i:Nat):Bool:=makesIn K C&&findIn K (.ref C) "__init__"==some (some (.ref i))&&typeIn K (.ref i)==some (.type "function")
def yu(K:Frag):List Bool:=[
 tC.all fun p=>p.2.all fun n=>jM K p.1 n.str&&gP K p.1 n.str,
 methL.all fun p=>p.2.all fun n=>mN K p.1 n.1.str n.2,
 gloL.all fun p=>qC K p.1 p.2,
 fnL.all fun p=>tD K p.1&&gR K p.1 p.2.tab,
 initL.all fun p=>qE K p.1 p.2,
 excL.all fun p=>rG K p.2&&qf K p.2&&nsIn K mainGlobals p.1.str==some (some (.ref p.2)),
 nsOkIn K 188&&nsIn K 188 "__eq__"==some none&&nsIn K 188 "__ne__"==some none,
 nsIn K mainGlobals "range"==some none&&nsIn K mainGlobals "enumerate"==some none&&nsIn K mainGlobals "reversed"==some none&&nsIn K mainGlobals "ValueError"==some none,
 findIn K (.type "type") "__getattribute__"==some (some (.builtin "type.__getattribute__")),
 (match findCls K (.type "ValueError") (.type "type") "__init__" with | some (.val v)=>v==.builtin "ValueError.__init__" | _=>false),
 subIn K (.type "type") (.type "type")==some true,
 typeIn K (.ref 36)==some (.type "function")&&codeIn K (.ref 35) "BoardError.__init__",
 noLists K,noTabs K,
 codeHdIn K 452 448&&codeHdIn K 459 455&&codeHdIn K 464 462,
 nsIn K mainGlobals "law"==some (some (.ref 475))]
noncomputable abbrev tabs3:List Addr:=[462,455,448]
def obs(w:World):Prop:=(runIt w).map (fun s=>(
  (seen ((recsOf vw).map (·.name)) (ownsOf vw) [] { s with gens:=#[] },s.heap.bltView,s.heap.keysOk (looseW vw lw) ((recsOf vw).map (·.name)) ((litsOf vw).map (·.1)) ((clssOf vw (looseW vw lw)).map (·.name))&&s.heap.accountedOkI (importedModules PySem.Challenge.rw_nu0087_01.row.prog.main.body)&&s.heap.isNs mainGlobals&&s.heap.isNs builtinsNs&&tablesOk vw s.heap&&(xlAt vw [] s&&recOk (RowW.records yC) s)&&(if true then s.gens.size==0 else !leftWithCleanup s.gens),
   tabsOk vw s,pinSeenD vw (drecsOf vw) s,plainSeenE vw (looseW vw lw) s,plainSeenD vw lw s,wideSeen vw s,clsSeenW vw lw s),
  (tabs3.map s.heap.get?,fnL.map fun p=>((uo s.heap).lookup p.1).bind u6)))=some ((expectedOf vw,bltViewBooted,true,true,pinGoodD (drecsOf vw),plainGoodE vw (looseW vw lw),plainGoodD vw lw,wideGood vw,clsGoodW vw lw),(tabs3.map fun U=>some (tabObj #[]),astL))
def vk(w:World):Prop:=(runIt w).map (fun s=>((yu (uo s.heap)).all id,objL.map fun p=>(uo s.heap).lookup p.1))=some (true,objL.map fun p=>some p.2)
lay_quick Mine.Lake.runP
end Mine.Lake
end
section
open PySem PySem.W PySem.Calls PyProof.Rows
namespace Mine.Lake
theorem k1(w:World):obs w:=by
 unfold obs runIt;rw [PySem.W.Fast.te4649120379518681781]
 kernel_rfl
theorem k2(w:World):vk w:=by
 unfold vk runIt;rw [PySem.W.Fast.te4649120379518681781]
 kernel_rfl
end Mine.Lake
end
section
open PySem PySem.W PySem.Calls PyProof.Rows
namespace Mine.Lake
theorem tX:List.zipWith (fun (p:Nat×FI) a=>y7 p.2.tab a) fnL astL=fnL.map fun p=>some p.2:=by kernel_rfl
theorem ir(w:World):∃ s,runIt w=some s/\KF w=uo s.heap:=by
 refine af (Option.map_eq_some_iff.mp (show Option.map _ (runIt w)=_ from k1 w)) fun s e U=>?_;refine(ag s e ?_);unfold KF;exact congrArg wZ e
theorem k2'(w:World):((yu (KF w)).all id,objL.map fun p=>(KF w).lookup p.1)=(true,objL.map fun p=>some p.2):=by
 refine af (ir w) fun s e k=>?_;have h:=k2 w;unfold vk at h;rw [e] at h;refine ac k ?_;exact Option.some.inj h
theorem b7{w:World}{b:Bool}(h:b∈yu (KF w)):b=true:=List.all_eq_true.mp (Prod.mk.inj (k2' w)).1 b h
theorem gc(w:World){p:Nat×Obj}(h:p∈objL):(KF w).lookup p.1=some p.2:=List.map_inj_left.mp (Prod.mk.inj (k2' w)).2 p h
theorem uK(w:World):fnL.map (fun p=>((KF w).lookup p.1).bind u6)=astL:=by
 refine af (ir w) fun s e k=>?_;have h:=k1 w;unfold obs at h;rw [e] at h;refine ac k ?_;exact(Prod.mk.inj (Prod.mk.inj (Option.some.inj h)).2).2
theorem u7(w:World){f:Nat}{fi:FI}(h:aG f=some fi):∃ oc od fd sl,(KF w).lookup f=some ⟨oc,od,.func fd,sl⟩/\InvF fd.params fd.body fd.scope fi.tab fi:=by
 have e:=tX
 rw [<- uK w,List.zipWith_map_right,List.zipWith_self] at e;have e:y7 fi.tab (((KF w).lookup f).bind u6)=some fi:=List.map_inj_left.mp e (f,fi) (dv h);induction hk:(KF w).lookup f with
 | none=>rw [hk] at e;exact aA e
 | some o=>
  rw [hk] at e;obtain ⟨oc,od,dat,sl⟩:=o;induction dat with
  | func fd=>exact(pA oc od fd sl rfl (vl_inv (p:=InvF fd.params fd.body fd.scope fi.tab) e))
  | _=>exact aA e
noncomputable def hk:Hook where
 α:=Frag×List (Option Obj)
 obs:=fun s=>(uo s.heap,tabs3.map s.heap.get?)
 val:=fun w=>(KF w,tabs3.map fun U=>some (tabObj #[]))
 says:=fun w h=>(KF w).In h/\∀ P∈tabs3,h.get? P=some (tabObj #[])
 of:=fun w s x=>⟨(Prod.mk.inj x).1▸u8 s.heap,List.map_inj_left.mp (Prod.mk.inj x).2⟩
 keeps:=fun w h h' x k=>⟨x.1.keeps k,fun P hP=>k _ _ (x.2 P hP)⟩
theorem left:LeftO PySem.Challenge.rw_nu0087_01.row.prog vw lw (fun s=>xlAt vw [] s&&recOk (RowW.records yC) s) hk.obs hk.val 6802:=fun w=>by
 refine af (ir w) fun s e k=>?_;have h:=k1 w;unfold obs at h;rw [e] at h;have h:=Prod.mk.inj (Option.some.inj h);show (runIt w).map (fun s=>(openSeen vw lw _ _ _ s,(uo s.heap,tabs3.map s.heap.get?)))=some (openGood vw lw,(KF w,_));refine ac e (ac k ?_);exact congrArg some (looks_pair h.1 (looks_pair rfl (Prod.mk.inj h.2).1))
theorem dS{a b c:Bool}(h:(a&&b&&c)=true):a=true/\b=true/\c=true:=by
 have h1:=Bool.and_eq_true_iff.mp h
 have h2:=Bool.and_eq_true_iff.mp h1.1
 exact(ao h2.1 h2.2 h1.2)
theorem mR(w:World):(tC.all fun p=>p.2.all fun n=>jM (KF w) p.1 n.str&&gP (KF w) p.1 n.str)=true:=b7 (.head _)
theorem lr(w:World):(methL.all fun p=>p.2.all fun n=>mN (KF w) p.1 n.1.str n.2)=true:=b7 (.tail _ (.head _))
theorem mB(w:World):(gloL.all fun p=>qC (KF w) p.1 p.2)=true:=b7 (.tail _ (.tail _ (.head _)))
theorem pc(w:World):(fnL.all fun p=>tD (KF w) p.1&&gR (KF w) p.1 p.2.tab)=true:=b7 (.tail _ (.tail _ (.tail _ (.head _))))
theorem qF(w:World):(initL.all fun p=>qE (KF w) p.1 p.2)=true:=b7 (.tail _ (.tail _ (.tail _ (.tail _ (.head _)))))
theorem jR(w:World):(excL.all fun p=>rG (KF w) p.2&&qf (KF w) p.2&&nsIn (KF w) mainGlobals p.1.str==some (some (.ref p.2)))=true:=b7 (.tail _ (.tail _ (.tail _ (.tail _ (.tail _ (.head _))))))
theorem jF(w:World):(nsOkIn (KF w) 188&&nsIn (KF w) 188 "__eq__"==some none&&nsIn (KF w) 188 "__ne__"==some none)=true:=b7 (.tail _ (.tail _ (.tail _ (.tail _ (.tail _ (.tail _ (.head _)))))))
theorem jD(w:World):(nsIn (KF w) mainGlobals "range"==some none&&nsIn (KF w) mainGlobals "enumerate"==some none&&nsIn (KF w) mainGlobals "reversed"==some none&&nsIn (KF w) mainGlobals "ValueError"==some none)=true:=b7 (.tail _ (.tail _ (.tail _ (.tail _ (.tail _ (.tail _ (.tail _ (.head _))))))))
theorem vX(w:World):findIn (KF w) (.type "type") "__getattribute__"=some (some (.builtin "type.__getattribute__")):=beq_iff_eq.mp (b7 (.tail _ (.tail _ (.tail _ (.tail _ (.tail _ (.tail _ (.tail _ (.tail _ (.head _))))))))))
theorem uc(w:World):findCls (KF w) (.type "ValueError") (.type "type") "__init__"=some (.val (.builtin "ValueError.__init__")):=by
 have h:(match findCls (KF w) (.type "ValueError") (.type "type") "__init__" with | some (.val v)=>v==.builtin "ValueError.__init__" | _=>false)=true:=b7 (w:=w) (.tail _ (.tail _ (.tail _ (.tail _ (.tail _ (.tail _ (.tail _ (.tail _ (.tail _ (.head _))))))))))
 induction e:findCls (KF w) (.type "ValueError") (.type "type") "__init__" with
 | none=>rw [e] at h;exact gw h
 | some r=>
  rw [e] at h;induction r with
  | val v=>exact ac (beq_iff_eq.mp h ..) rfl
  | _=>exact gw h
theorem vY(w:World):subIn (KF w) (.type "type") (.type "type")=some true:=beq_iff_eq.mp (b7 (.tail _ (.tail _ (.tail _ (.tail _ (.tail _ (.tail _ (.tail _ (.tail _ (.tail _ (.tail _ (.head _))))))))))))
theorem wS(w:World):(typeIn (KF w) (.ref 36)==some (.type "function")&&codeIn (KF w) (.ref 35) "BoardError.__init__")=true:=b7 (.tail _ (.tail _ (.tail _ (.tail _ (.tail _ (.tail _ (.tail _ (.tail _ (.tail _ (.tail _ (.tail _ (.head _))))))))))))
theorem lX(w:World):noLists (KF w)=true:=b7 (.tail _ (.tail _ (.tail _ (.tail _ (.tail _ (.tail _ (.tail _ (.tail _ (.tail _ (.tail _ (.tail _ (.tail _ (.head _)))))))))))))
theorem oC(w:World):noTabs (KF w)=true:=b7 (.tail _ (.tail _ (.tail _ (.tail _ (.tail _ (.tail _ (.tail _ (.tail _ (.tail _ (.tail _ (.tail _ (.tail _ (.tail _ (.head _))))))))))))))
theorem dl(w:World):(codeHdIn (KF w) 452 448&&codeHdIn (KF w) 459 455&&codeHdIn (KF w) 464 462)=true:=b7 (.tail _ (.tail _ (.tail _ (.tail _ (.tail _ (.tail _ (.tail _ (.tail _ (.tail _ (.tail _ (.tail _ (.tail _ (.tail _ (.tail _ (.head _)))))))))))))))
theorem uA(w:World):nsIn (KF w) mainGlobals "law"=some (some (.ref 475)):=beq_iff_eq.mp (b7 (.tail _ (.tail _ (.tail _ (.tail _ (.tail _ (.tail _ (.tail _ (.tail _ (.tail _ (.tail _ (.tail _ (.tail _ (.tail _ (.tail _ (.tail _ (.head _)))))))))))))))))
end Mine.Lake
end
section
open PySem PySem.W PySem.Calls PyProof.Rows
namespace Mine.Lake
noncomputable def fR:List (Addr×Addr):=[(448,452),(455,459),(462,464)]
noncomputable def bn:List Addr:=[448,455,462]
structure Bse(w:World)(h₀:Heap):Prop where
 K:(KF w).In h₀
 top:∃ mg mb,h₀.Ns mainGlobals mg/\h₀.Ns builtinsNs mb/\(∀ x:Str,x≠"__name__"->mb x=bootBuiltins x)/\
  ∃ bm ob,mg "__builtins__"=some (.ref bm)/\bm≠builtinsNs/\h₀.get? bm=some ob/\ob.cls=.type "module"/\ob.dict=some builtinsNs/\ob.data=.plain
 nolimit:h₀.NoLimit
 codes:CodeHd h₀ 452 448/\CodeHd h₀ 459 455/\CodeHd h₀ 464 462
noncomputable def s0(l:List Int):St:=⟨fun i=>if i=0 then some (.fl (l.map .int)) else none,1,[]⟩
def LC(p:Program×World×Heap×Shared):Prop:=∀ (x:Addr) (ox:Obj) (xs:List Value) (n:Nat) (l:List Int) (σe:St),Bse p.2.1 p.2.2.1->p.2.2.1.StaysIn p.2.2.2.heap->(∀ P∈bn,p.2.2.1.get? P=none)->
 (∀ P∈bn,p.2.2.2.heap.get? P=some (tabObj #[]))->p.2.2.2.heap.get? x=some ox->(ox.cls=.type "list"/\ox.data=.seq xs.toArray n)->p.2.2.1.get? x=none->
 x≠sysModules->IntsAre xs l->lvl aG 13 (.base 475) [.obj 0] (s0 l)=.ok (.bool true) σe->
 wpD (model p.1 p.2.1) callerA (call (.ref 475) [.ref x]) (fun v s'=>v=.bool true/\s'={ p.2.2.2 with heap:=s'.heap,toks:=s'.toks }/\p.2.2.1.StaysIn s'.heap/\s'.heap.get? x=some ox/\∀ P∈bn,∃ ps,s'.heap.get? P=some (tabObj ps)) (fun U U=>False) p.2.2.2
@[irreducible] def P4:Program×World×Heap×Shared:=@Classical.epsilon _ ⟨(PySem.Challenge.rw_nu0087_01.row.prog,{ draws:=fun U U=>0,params:={ strHash:=fun U=>0,shareClass:=fun U=>0,mergeTok:=id,idOf:=fun U=>0,idOfShared:=fun U U=>0,followText:=fun U=>false,idOfImm:=fun U=>16 } },{},{})⟩ fun p=>¬ LC p
@[irreducible] def prog:Program:=P4.1
@[irreducible] def w:World:=P4.2.1
@[irreducible] def h₀:Heap:=P4.2.2.1
@[irreducible] def S₀:Shared:=P4.2.2.2
theorem uB(h:LC (prog,w,h₀,S₀))(p:Program×World×Heap×Shared):LC p:=Classical.byContradiction fun hn=>by
 have e:=@Classical.epsilon_spec _ (fun p=>¬ LC p) ⟨p,hn⟩
 unfold prog w h₀ S₀ P4 at h;exact e h
end Mine.Lake
end
section
set_option genCtorIdx false
open PySem PySem.W PySem.Calls PyProof.Rows
open PySem.Sem (wp)
namespace Mine.Lake
def VR(Z:List Addr):AV->Value->Prop
 | .none,x=>x=.none
 | .bool b,x=>x=.bool b
 | .int i,x=>∃ t,x=.int i t
 | .str n,x=>∃ t,x=.str n.str t
 | .bytes b,x=>∃ t,x=.bytes b.toArray t
 | .obj i,x=>∃ a,Z[i]?=some a/\x=.ref a
 | .base a,x=>x=.ref a
 | .bf f,x=>x=f.val
def RL{α β:Type}(R:α->β->Prop):List α->List β->Prop
 | [],[]=>True
 | a::l,b::r=>R a b/\RL R l r
 | _,_=>False
theorem RL.ind{α β:Type}{R:α->β->Prop}{P:List α->List β->Prop}(h0:P [] [])(h1:∀ a l b r,R a b->RL R l r->P l r->P (a::l) (b::r)){l:List α}{r:List β}(h:RL R l r):P l r:=by
 induction l generalizing r with
 | nil=>induction r using List.casesOn with
  | nil=>exact h0
  | cons _ _=>exact h.elim
 | cons a l ih=>induction r using List.casesOn with
  | nil=>exact h.elim
  | cons b r=>exact h1 a l b r h.1 h.2 (ih h.2)
theorem RL.mono{α β:Type}{R R':α->β->Prop}(h:∀ a b,R a b->R' a b){l:List α}{r:List β}(q:RL R l r):RL R' l r:=
 RL.ind (P:=fun l r=>RL R' l r) trivial (fun U U U U x U z=>⟨h _ _ x,z⟩) q
theorem RL.length{α β:Type}{R:α->β->Prop}{l:List α}{r:List β}(q:RL R l r):l.length=r.length:=
 RL.ind (R:=R) (P:=fun l r=>l.length=r.length) rfl (fun U U U U U U z=>congrArg (·+1) z) q
theorem RL.append{α β:Type}{R:α->β->Prop}{l l':List α}{r r':List β}(q:RL R l r)(h:RL R l' r'):RL R (l++l') (r++r'):=
 RL.ind (P:=fun l r=>RL R (l++l') (r++r')) h (fun a l b r x U z=>show RL R (a::(l++l')) (b::(r++r')) from ⟨x,z⟩) q
theorem RL.get{α β:Type}{R:α->β->Prop}{l:List α}{r:List β}(q:RL R l r):∀ (i:Nat) {a:α},l[i]?=some a->∃ b,r[i]?=some b/\R a b:=
 RL.ind (P:=fun l r=>∀ (i:Nat) {a:α},l[i]?=some a->∃ b,r[i]?=some b/\R a b) (fun U U e=>aA e) (fun U U U U x U z i a e=>by
  induction i using Nat.casesOn with
  | zero=>obtain rfl:=Option.some.inj e;exact(ag _ rfl x)
  | succ i=>exact z i e) q
theorem RL.set{α β:Type}{R:α->β->Prop}{l:List α}{r:List β}(q:RL R l r):∀ (i:Nat) {a:α} {b:β},R a b->RL R (l.set i a) (r.set i b):=
 RL.ind (P:=fun l r=>∀ (i:Nat) {a:α} {b:β},R a b->RL R (l.set i a) (r.set i b)) (fun U U U U=>trivial) (fun U U U U x y z i U U h=>by
  induction i using Nat.casesOn with
  | zero=>exact⟨h,y⟩
  | succ i=>exact⟨x,z i h⟩) q
theorem RL.eraseIdx{α β:Type}{R:α->β->Prop}{l:List α}{r:List β}(q:RL R l r):∀ (i:Nat),RL R (l.eraseIdx i) (r.eraseIdx i):=
 RL.ind (P:=fun l r=>∀ (i:Nat),RL R (l.eraseIdx i) (r.eraseIdx i)) (fun U=>trivial) (fun U U U U x y z i=>by
  induction i using Nat.casesOn with
  | zero=>exact y
  | succ i=>exact⟨x,z i⟩) q
theorem RL.take{α β:Type}{R:α->β->Prop}{l:List α}{r:List β}(q:RL R l r):∀ (i:Nat),RL R (l.take i) (r.take i):=
 RL.ind (P:=fun l r=>∀ (i:Nat),RL R (l.take i) (r.take i)) (fun i=>by induction i using Nat.casesOn <;> exact trivial) (fun U U U U x y z i=>by
  induction i using Nat.casesOn with
  | zero=>exact trivial
  | succ i=>exact⟨x,z i⟩) q
theorem RL.drop{α β:Type}{R:α->β->Prop}{l:List α}{r:List β}(q:RL R l r):∀ (i:Nat),RL R (l.drop i) (r.drop i):=
 RL.ind (P:=fun l r=>∀ (i:Nat),RL R (l.drop i) (r.drop i)) (fun i=>by induction i using Nat.casesOn <;> exact trivial) (fun U U U U x y z i=>by
  induction i using Nat.casesOn with
  | zero=>exact⟨x,y⟩
  | succ i=>exact z i) q
theorem RL.mem{α β:Type}{R:α->β->Prop}{l:List α}{r:List β}(q:RL R l r):∀ {b:β},b∈r->∃ a∈l,R a b:=
 RL.ind (P:=fun l r=>∀ {b:β},b∈r->∃ a∈l,R a b) (fun h=>absurd h List.not_mem_nil) (fun a U b U x U z U h=>(List.mem_cons.mp h).elim (fun e=>(ag a (.head _) (e▸x))) fun h=>af (z h) fun a ha hr=>(ag a (.tail _ ha) hr)) q
theorem bt{Z Z':List Addr}(h:Z<+:Z'){i:Nat}{a:Addr}(e:Z[i]?=some a):Z'[i]?=some a:=by
 refine aj h fun t z1=>?_;clear h;subst z1;refine ac (List.getElem?_append_left (List.getElem?_eq_some_iff.mp e).1 ..) ?_;exact e
theorem VR.mono{Z Z':List Addr}(h:Z<+:Z'){v:AV}{x:Value}(e:VR Z v x):VR Z' v x:=by
 induction v <;> first | exact e | (refine af e fun a e q=>?_;exact(ag a (bt h e) q))
noncomputable abbrev jV(xs:List Value)(n:Nat):Obj:={ cls:=.type "list",dict:=none,data:=.seq xs.toArray n,slots:=#[] }
noncomputable abbrev ko(xs:List Value)(n:Nat):Obj:={ cls:=.type "tuple",dict:=none,data:=.seq xs.toArray n,slots:=#[] }
noncomputable abbrev bN(b:List UInt8):Obj:={ cls:=.type "bytearray",dict:=none,data:=.bytearray b.toArray 0,slots:=#[] }
noncomputable abbrev uU(v:Option Value):Obj:={ cls:=.type "cell",dict:=none,data:=.cell v,slots:=#[] }
theorem gQ{t:Addr×Addr}(h:t∈fR):t.1∈bn:=by
 simp only [fR,List.mem_cons,List.not_mem_nil,or_false] at h;rcases h with rfl | rfl | rfl <;> simp [bn]
theorem fL{P:Addr}(h:P∈bn):∃ t∈fR,t.1=P:=by
 simp only [bn,List.mem_cons,List.not_mem_nil,or_false] at h;rcases h with rfl | rfl | rfl <;> simp [fR]
def Pt(h:Heap)(b:Addr):Prop:=b∈bn∨∃ P ps pos,P∈bn/\h.get? P=some (tabObj ps)/\codeAmong pos ps.toList=some (.ref b)
section
def CR(Z:List Addr)(cs:List (Nm×Nat))(es:List (Str×Addr)):Prop:=∀ x i,lk cs x=some i->∃ a,es.lookup x.str=some a/\Z[i]?=some a
theorem CR.mono{Z Z':List Addr}(h:Z<+:Z'){cs:List (Nm×Nat)}{es:List (Str×Addr)}(e:CR Z cs es):CR Z' cs es:=fun x i q=>af (e x i q) fun a y z=>(ag a y (bt h z))
structure LamFd(Z:List Addr)(h:Heap)(body:RE)(cells:List (Nm×Nat))(fd:FuncData):Prop where
 params:fd.params=⟨[],[],none,[],[],none,[]⟩
 body:∃ (n:Nat) (e:Expr),fd.body=.expr e/\trE n (fun s=>fd.scope.names.lookup s) e=some body
 scope:fd.scope.kind=.function/\fd.scope.isGenerator=false/\fd.scope.isCoroutine=false/\∀ x∈fd.scope.names,x.2≠.cell
 globals:fd.globals=mainGlobals
 builtins:fd.builtins=builtinsNs
 cells:CR Z cells fd.closure
 code:∃ b q,fd.code=.ref b/\Pt h b/\h.CodeRec (.ref b) q
 dflt:fd.defaults=.none/\fd.kwdefaults=.none
def Means(Z:List Addr)(h:Heap):AO->Obj->Prop
 | .inst C d,o=>∃ a,Z[d]?=some a/\o=instObj C a
 | .sd l,o=>∃ kvs,o.IsDictOf (strKind prog w) kvs/\RL (fun (p:Nm×AV) (q:Str×Value)=>q.1=p.1.str/\VR Z p.2 q.2) l kvs
 | .idd l,o=>∃ kvs,o.IsDictOf (intKind prog w) kvs/\RL (fun (p:Int×AV) (q:Int×Value)=>q.1=p.1/\VR Z p.2 q.2) l kvs
 | .frz l,o=>∃ kvs,o.IsDictOf (intKind prog w) kvs/\RL (fun (p:Int×AV) (q:Int×Value)=>q.1=p.1/\VR Z p.2 q.2) l kvs
 | .fl l,o=>∃ (xs:List Value) (n:Nat),(o.cls=.type "list"/\o.data=.seq xs.toArray n)/\RL (VR Z) l xs
 | .li l,o=>∃ xs n,o=jV xs n/\RL (VR Z) l xs
 | .tu l,o=>∃ xs n,o=ko xs n/\RL (VR Z) l xs
 | .ba b,o=>o=bN b
 | .ce v,o=>∃ x,o=uU x/\(match v,x with | some v,some x=>VR Z v x | none,none=>True | _,_=>False)
 | .lam body cells,o=>∃ fd,o={ cls:=.type "function",dict:=none,data:=.func fd,slots:=#[] }/\LamFd Z h body cells fd
end
theorem Means.mono{Z Z':List Addr}{h h':Heap}(hp:Z<+:Z')(hc:∀ b,Pt h b->Pt h' b/\∀ o,h.get? b=some o->h'.get? b=some o){d:AO}{o:Obj}(q:Means Z h d o):Means Z' h' d o:=by
 induction d with
 | inst C d=>refine af q fun a e z2=>?_;clear q;subst z2;exact(ag a (bt hp e) rfl)
 | sd l=>refine af q fun kvs a b=>?_;clear q;exact(ag kvs a (b.mono fun U U x=>⟨x.1,x.2.mono hp⟩))
 | idd l=>refine af q fun kvs a b=>?_;clear q;exact(ag kvs a (b.mono fun U U x=>⟨x.1,x.2.mono hp⟩))
 | frz l=>refine af q fun kvs a b=>?_;clear q;exact(ag kvs a (b.mono fun U U x=>⟨x.1,x.2.mono hp⟩))
 | fl l=>refine aI q fun xs n e b=>?_;clear q;exact(aw xs n e (b.mono fun U U x=>x.mono hp))
 | li l=>refine aI q fun xs n e b=>?_;clear q;exact(aw xs n e (b.mono fun U U x=>x.mono hp))
 | tu l=>refine aI q fun xs n e b=>?_;clear q;exact(aw xs n e (b.mono fun U U x=>x.mono hp))
 | ba b=>exact q
 | ce v=>
  refine af q fun x e b=>?_;clear q;refine(ag x e ?_);induction v <;> induction x <;> first | exact b | exact VR.mono hp b
 | lam b c=>
  refine af q fun fd e L=>?_;clear q;exact(ag fd e ({ L with cells:=L.cells.mono hp,code:=ai L.code fun b q x y z=>(ax b q x ((hc b y).1) (z.at (hc b y).2)) }))
inductive Keep
 | ns (L:Addr) (m:List (Nm×AV))
 | ob (a:Addr) (o:Obj)
@[reducible] noncomputable def Keep.ctorIdx(t:Keep):Nat:=Keep.casesOn (motive:=fun U=>Nat) t (fun U U=>0) (fun U U=>1)
noncomputable def Keep.addr:Keep->Addr
 | .ns L _=>L
 | .ob a _=>a
def MR(Z:List Addr)(m:List (Nm×AV))(mm:Str->Option Value):Prop:=∀ x v,lk m x=some v->∃ y,mm x.str=some y/\VR Z v y
theorem MR.mono{Z Z':List Addr}(h:Z<+:Z'){m:List (Nm×AV)}{mm:Str->Option Value}(e:MR Z m mm):MR Z' m mm:=fun x v q=>af (e x v q) fun a y z=>(ag a y (z.mono h))
def Keep.Holds(Z:List Addr)(h:Heap):Keep->Prop
 | .ns L m=>∃ mm,h.Ns L mm/\MR Z m mm
 | .ob a o=>h.get? a=some o
def Fre(h₀ h:Heap)(a:Addr):Prop:=h₀.get? a=none/\¬ Pt h a
noncomputable def gJ(fs:List Env):List Addr:=fs.filterMap (·.frame)
structure TabOk(h:Heap)(P:Addr):Prop where
 tab:∃ ps,h.get? P=some (tabObj ps)/\TriplesOk ps.toList/\∀ pos v,codeAmong pos ps.toList=some v->∃ q,h.CodeRec v q
structure Cx where
 fs:List Env
 kp:List Keep
 L:Addr
 A:Around
 lk:List (Nat×Obj)
noncomputable def Cx.own(c:Cx):List Addr:=c.L::c.kp.map Keep.addr
section
structure Rep(c:Cx)(Z:List Addr)(O:St)(s:Shared):Prop where
 sh:s={ S₀ with heap:=s.heap,toks:=s.toks }
 base:h₀.StaysIn s.heap
 len:Z.length=O.n
 hn:∀ i,O.n<=i->O.H i=none
 own:∀ i o,O.H i=some o->∃ a ob,Z[i]?=some a/\s.heap.get? a=some ob/\Means Z s.heap o ob
 nd:(c.own++Z).Nodup
 fre:∀ a∈c.own++Z,Fre h₀ s.heap a/\∃ o,s.heap.get? a=some o
 tabs:∀ t∈fR,TabOk s.heap t.1
 hid:∀ P∈bn,h₀.get? P=none
 low:∀ a∈Z,a≠sysModules
 ff:s.heap.FunFrames h₀ c.fs
 fu:∀ b∈gJ c.fs,b=c.L∨∃ m,Keep.ns b m∈c.kp
 vars:∃ mm,s.heap.Ns c.L mm/\MR Z O.m mm
 kept:∀ k∈c.kp,k.Holds Z s.heap
 lks:∀ p∈c.lk,∃ (l:{d:AO // d.fz=true}) (a:Addr),O.H p.1=some l.1/\Z[p.1]?=some a/\s.heap.get? a=some p.2
end
section
variable {c:Cx}{Z Z':List Addr}{O:St}{s:Shared}{h':Heap}
theorem bQ{h h':Heap}(tb:∀ t∈fR,TabOk h t.1)(k:∀ b o,b∈bn->h.get? b=some o->h'.get? b=some o){b:Addr}(x:Pt h' b):Pt h b:=by
 rcases x with x | ⟨P,ps,pos,hP,e,q⟩
 ·exact .inl x
 ·refine af (fL hP) fun t ht z2=>?_;subst z2;refine af ((tb t ht).tab) fun ps' e' U=>?_;have:=k _ _ hP e';rw [e] at this;cases this;exact .inr (aY _ ps pos hP e' q)
theorem d7{h h':Heap}(k:∀ b o,b∈bn->h.get? b=some o->h'.get? b=some o){b:Addr}(x:Pt h b):Pt h' b:=by
 rcases x with x | ⟨P,ps,pos,hP,e,q⟩
 ·exact .inl x
 ·exact .inr (aY P ps pos hP (k _ _ hP e) q)
theorem dM{h h':Heap}(tb:∀ t∈fR,TabOk h t.1)(k:∀ b o,Pt h b->h.get? b=some o->h'.get? b=some o):∀ t∈fR,TabOk h' t.1:=fun t ht=>by
 refine az ((tb t ht).tab) fun ps e tr hr=>?_;refine⟨ps,k _ _ (.inl (gQ ht)) e,tr,fun pos v hc=>?_⟩;refine kC (hr pos v hc) fun q b o vs u z5 ho hd hv=>?_;subst z5;exact(kD q b o vs u rfl (k _ _ (.inr (aY _ ps pos (gQ ht) e hc)) ho) hd hv)
theorem lc{env:Env}{l:List Env}{L:Addr}(hf:env.frame=some L):gJ (env::l)=L::gJ l:=by
 unfold gJ;rw [List.filterMap_cons,hf]
theorem FunFrames.keep'{base h h':Heap}{l:List Env}:h.FunFrames base l->(∀ b o,b∈gJ l->h.get? b=some o->(∀ vs,o.data≠.fields vs)->∃ o',h'.get? b=some o'/\∀ vs,o'.data≠.fields vs)->h'.FunFrames base l:=by
 induction l with
 | nil=>exact fun U U=>trivial
 | cons env l ih=>
  intro z k
  refine bM z.2.1 fun L o hf hn ho hd=>?_;rw [lc hf] at k;refine af (k L o (.head _) ho hd) fun o' ho' hd'=>?_;exact(ao z.1 (cH L o' hf hn ho' hd') (ih z.2.2 fun b o hb=>k b o (.tail _ hb)))
theorem Rep.lt(R:Rep c Z O s){a:Addr}(ha:a∈c.own++Z):a<s.heap.objs.size:=aj (R.fre a ha).2 fun U e=>Heap.lt_size e
theorem Rep.tab_lt(R:Rep c Z O s){P:Addr}(hP:P∈bn):∃ o,s.heap.get? P=some o:=by
 refine af (fL hP) fun t ht z2=>?_;subst z2;refine af ((R.tabs t ht).tab) fun ps e U=>?_;exact⟨_,e⟩
theorem Rep.pt_there(R:Rep c Z O s){b:Addr}(x:Pt s.heap b):∃ o,s.heap.get? b=some o:=by
 rcases x with x | ⟨P,ps,pos,hP,e,q⟩
 ·exact R.tab_lt x
 ·refine af (fL hP) fun t ht z2=>?_;subst z2;refine az ((R.tabs t ht).tab) fun ps' e' U hr=>?_;rw [e] at e';cases e';refine lT (hr pos _ q) fun U b' o U U hb ho U=>?_;injection hb with z0_;subst z0_;exact⟨o,ho⟩
theorem get?_size(h:Heap):h.get? h.objs.size=none:=Heap.get?_none_of_le (Nat.le_refl _)
theorem Rep.fresh(R:Rep c Z O s){b:Addr}(hb:s.heap.get? b=none):Fre h₀ s.heap b/\b∉c.own++Z:=by
 refine⟨⟨?_,fun p=>?_⟩,fun hm=>?_⟩
 ·induction q:h₀.get? b with
  | none=>rfl
  | some o=>have:=R.base b o q;rw [hb] at this;exact aA this
 ·refine aj (R.pt_there p) fun o e=>?_;rw [hb] at e;exact aA e
 ·refine aj ((R.fre b hm).2) fun o e=>?_;rw [hb] at e;exact aA e
theorem Rep.keeps{t':Nat}(R:Rep c Z O s)(k:∀ b o,s.heap.get? b=some o->h'.get? b=some o):Rep c Z O { s with heap:=h',toks:=t' } where
 sh:=by have:=R.sh;exact ac this rfl
 base:=fun b o e=>k b o (R.base b o e)
 len:=R.len
 hn:=R.hn
 own:=fun i o e=>ai (R.own i o e) fun a ob x y z=>(ax a ob x (k _ _ y) (z.mono (List.prefix_refl _) fun b x=>⟨d7 (fun b o U e=>k b o e) x,fun o e=>k b o e⟩))
 nd:=R.nd
 fre:=fun a ha=>⟨⟨(R.fre a ha).1.1,fun p=>(R.fre a ha).1.2 (bQ R.tabs (fun b o U e=>k b o e) p)⟩,aj (R.fre a ha).2 fun o e=>⟨o,k _ _ e⟩⟩
 tabs:=dM R.tabs fun b o U e=>k b o e
 hid:=R.hid
 low:=R.low
 ff:=FunFrames.keep' R.ff fun b o U e hn=>(ag o (k _ _ e) hn)
 fu:=R.fu
 vars:=af R.vars fun mm x y=>(ag mm (x.keeps k) y)
 kept:=fun kk hk=>by
  have:=R.kept kk hk
  induction kk with
  | ns L m=>refine af this fun mm x y=>?_;clear this;exact(ag mm (x.keeps k) y)
  | ob a o=>exact k _ _ this
 lks:=fun p hp=>ai (R.lks p hp) fun l a x y z=>(ax l a x y (k _ _ z))
theorem Rep.toks{t':Nat}(R:Rep c Z O s):Rep c Z O { s with toks:=t' }:=R.keeps (h':=s.heap) fun U U e=>e
theorem Rep.change{a:Addr}{o':Obj}{O':St}{c':Cx}{t':Nat}(R:Rep c Z O s)(ha:a∈c.own++Z)(hx:Heap.ExtBut a s.heap h')(ho:h'.get? a=some o')
  (hc:c'.fs=c.fs/\c'.L=c.L/\c'.kp.map Keep.addr=c.kp.map Keep.addr)(hfu:∀ b m,Keep.ns b m∈c.kp->Keep.ns b m∈c'.kp)
  (hnf:a∈gJ c.fs->∀ vs,o'.data≠.fields vs)(hσ:O'.n=O.n)(hnone:∀ i,O.n<=i->O'.H i=none)
  (hH:∀ i o,O'.H i=some o->(Z[i]?=some a->(∀ b,Pt s.heap b->Pt h' b/\∀ o,s.heap.get? b=some o->h'.get? b=some o)->Means Z h' o o')/\(Z[i]?≠some a->O.H i=some o))
  (hv:∃ mm,h'.Ns c.L mm/\MR Z O'.m mm)(hk:∀ k∈c'.kp,k.addr=a->k.Holds Z h')(hk':∀ k∈c'.kp,k.addr≠a->k∈c.kp)(hlk:c'.lk=c.lk/\∀ p∈c.lk,O'.H p.1=O.H p.1/\Z[p.1]?≠some a)(hp:Z.length=O.n:=R.len) :
  Rep c' Z O' { s with heap:=h',toks:=t' }:=by
 have hpt:¬ Pt s.heap a:=(R.fre a ha).1.2
 have ktab:∀ b o,Pt s.heap b->s.heap.get? b=some o->h'.get? b=some o:=fun b o hb e=>hx b o (fun q=>hpt (q▸hb)) e
 have kps:∀ b o,b∈bn->s.heap.get? b=some o->h'.get? b=some o:=fun b o hb e=>ktab b o (.inl hb) e
 have hPt:∀ b,Pt s.heap b->Pt h' b/\∀ o,s.heap.get? b=some o->h'.get? b=some o:=fun b hb=>⟨d7 kps hb,fun o e=>ktab b o hb e⟩
 have hown:c'.own=c.own:=by unfold Cx.own;exact ac (hc.2.1 ..) (ac (hc.2.2 ..) rfl)
 exact {
  sh:=by have:=R.sh;exact ac this rfl
  base:=fun b o e=>hx b o (fun q=>by have:=(R.fre a ha).1.1;rw [<- q,e] at this;exact aA this.symm) (R.base b o e)
  len:=by refine ac hσ ?_;exact R.len
  hn:=fun i hi=>hnone i (by refine bo hσ ?_;exact hi)
  own:=fun i o e=>by
   by_cases q:Z[i]?=some a
   ·exact(ax a o' q ho ((hH i o e).1 q hPt))
   ·refine ai (R.own i o ((hH i o e).2 q)) fun b ob x y z=>?_;exact(ax b ob x (hx b ob (fun r=>q (r▸x)) y) (z.mono (List.prefix_refl _) hPt))
  nd:=by refine ac hown ?_;exact R.nd
  fre:=fun b hb=>by
   rw [hown] at hb;refine⟨⟨(R.fre b hb).1.1,fun p=>(R.fre b hb).1.2 (bQ R.tabs kps p)⟩,?_⟩;by_cases q:b=a
   ·subst q;exact⟨o',ho⟩
   ·refine aj ((R.fre b hb).2) fun o e=>?_;exact⟨o,hx b o q e⟩
  tabs:=dM R.tabs ktab
  hid:=R.hid
  low:=R.low
  ff:=by
   refine ac (hc.1 ..) ?_;refine FunFrames.keep' R.ff fun b o hb e hn=>?_;by_cases q:b=a
   ·subst q;exact(ag o' ho (hnf hb))
   ·exact(ag o (hx b o q e) hn)
  fu:=fun b hb=>by rw [hc.1] at hb;refine ac (hc.2.1 ..) ?_;exact(R.fu b hb).imp id fun z0_=>aj z0_ fun m x=>⟨m,hfu b m x⟩
  vars:=by refine ac (hc.2.1 ..) ?_;exact hv
  kept:=fun kk hkk=>by
   by_cases q:kk.addr=a
   ·exact hk kk hkk q
   ·have:=R.kept kk (hk' kk hkk q)
    induction kk with
    | ns L m=>
     refine af this fun mm z1 y=>?_;clear this;refine aU z1 fun o es ep e r=>?_;clear z1;exact(ag mm (aD o es ep (hx L o q e) r) y)
    | ob b o=>exact hx b o q this
  lks:=fun p hp=>by
   rw [hlk.1] at hp;refine ai (R.lks p hp) fun l b x y z=>?_;exact(ax l b (by refine ac ((hlk.2 p hp).1 ..) ?_;exact x) y (hx _ _ (fun q=>(hlk.2 p hp).2 (q▸y)) z)) }
theorem Rep.fr_own(R:Rep c Z O s){b:Addr}(hb:b∈gJ c.fs):b∈c.own:=by
 rcases R.fu b hb with rfl | ⟨m,x⟩
 ·exact List.mem_cons_self ..
 ·exact List.mem_cons_of_mem _ (List.mem_map_of_mem (f:=Keep.addr) x)
theorem Rep.L_own:c.L∈c.own++Z:=List.mem_append_left _ (List.mem_cons_self ..)
theorem Rep.rho_ne(R:Rep c Z O s){i:Nat}{a b:Addr}(e:Z[i]?=some a)(hb:b∈c.own):a≠b:=fun q=>by
 have:=(List.nodup_append.mp R.nd).2.2 b hb a (List.mem_of_getElem? e)
 exact this q.symm
theorem Rep.inj(R:Rep c Z O s){i j:Nat}{a:Addr}(e:Z[i]?=some a)(e':Z[j]?=some a):i=j:=
 (List.nodup_append.mp R.nd).2.1 |> fun h=>by
  have hi:=(List.getElem?_eq_some_iff.mp e).1
  exact(List.getElem?_inj hi h).mp (e.trans e'.symm)
theorem j0(n:Nm):nmOf n.str=some n:=(show ∀ n:Fin 119,nmOf (Nm.str n)=some (id (α:=Nm) n) by decide +kernel) n
theorem eu{a b:Nm}(h:a.str=b.str):a=b:=by
 have:=j0 a;rw [h,j0 b] at this;exact(Option.some.inj this).symm
theorem Rep.var{x:Nm}{v:AV}{y:Value}{mm mm':Str->Option Value}{t':Nat}(R:Rep c Z O s)(hx:Heap.SameBut c.L s.heap h')(hm:s.heap.Ns c.L mm)(hmr:MR Z O.m mm)
  (hn:h'.Ns c.L mm')(he:∀ z,mm' z=if z=x.str then some y else mm z)(hv:VR Z v y):Rep c Z (O.var x v) { s with heap:=h',toks:=t' }:=by
 refine ar (id hn) fun o' es ep ho hd hr=>?_;have hno:∀ k∈c.kp,k.addr≠c.L:=fun k hk q=>by
  have:=(List.nodup_append.mp R.nd).1
  unfold Cx.own at this;exact(List.nodup_cons.mp this).1 (q▸List.mem_map_of_mem (f:=Keep.addr) hk)
 refine R.change (o':=o') Rep.L_own hx.extBut ho (ao rfl rfl rfl) (fun U U x=>x) (fun U vs q=>by rw [hd] at q;injection q) rfl R.hn (fun i o e=>⟨fun q=>?_,fun U=>e⟩) (ag mm' hn (fun z u hz=>?_)) (fun k hk q=>absurd q (hno k hk)) (fun k hk U=>hk) ⟨rfl,fun p U=>⟨rfl,fun q=>absurd rfl (R.rho_ne q (List.mem_cons_self ..))⟩⟩
 ·exact absurd rfl (R.rho_ne q (List.mem_cons_self ..))
 ·refine ac (he ..) ?_;rw [show (O.var x v).m=st O.m x v from rfl,bw] at hz;by_cases q:x=z
  ·subst q;rw [if_pos rfl] at hz ⊢;obtain rfl:=Option.some.inj hz;exact(ag y rfl hv)
  ·rw [if_neg q] at hz;refine ac (if_neg fun h=>q (eu h.symm)) ?_;exact hmr z u hz
theorem cV{i:Nat}{o:AO}(e:O.H i=some o)(h:o.fz=false):∀ l:{d:AO // d.fz=true},O.H i≠some l.1:=fun l q=>by rw [e] at q;obtain rfl:=Option.some.inj q;exact absurd l.2 (by refine ac h ?_;decide)
theorem Rep.set{i:Nat}{a:Addr}{d:AO}{o':Obj}{t':Nat}(R:Rep c Z O s)(hf:∀ l:{d:AO // d.fz=true},O.H i≠some l.1)(hi:Z[i]?=some a)(hx:Heap.ExtBut a s.heap h')(ho:h'.get? a=some o')
  (hm:(∀ b,Pt s.heap b->Pt h' b/\∀ o,s.heap.get? b=some o->h'.get? b=some o)->Means Z h' d o'):Rep c Z (O.set i d) { s with heap:=h',toks:=t' }:=by
 have hne:∀ b∈c.own,b≠a:=fun b hb q=>R.rho_ne hi hb q.symm
 refine R.change (o':=o') (List.mem_append_right _ (List.mem_of_getElem? hi)) hx ho (ao rfl rfl rfl) (fun U U x=>x) (fun hf=>absurd rfl (hne _ (R.fr_own hf))) rfl (fun j hj=>?_) (fun j o e=>⟨fun q hP=>?_,fun q=>?_⟩) ?_
  (fun k hk q=>absurd q (hne _ (List.mem_cons_of_mem _ (List.mem_map_of_mem (f:=Keep.addr) hk)))) (fun k hk U=>hk) ⟨rfl,fun p hp=>by
   refine ai (R.lks p hp) fun l b x y z=>?_;have hne:p.1≠i:=fun q=>hf l (q▸x);exact⟨by simp only [St.set,if_neg hne],fun q=>hne (R.inj q hi)⟩⟩
 ·have:j≠i:=fun q=>by subst q;have:=(List.getElem?_eq_some_iff.mp hi).1;rw [R.len] at this;lia
  simp only [St.set,if_neg this];exact R.hn j hj
 ·obtain rfl:=R.inj q hi;simp only [St.set,if_true] at e;obtain rfl:=Option.some.inj e;exact hm hP
 ·have:j≠i:=fun r=>q (r▸hi)
  simpa only [St.set,if_neg this] using e
 ·refine af R.vars fun mm z1 y=>?_;refine aU z1 fun o es ep e r=>?_;clear z1;exact(ag mm (aD o es ep (hx _ _ (hne _ (List.mem_cons_self ..)) e) r) y)
theorem Rep.adopt{a:Addr}{d:AO}{o:Obj}(R:Rep c Z O s)(hF:Fre h₀ s.heap a)(hno:a∉c.own++Z)(hlow:a≠sysModules)(ho:s.heap.get? a=some o)(hm:Means (Z++[a]) s.heap d o) :
  Rep c (Z++[a]) (O.push d) s:=by
 have hp:Z<+:Z++[a]:=List.prefix_append ..
 exact { R with
  len:=by refine ac (List.length_append ..) (ac (R.len ..) ?_);rfl
  hn:=fun i hi=>by
   have h1:O.n+1<=i:=hi
   have:i≠O.n:=by lia
   simp only [St.push,if_neg this];exact R.hn i (by lia)
  own:=fun i x e=>by
   by_cases q:i=O.n
   ·subst q;simp only [St.push,if_true] at e;obtain rfl:=Option.some.inj e;exact(ax a o (ac (List.getElem?_append_right (by refine ac (R.len ..) ?_;exact Nat.le_refl _) ..) (ac (R.len ..) (ac (Nat.sub_self ..) rfl))) ho hm)
   ·simp only [St.push,if_neg q] at e;refine ai (R.own i x e) fun b ob x1 x2 x3=>?_;exact(ax b ob (bt hp x1) x2 (x3.mono hp fun b hb=>⟨hb,fun U e=>e⟩))
  nd:=by
   refine bo (List.append_assoc ..) ?_;exact List.nodup_append.mpr (ao R.nd (by simp) (fun x hx y hy q=>by simp at hy;subst hy;exact hno (q▸hx)))
  fre:=fun b hb=>by
   rw [<- List.append_assoc] at hb;rcases List.mem_append.mp hb with hb | hb
   ·exact R.fre b hb
   ·simp at hb;subst hb;exact⟨hF,o,ho⟩
  low:=fun b hb=>by
   rcases List.mem_append.mp hb with hb | hb
   ·exact R.low b hb
   ·simp at hb;subst hb;exact hlow
  vars:=af R.vars fun mm x y=>(ag mm x (y.mono hp))
  kept:=fun k hk=>by
   have:=R.kept k hk
   induction k with
   | ns L m=>refine af this fun mm x y=>?_;clear this;exact(ag mm x (y.mono hp))
   | ob b o=>exact this
  lks:=fun p hk=>by
   refine ai (R.lks p hk) fun l b x y z=>?_;have hne:p.1≠O.n:=fun q=>by rw [q,R.hn _ (Nat.le_refl _)] at x;exact aA x
   exact(ax l b (by simp only [St.push,if_neg hne];exact x) (bt hp y) z) }
theorem Rep.size_low(R:Rep c Z O s):s.heap.objs.size≠sysModules:=by
 refine aj (R.tab_lt (P:=462) (by simp [bn])) fun o e=>?_;have h1:462<s.heap.objs.size:=Heap.lt_size e;intro q;have h2:s.heap.objs.size=1:=q;rw [h2] at h1;exact absurd h1 (by decide)
theorem Rep.push{d:AO}{o:Obj}{t':Nat}(R:Rep c Z O s)(hf:o.isFreed=false)(hm:Means (Z++[s.heap.objs.size]) (s.heap.push o) d o) :
  Rep c (Z++[s.heap.objs.size]) (O.push d) { s with heap:=s.heap.push o,toks:=t' }:=by
 have R':Rep c Z O { s with heap:=s.heap.push o,toks:=t' }:=R.keeps fun U U e=>Heap.get?_push_of_some _ e
 have fr:=R.fresh (get?_size s.heap)
 exact R'.adopt ⟨fr.1.1,fun p=>fr.1.2 (bQ R.tabs (fun b o U e=>Heap.get?_push_of_some _ e) p)⟩ fr.2 R.size_low (Heap.get?_push_size _ hf) hm
theorem Rep.pin{a:Addr}{o:Obj}(R:Rep c Z O s)(hF:Fre h₀ s.heap a)(hno:a∉c.own++Z)(ho:s.heap.get? a=some o) :
  Rep { c with kp:=.ob a o::c.kp } Z O s:={ R with
 nd:=by
  have e:(c.L::a::c.kp.map Keep.addr)++Z=c.L::a::(c.kp.map Keep.addr++Z):=rfl
  refine ac e ?_;have h1:=R.nd;unfold Cx.own at h1 hno;simp only [List.cons_append,List.nodup_cons,List.mem_cons,not_or] at h1 hno ⊢;exact(ao ⟨fun q=>hno.1 q.symm,h1.1⟩ hno.2 h1.2)
 fre:=fun b hb=>by
  have hb:b=c.L∨b=a∨b∈c.kp.map Keep.addr++Z:=by simpa [Cx.own,Keep.addr] using hb
  rcases hb with hb | rfl | hb
  ·exact R.fre b (by refine ac hb ?_;exact Rep.L_own)
  ·exact⟨hF,o,ho⟩
  ·exact R.fre b (by unfold Cx.own;exact List.mem_cons_of_mem _ hb)
 fu:=fun b hb=>(R.fu b hb).imp id fun z0_=>aj z0_ fun m x=>⟨m,List.mem_cons_of_mem _ x⟩
 kept:=fun k hk=>by
  rcases List.mem_cons.mp hk with rfl | hk
  ·exact ho
  ·exact R.kept k hk }
theorem Rep.pushPin{o:Obj}{t':Nat}(R:Rep c Z O s)(hf:o.isFreed=false) :
  Rep { c with kp:=.ob s.heap.objs.size o::c.kp } Z O { s with heap:=s.heap.push o,toks:=t' }:=by
 have R':Rep c Z O { s with heap:=s.heap.push o,toks:=t' }:=R.keeps fun U U e=>Heap.get?_push_of_some _ e
 have fr:=R.fresh (get?_size s.heap)
 exact R'.pin ⟨fr.1.1,fun p=>fr.1.2 (bQ R.tabs (fun b o U e=>Heap.get?_push_of_some _ e) p)⟩ fr.2 (Heap.get?_push_size _ hf)
theorem Rep.unpin{a:Addr}{o:Obj}{kp:List Keep}(R:Rep { c with kp:=.ob a o::kp } Z O s):Rep { c with kp:=kp } Z O s:={ R with
 nd:=by
  have h1:=R.nd
  have e:(c.L::a::kp.map Keep.addr)++Z=c.L::a::(kp.map Keep.addr++Z):=rfl
  rw [show (Cx.own { c with kp:=.ob a o::kp }++Z)=_ from e] at h1;show ((c.L::kp.map Keep.addr)++Z).Nodup;simp only [List.cons_append,List.nodup_cons,List.mem_cons,not_or] at h1 ⊢;exact⟨h1.1.2,h1.2.2⟩
 fre:=fun b hb=>R.fre b (by
  rcases List.mem_append.mp hb with hb | hb
  ·rcases List.mem_cons.mp hb with hb | hb
   ·exact List.mem_append_left _ (hb▸List.mem_cons_self ..)
   ·exact List.mem_append_left _ (List.mem_cons_of_mem _ (List.mem_cons_of_mem _ hb))
  ·exact List.mem_append_right _ hb)
 fu:=fun b hb=>(R.fu b hb).imp id fun z0_=>aj z0_ fun m x=>⟨m,by
  rcases List.mem_cons.mp x with x | x
  ·injection x
  ·exact x⟩
 kept:=fun k hk=>R.kept k (List.mem_cons_of_mem _ hk) }
theorem Rep.repin{a:Addr}{o o':Obj}{kp:List Keep}{t':Nat}(R:Rep { c with kp:=.ob a o::kp } Z O s)(hx:Heap.ExtBut a s.heap h')(ho:h'.get? a=some o')(hfd:∃ vs,o.data=.fields vs) :
  Rep { c with kp:=.ob a o'::kp } Z O { s with heap:=h',toks:=t' }:=by
 have hown:a∈Cx.own { c with kp:=.ob a o::kp }:=List.mem_cons_of_mem _ (List.mem_cons_self ..)
 have hat:s.heap.get? a=some o:=R.kept (.ob a o) (List.mem_cons_self ..)
 have hLa:c.L≠a:=fun q=>by
  have h1:=(List.nodup_append.mp R.nd).1
  exact(List.nodup_cons.mp h1).1 (show c.L∈a::kp.map Keep.addr from q▸List.mem_cons_self ..)
 have hka:∀ k∈kp,k.addr≠a:=fun k hk q=>by
  have h1:=(List.nodup_append.mp R.nd).1
  have h2:=(List.nodup_cons.mp (List.nodup_cons.mp h1).2).1
  exact h2 (show a∈kp.map Keep.addr from q▸List.mem_map_of_mem (f:=Keep.addr) hk)
 refine R.change (o':=o') (c':={ c with kp:=.ob a o'::kp }) (List.mem_append_left _ hown) hx ho (ao rfl rfl rfl) (fun b m x=>by
   rcases List.mem_cons.mp x with x | x
   ·injection x
   ·exact List.mem_cons_of_mem _ x) (fun hf=>?_) rfl R.hn (fun i ob e=>⟨fun q=>absurd rfl (R.rho_ne q hown),fun U=>e⟩) ?_ (fun k hk q=>?_) (fun k hk q=>?_) ⟨rfl,fun p U=>⟨rfl,fun q=>absurd rfl (R.rho_ne q hown)⟩⟩
 ·refine cC (R.ff.mem hf) fun U ob hob hnf=>?_;rw [hat] at hob;obtain rfl:=Option.some.inj hob;refine aj hfd fun vs hvs=>?_;clear hfd;exact absurd hvs (hnf vs)
 ·refine af R.vars fun mm z1 y=>?_;refine aU z1 fun ob es ep e r=>?_;clear z1;exact(ag mm (aD ob es ep (hx _ _ hLa e) r) y)
 ·rcases List.mem_cons.mp hk with rfl | hk
  ·exact ho
  ·exact absurd q (hka k hk)
 ·rcases List.mem_cons.mp hk with rfl | hk
  ·exact absurd rfl q
  ·exact List.mem_cons_of_mem _ hk
end
end Mine.Lake
end
section
open PySem PySem.W PySem.Calls PyProof.Rows
open PySem.Sem (wp)
namespace Mine.Lake
noncomputable def eP(h:Heap)(l:List Addr):Heap:={ h with objs:=h.objs.mapIdx fun i o=>if i∈l then { o with data:=.freed } else o }
noncomputable def wV(x:Option Obj):Option Obj:=match x with
 | some ⟨_,_,.freed,_⟩=>none
 | o=>o
theorem bO{h:Heap}{l:List Addr}(b:Addr):(eP h l).get? b=if b∈l then none else h.get? b:=by
 have e:(eP h l).objs[b]?=(h.objs[b]?).map (fun o=>if b∈l then { o with data:=.freed } else o):=Array.getElem?_mapIdx
 show wV ((eP h l).objs[b]?)=ite _ none (wV (h.objs[b]?));refine ac (e ..) ?_;induction h.objs[b]? with
 | none=>exact(ite_self _).symm
 | some o=>
  by_cases hb:b∈l
  ·rw [Option.map_some,if_pos hb,if_pos hb];rfl
  ·rw [Option.map_some,if_neg hb,if_neg hb]
theorem eQ(h:Heap)(l:List Addr):(eP h l).StaysIn h:=fun b o e=>by
 rw [bO] at e;split at e
 ·exact aA e
 ·exact e
variable {c:Cx}{Z Z':List Addr}{O:St}{s:Shared}{h':Heap}
def uE(h₀:Heap)(c:Cx)(Z:List Addr)(h:Heap)(ea:Addr)(vs:Array Value):Prop:=
 ∃ T oT ts,vs[1]?=some (.ref T)/\T≠ea/\h.get? T=some oT/\oT.data=.fields ts/\ts[3]?=some .none/\Fre h₀ h T/\T∉c.own++Z
structure FlyAt(h₀:Heap)(c:Cx)(Z:List Addr)(h:Heap)(ea C:Addr):Prop where
 free:Fre h₀ h ea/\ea∉c.own++Z
 obj:∃ oe vs a0,h.get? ea=some oe/\oe.cls=.ref C/\oe.data=.fields vs/\vs[0]?=some a0/\(vs[1]?=some .none∨uE h₀ c Z h ea vs)
theorem Rep.slots{X:List Addr}{t':Nat}(R:Rep c Z O s)(hX:∀ b∈X,Fre h₀ s.heap b/\b∉c.own++Z)(hx:∀ b o,b∉gJ c.fs->b∉X->s.heap.get? b=some o->h'.get? b=some o)
  (hs:∀ b o,s.heap.get? b=some o->(∀ vs,o.data≠.fields vs)->∃ sl,h'.get? b=some { o with slots:=sl }):Rep c Z O { s with heap:=h',toks:=t' }:=by
 have frO:∀ b,b∈gJ c.fs->b∈c.own:=fun b hb=>R.fr_own hb
 have notX:∀ b,b∈c.own++Z->b∉X:=fun b hb hX'=>(hX b hX').2 hb
 have ptX:∀ b,Pt s.heap b->b∉gJ c.fs/\b∉X:=fun b hb=>⟨fun hf=>(R.fre b (List.mem_append_left _ (frO b hf))).1.2 hb,fun hX'=>(hX b hX').1.2 hb⟩
 have kpt:∀ b o,Pt s.heap b->s.heap.get? b=some o->h'.get? b=some o:=fun b o hb e=>hx b o (ptX b hb).1 (ptX b hb).2 e
 have kps:∀ b o,b∈bn->s.heap.get? b=some o->h'.get? b=some o:=fun b o hb e=>kpt b o (.inl hb) e
 have hPt:∀ b,Pt s.heap b->Pt h' b/\∀ o,s.heap.get? b=some o->h'.get? b=some o:=fun b hb=>⟨d7 kps hb,fun o e=>kpt b o hb e⟩
 have nsk:∀ {a mm},s.heap.Ns a mm->h'.Ns a mm:=fun {a mm} hn=>by
  refine ar hn fun o es ep ho hd r=>?_;clear hn;refine aj (hs a o ho fun vs q=>by rw [hd] at q;injection q) fun sl hsl=>?_;exact(aY _ es ep hsl hd r)
 exact {
  sh:=by have:=R.sh;exact ac this rfl
  base:=fun b o e=>hx b o (fun hf=>by have:=(R.fre b (List.mem_append_left _ (frO b hf))).1.1;rw [e] at this;exact aA this.symm) (fun hX'=>by have:=(hX b hX').1.1;rw [e] at this;exact aA this.symm) (R.base b o e)
  len:=R.len
  hn:=R.hn
  own:=fun i o e=>by
   refine ai (R.own i o e) fun a ob x y z=>?_;have ha:a∈c.own++Z:=List.mem_append_right _ (List.mem_of_getElem? x);exact(ax a ob x (hx a ob (fun hf=>R.rho_ne x (frO a hf) rfl) (notX a ha) y) (z.mono (List.prefix_refl _) hPt))
  nd:=R.nd
  fre:=fun b hb=>⟨⟨(R.fre b hb).1.1,fun p=>(R.fre b hb).1.2 (bQ R.tabs kps p)⟩,by
   refine aj ((R.fre b hb).2) fun o e=>?_;by_cases hf:b∈gJ c.fs
   ·refine cC (R.ff.mem hf) fun U o e hn=>?_;refine aj (hs b o e hn) fun sl e'=>?_;exact⟨_,e'⟩
   ·exact⟨o,hx b o hf (notX b hb) e⟩⟩
  tabs:=dM R.tabs kpt
  hid:=R.hid
  low:=R.low
  ff:=FunFrames.keep' R.ff fun b o hb e hn=>by
   refine aj (hs b o e hn) fun sl e'=>?_;exact(ag _ e' hn)
  fu:=R.fu
  vars:=af R.vars fun mm x y=>(ag mm (nsk x) y)
  kept:=fun k hk=>by
   have:=R.kept k hk
   induction k with
   | ns L m=>refine af this fun mm x y=>?_;clear this;exact(ag mm (nsk x) y)
   | ob a o=>
    refine hx a o (fun hf=>?_) (notX a (List.mem_append_left _ (List.mem_cons_of_mem _ (List.mem_map_of_mem (f:=Keep.addr) hk)))) this;have nd:=(List.nodup_append.mp R.nd).1;rcases R.fu a hf with q | ⟨m,q⟩
    ·exact(List.nodup_cons.mp nd).1 (q▸List.mem_map_of_mem (f:=Keep.addr) hk)
    ·have nd2:=(List.nodup_cons.mp nd).2
     exact absurd (kp_inj nd2 hk q rfl) (by nofun)
  lks:=fun p hp=>by
   refine ai (R.lks p hp) fun l a x y z=>?_;have ha:a∈c.own++Z:=List.mem_append_right _ (List.mem_of_getElem? y);exact(ax l a x y (hx a _ (fun hf=>R.rho_ne y (frO a hf) rfl) (notX a ha) z)) }
where
 kp_inj:∀ {l:List Keep} {x y:Keep},(l.map Keep.addr).Nodup->x∈l->y∈l->x.addr=y.addr->x=y
  | [],_,_,_,hx,_,_=>absurd hx List.not_mem_nil
  | z::l,x,y,nd,hx,hy,e=>by
   rw [List.map_cons,List.nodup_cons] at nd;rcases List.mem_cons.mp hx with hx1 | hx1
   ·rcases List.mem_cons.mp hy with hy1 | hy1
    ·exact ac hx1 (ac hy1 rfl)
    ·exact absurd (List.mem_map_of_mem (f:=Keep.addr) hy1) (by refine bo e (ac hx1 ?_);exact nd.1)
   ·rcases List.mem_cons.mp hy with hy1 | hy1
    ·exact absurd (List.mem_map_of_mem (f:=Keep.addr) hx1) (by refine ac e (ac hy1 ?_);exact nd.1)
    ·exact kp_inj nd.2 hx1 hy1 e
theorem StaysIn.sub{h h':Heap}{l:List Addr}(x:(eP h l).StaysIn h'):∀ b o,b∉l->h.get? b=some o->h'.get? b=some o:=fun b o hb e=>x b o (ac (bO ..) (ac (if_neg hb ..) (e)))
theorem FlyAt.after{X:List Addr}{ea C:Addr}{h':Heap}{a0:Value}(R:Rep c Z O s)(F:Fre h₀ s.heap ea/\ea∉c.own++Z)(hX:∀ b∈X,Fre h₀ s.heap b/\b∉c.own++Z)
  (hst:(eP s.heap (gJ c.fs++X)).StaysIn h')(hff:h'.FunFrames (eP s.heap (gJ c.fs++X)) c.fs)(ht:h'.TracedW (eP s.heap (gJ c.fs++X)) ea (.ref C) a0)(hea:ea∈X):FlyAt h₀ c Z h' ea C:=by
 refine fZ ht fun oe vs T oT ts he z6 hd h1 hnT hTe hT hdT h3=>?_;clear ht;obtain ⟨hcls,h0⟩:=z6;have kps:∀ b o,b∈bn->s.heap.get? b=some o->h'.get? b=some o:=fun b o hb e=>StaysIn.sub hst b o (fun hm=>by
  rcases List.mem_append.mp hm with hm | hm
  ·exact(R.fre b (List.mem_append_left _ (R.fr_own hm))).1.2 (.inl hb)
  ·exact(hX b hm).1.2 (.inl hb)) e
 have back:∀ b,Fre h₀ s.heap b->Fre h₀ h' b:=fun b x=>⟨x.1,fun p=>x.2 (bQ R.tabs kps p)⟩
 have hTf:Fre h₀ s.heap T/\T∉c.own++Z:=by
  rw [bO] at hnT;by_cases hm:T∈gJ c.fs++X
  ·rcases List.mem_append.mp hm with hm | hm
   ·refine cC (hff.mem hm) fun U o e hn=>?_;rw [hT] at e;obtain rfl:=Option.some.inj e;exact absurd hdT (hn ts)
   ·exact hX T hm
  ·rw [if_neg hm] at hnT;exact R.fresh hnT
 exact⟨⟨back ea F.1,F.2⟩,oe,vs,a0,he,hcls,hd,h0,.inr (eL T oT ts h1 hTe hT hdT h3 (back T hTf.1) hTf.2)⟩
theorem FunFrames.hidden{l:List Addr}{base h:Heap}{fs:List Env}:h.FunFrames base fs->(∀ b∈gJ fs,b∈l)->h.FunFrames (eP h l) fs:=by
 induction fs with
 | nil=>exact fun U U=>trivial
 | cons env fs ih=>
  intro z hl
  refine bM z.2.1 fun L o hf hn ho hd=>?_;rw [lc hf] at hl;exact⟨z.1,cH L o hf (by rw [bO,if_pos (hl L (.head _))]) ho hd,ih z.2.2 fun b hb=>hl b (.tail _ hb)⟩
theorem eX{M:Model}{E:Value->Shared->Prop}{env:Env}{outer:List Env}{L ea C:Addr}{Q:Unit->Shared->Prop}(R:Rep c Z O s)(hfs:c.fs=env::outer)(hA:c.A.frames=some c.fs)(hL:env.frame=some L)
  (F:FlyAt h₀ c Z s.heap ea C)(k:∀ h',Rep c Z O { s with heap:=h' }->FlyAt h₀ c Z h' ea C->Q () { s with heap:=h' }):wpAny M c.A (leaving env (.ref ea)) Q E s:=by
 obtain ⟨hfree,oe,vs,a0,he,hcls,hd,h0,ht⟩:=F
 have hA':c.A.frames=some (env::outer):=by exact ac hA (ac hfs rfl)
 have fin:∀ (X:List Addr),ea∈X->(∀ b∈X,Fre h₀ s.heap b/\b∉c.own++Z)->∀ h',Heap.LeftW (eP s.heap (gJ c.fs++X)) (env::outer) ea (.ref C) a0 s.heap h'->Q () { s with heap:=h' }:=fun X hea hX h' z0_=>bK z0_ fun x1 x2 x3 x4=>
  k h' (R.slots hX (fun b o hb hbX e=>StaysIn.sub x1 b o (fun hm=>(List.mem_append.mp hm).elim hb hbX) e) x4) (FlyAt.after R hfree hX x1 (by refine ac hfs ?_;rw [hfs] at x2;exact x2) x3 hea)
 have hff:∀ X,s.heap.FunFrames (eP s.heap (gJ c.fs++X)) (env::outer):=fun X=>hfs▸FunFrames.hidden R.ff fun b hb=>List.mem_append_left _ hb
 rcases ht with ht | ⟨T,oT,ts,h1,hTe,hT,hdT,h3,hTf⟩
 ·have hX:∀ b∈[ea],Fre h₀ s.heap b/\b∉c.own++Z:=fun b hb=>by simp at hb;subst hb;exact hfree
  exact wpAny_leaving_firstW hA' (hff [ea]) hL he (eQ _ _) (ac (bO ..) (ac (if_pos (by simp) ..) rfl)) hd ht h0 fun h' x=>fin [ea] (by simp) hX h' (hcls▸x)
 ·have hX:∀ b∈[ea,T],Fre h₀ s.heap b/\b∉c.own++Z:=fun b hb=>by
   simp at hb
   rcases hb with rfl | rfl
   ·exact hfree
   ·exact hTf
  exact wpAny_leaving_nextW hA' (hff [ea,T]) hL ⟨oe,vs,T,oT,ts,he,⟨hcls,h0⟩,hd,h1,by rw [bO,if_pos (by simp)],hTe,hT,hdT,h3⟩ (eQ _ _) (ac (bO ..) (ac (if_pos (by simp) ..) rfl)) fun h' x=>fin [ea,T] (by simp) hX h' x
structure Room(c:Cx)(k n:Nat):Prop where
 frames:c.A.frames=some c.fs
 depth:c.A.depth+10 * k+10<=900
 units:c.A.units+10 * n+700 * k+100<=9800
 handled:c.A.handled=none
section
variable {α β γ δ:Type}
def okP(c:Cx)(Z:List Addr)(rel:List Addr->α->β->Prop)(r:Res α)(v:β)(s':Shared):Prop:=match r with
 | .ok a O'=>∃ Z',Z<+:Z'/\rel Z' a v/\Rep c Z' O' s'
 | _=>False
def oV(c:Cx)(Z:List Addr)(r:Res α)(e:Value)(s':Shared):Prop:=match r with
 | .exc C O'=>∃ Z' ea,Z<+:Z'/\e=.ref ea/\FlyAt h₀ c Z' s'.heap ea C/\Rep c Z' O' s'
 | _=>False
def Sd(c:Cx)(Z:List Addr)(rel:List Addr->α->β->Prop)(r:Res α)(t:Sem β)(s:Shared):Prop:=
 r≠.bad->wpD (model prog w) c.A t (okP c Z rel r) (oV c Z r) s
end
section
variable {c:Cx}{Z Z':List Addr}{O O':St}{s s':Shared}{h':Heap}{α β γ δ:Type}{rel:List Addr->α->β->Prop}{rel2:List Addr->γ->δ->Prop}
theorem okP.pre(hp:Z<+:Z'){r:Res α}{v:β}(h:okP c Z' rel r v s):okP c Z rel r v s:=by
 induction r <;> first | exact h | (refine af h fun Z₂ x y=>?_;clear h;exact(ag Z₂ (hp.trans x) y))
theorem oV.pre(hp:Z<+:Z'){r:Res α}{e:Value}(h:oV c Z' r e s):oV c Z r e s:=by
 induction r <;> first | exact h | (refine aI h fun Z₂ ea x y=>?_;clear h;exact(aw Z₂ ea (hp.trans x) y))
theorem Sd.pre(hp:Z<+:Z'){r:Res α}{t:Sem β}(h:Sd c Z' rel r t s):Sd c Z rel r t s:=fun hb=>
 am (h hb) (fun U U x=>x.pre hp) fun U U x=>x.pre hp
theorem Sd.bad{rel:List Addr->α->β->Prop}{t:Sem β}:Sd c Z rel .bad t s:=fun hb=>absurd rfl hb
theorem Sd.ret{a:α}{v:β}(R:Rep c Z O s)(h:rel Z a v):Sd c Z rel (.ok a O) (pure v) s:=fun U=>ah (aH Z (List.prefix_refl _) h R)
theorem Sd.bind{x:Res α}{f:α->St->Res γ}{t:Sem β}{k:β->Sem δ}(h1:Sd c Z rel x t s)
  (h2:∀ a O' Z' v s',x=.ok a O'->Z<+:Z'->rel Z' a v->Rep c Z' O' s'->Sd c Z' rel2 (f a O') (k v) s'):Sd c Z rel2 (x.bind f) (t>>=k) s:=by
 intro hb
 induction x with
 | bad=>exact absurd rfl hb
 | ok a O'=>
  refine ae (am (h1 w_) (fun v s' z0_=>az z0_ fun Z' hp hr R=>?_) fun U U x=>x.elim);exact(h2 a O' Z' v s' rfl hp hr R).pre hp hb
 | exc C O'=>exact ae (am (h1 xM) (fun U U x=>x.elim) fun U U x=>x)
theorem Sd.stand{p:Pos}{r:Res α}{t:Sem β}(h:Sd c Z rel r t s):Sd c Z rel r (standAt p>>=fun U=>t) s:=fun hb=>ae (bq (h hb))
theorem Sd.holding{vs:List Value}{r:Res α}{t:Sem β}(h:Sd c Z rel r t s):Sd c Z rel r (PySem.holding vs t) s:=fun hb=>au (h hb)
theorem Sd.operate{vs:List Value}{r:Res α}{rel:List Addr->α->Value->Prop}{t:Sem Value}(h:Sd c Z rel r t s):Sd c Z rel r (PySem.operate vs t) s:=fun hb=>d_ (h hb)
theorem Sd.release{vs k:List Value}{r:Res α}{t:Sem β}(h:Sd c Z rel r t s):Sd c Z rel r (PySem.release vs k>>=fun U=>t) s:=fun hb=>ae (lL (h hb))
theorem Sd.eq{r:Res α}{t t':Sem β}(e:t=t')(h:Sd c Z rel r t' s):Sd c Z rel r t s:=e▸h
theorem Sd.leaf{r:Res α}{t:Sem β}(h:r≠.bad->wpAny (model prog w) c.A t (okP c Z rel r) (oV c Z r) s):Sd c Z rel r t s:=fun hb=>al (h hb)
theorem okP.mk{a:α}{v:β}(R:Rep c Z O s)(h:rel Z a v):okP c Z rel (.ok a O) v s:=(aH Z (List.prefix_refl _) h R)
theorem okP.mk'{a:α}{v:β}(hp:Z<+:Z')(R:Rep c Z' O s)(h:rel Z' a v):okP c Z rel (.ok a O) v s:=(aH Z' hp h R)
theorem Rep.same{c':Cx}(R:Rep c Z O s)(h1:c'.fs=c.fs)(h2:c'.kp=c.kp)(h3:c'.L=c.L)(h4:c'.lk=c.lk):Rep c' Z O s:=by
 obtain ⟨fs,kp,L,A,lk⟩:=c
 obtain ⟨fs',kp',L',A',lk'⟩:=c'
 subst h1;subst h2;subst h3;subst h4;exact { R with }
theorem Rep.enter{o:Obj}{A:Around}{t':Nat}(R:Rep c Z O s)(hf:o.isFreed=false)(hd:o.data=.dict #[]) :
  Rep ⟨c.fs,.ns c.L O.m::c.kp,s.heap.objs.size,A,c.lk⟩ Z { O with m:=[] } { s with heap:=s.heap.push o,toks:=t' }:=by
 have R':Rep c Z O { s with heap:=s.heap.push o,toks:=t' }:=R.keeps fun U U e=>Heap.get?_push_of_some _ e
 have fr:=R.fresh (get?_size s.heap)
 have hat:(s.heap.push o).get? s.heap.objs.size=some o:=Heap.get?_push_size _ hf
 exact { R' with
  nd:=by
   have h1:=R.nd
   show (s.heap.objs.size::(c.own++Z)).Nodup;exact List.nodup_cons.mpr ⟨fr.2,h1⟩
  fre:=fun b hb=>by
   have hb:b∈s.heap.objs.size::(c.own++Z):=hb
   rcases List.mem_cons.mp hb with rfl | hb
   ·exact⟨⟨fr.1.1,fun p=>fr.1.2 (bQ R.tabs (fun b o U e=>Heap.get?_push_of_some _ e) p)⟩,o,hat⟩
   ·exact R'.fre b hb
  fu:=fun b hb=>by
   rcases R.fu b hb with rfl | ⟨m,x⟩
   ·exact .inr ⟨_,List.mem_cons_self ..⟩
   ·exact .inr ⟨m,List.mem_cons_of_mem _ x⟩
  vars:=(ag (fun U=>none) (ck o #[] _ hat hd (fun e he=>((Array.not_mem_empty _ he).elim)) (fun U=>rfl)) (fun x v e=>by exact aA e))
  kept:=fun k hk=>by
   rcases List.mem_cons.mp hk with rfl | hk
   ·exact R'.vars
   ·exact R'.kept k hk }
theorem Rep.frame{env:Env}{kp:List Keep}{L:Addr}{A A':Around}{fs:List Env}{lk:List (Nat×Obj)}(R:Rep ⟨fs,kp,L,A,lk⟩ Z O s)(hf:env.frame=some L)(hk:env.scope.kind≠.module):Rep ⟨env::fs,kp,L,A',lk⟩ Z O s:={ R with
 ff:=by
  refine af R.vars fun mm z1 U=>?_;refine ar z1 fun o es ep ho hd U=>?_;clear z1;exact(ao hk (cH L o hf ((R.fre L Rep.L_own).1.1) ho (fun vs q=>by rw [hd] at q;injection q)) R.ff)
 fu:=fun b hb=>by
  simp only [gJ,List.filterMap_cons,hf] at hb;rcases List.mem_cons.mp hb with rfl | hb
  ·exact .inl rfl
  ·exact R.fu b hb }
theorem Rep.leave{m₀:List (Nm×AV)}{kp:List Keep}{L L₁:Addr}{A A':Around}{fs fs₁:List Env}{lk:List (Nat×Obj)}(R:Rep ⟨fs₁,.ns L m₀::kp,L₁,A,lk⟩ Z O s)(hff:s.heap.FunFrames h₀ fs)(hfs:∀ b∈gJ fs,b∈gJ fs₁)
  (hn:∀ b∈gJ fs,b≠L₁):Rep ⟨fs,kp,L,A',lk⟩ Z { O with m:=m₀ } s:={ R with
 nd:=by
  have h1:(L₁::(L::kp.map Keep.addr++Z)).Nodup:=R.nd
  exact(List.nodup_cons.mp h1).2
 fre:=fun b hb=>R.fre b (show b∈L₁::(L::kp.map Keep.addr++Z) from List.mem_cons_of_mem _ hb)
 ff:=hff
 fu:=fun b hb=>by
  rcases R.fu b (hfs b hb) with q | ⟨m,x⟩
  ·exact absurd q (hn b hb)
  ·rcases List.mem_cons.mp x with x | x
   ·injection x with z0_ z1_;subst z0_;subst z1_;exact .inl rfl
   ·exact .inr ⟨m,x⟩
 vars:=R.kept (.ns L m₀) (List.mem_cons_self ..)
 kept:=fun k hk=>R.kept k (List.mem_cons_of_mem _ hk) }
theorem FlyAt.sub{c c':Cx}{h:Heap}{ea C:Addr}(F:FlyAt h₀ c' Z h ea C)(hs:∀ b,b∈c.own->b∈c'.own):FlyAt h₀ c Z h ea C:=by
 have k:∀ b,b∉c'.own++Z->b∉c.own++Z:=fun b hb hm=>hb ((List.mem_append.mp hm).elim (fun x=>List.mem_append_left _ (hs b x)) fun x=>List.mem_append_right _ x)
 obtain ⟨⟨f1,f2⟩,oe,vs,a0,he,hc,hd,h0,ht⟩:=F
 refine⟨⟨f1,k _ f2⟩,oe,vs,a0,he,hc,hd,h0,ht.imp id ?_⟩
 rintro ⟨T,oT,ts,x1,x2,x3,x4,x5,x6,x7⟩
 exact(eL T oT ts x1 x2 x3 x4 x5 x6 (k _ x7))
structure EnvR(k:Kd)(a:AEnv)(env:Env)(c:Cx)(Z:List Addr):Prop where
 L:env.locals=c.L
 kind:env.scope.kind=.function
 kd:∀ (x:Str) q,k x=some q->(env.kindOf x=some q∨(q=.free/\env.kindOf x=some .cell))
 cells:CR Z a.cells env.cells
 glob:env.globals=mainGlobals/\env.builtins=builtinsNs
 frame:∃ e fs,c.fs=e::fs/\env.frame=e.frame
 tab:a.tab≠0->∃ t∈fR,t.1=a.tab/\env.code=.ref t.2
theorem EnvR.mono{k:Kd}{a:AEnv}{env:Env}(E:EnvR k a env c Z)(hp:Z<+:Z'):EnvR k a env c Z':={ E with cells:=E.cells.mono hp }
theorem aB{s:Str}{x:Nm}(h:nmOf s=some x):x.str=s:=by
 have key:∀ p∈qX,p.2.str=p.1:=by decide +kernel
 exact key (s,x) (mem_of_lookup h)
end
theorem ji(w:World){C:Nat}{n:Nm}(h:okData C n=true):jM (KF w) C n.str=true/\gP (KF w) C n.str=true:=by
 unfold okData at h;induction e:lk tC C with
 | none=>rw [e] at h;exact gw h
 | some l=>rw [e] at h;exact Bool.and_eq_true_iff.mp (List.all_eq_true.mp (List.all_eq_true.mp (mR w) _ (dv e)) n (of_decide_eq_true h))
theorem mO(w:World){C:Nat}{n:Nm}{f:Nat}(h:ek C n=some f):mN (KF w) C n.str f=true:=by
 unfold ek at h;induction e:lk methL C with
 | none=>rw [e] at h;exact aA h
 | some l=>rw [e] at h;exact List.all_eq_true.mp (List.all_eq_true.mp (lr w) _ (dv e)) _ (dv h)
theorem oW(w:World){n:Nm}{v:AV}(h:f9 n=some v):∃ x,(∀ Z,VR Z v x)/\(nsIn (KF w) mainGlobals n.str=some (some x)∨(nsIn (KF w) mainGlobals n.str=some none/\bootBuiltins n.str=some x/\n.str≠"__name__")):=by
 have q:qC (KF w) n v=true:=List.all_eq_true.mp (mB w) _ (dv h)
 induction v with
 | base a=>exact(ag (.ref a) (fun U=>rfl) (.inl (beq_iff_eq.mp q)))
 | bf f=>
  have q:=Bool.and_eq_true_iff.mp q
  have q1:=Bool.and_eq_true_iff.mp q.1
  exact(ag f.val (fun U=>rfl) (.inr (ao (beq_iff_eq.mp q1.1) (beq_iff_eq.mp q1.2) (bne_iff_ne.mp q.2))))
 | _=>exact gw q
variable {c:Cx}{Z Z':List Addr}{O O':St}{s s':Shared}{h':Heap}{α β γ δ:Type}
theorem Rep.K(R:Rep c Z O s)(B:Bse w h₀):(KF w).In s.heap:=B.K.keeps R.base
theorem da(x:Nm):(x.str==("__debug__":Str))=false:=(show ∀ n:Fin 119,(Nm.str n==("__debug__":Str))=false by decide +kernel) x
theorem jZ(x:Nm):(x.str==("__classdict__":Str))=false:=(show ∀ n:Fin 119,(Nm.str n==("__classdict__":Str))=false by decide +kernel) x
theorem xo{k:Kd}{a:AEnv}{env:Env}{x:Nm}{pos:Pos}(R:Rep c Z O s)(V:EnvR k a env c Z)(hk:k x.str=some .local) :
  Sd c Z VR (lift (lk O.m x) O) (eval (.Name x.str pos) env) s:=by
 induction e:lk O.m x with
 | none=>exact fun hb=>absurd rfl hb
 | some v=>
  refine Sd.leaf fun U=>?_;refine af R.vars fun mm hn hm=>?_;refine af (hm x v e) fun y hy hv=>?_;have hl:env.kindOf x.str=some .local:=by
   rcases V.kd _ _ hk with q | ⟨q,_⟩
   ·exact q
   ·injection q
  exact wpAny_Name (wpAny_loadName_local V.kind hl (by refine ac (V.L ..) ?_;exact hn) hy (okP.mk R hv)) (da x)
theorem xg{k:Kd}{a:AEnv}{env:Env}{x:Nm}{pos:Pos}(R:Rep c Z O s)(V:EnvR k a env c Z)(hk:k x.str=some .cell∨k x.str=some .free) :
  Sd c Z VR (ig a x O) (eval (.Name x.str pos) env) s:=by
 unfold ig;induction e:lk a.cells x with
 | none=>exact fun hb=>absurd rfl hb
 | some i=>
  dsimp only;induction e2:O.H i with
  | none=>exact fun hb=>absurd rfl hb
  | some o=>
   induction o with
   | ce v=>
    induction v with
    | none=>exact fun hb=>absurd rfl hb
    | some v=>
     refine Sd.leaf fun U=>?_;refine af (V.cells x i e) fun ad hlk hρ=>?_;obtain ⟨a',ob,h1,h2,y,h3,h4⟩:=R.own i _ e2;rw [hρ] at h1;obtain rfl:=Option.some.inj h1;induction y with
     | none=>exact h4.elim
     | some y=>
      have hc:s.heap.IsCell ad (some y):=(ag ob h2 (by exact ac h3 rfl))
      have hl:env.kindOf x.str=some .cell∨env.kindOf x.str=some .free:=by
       rcases hk with hk | hk
       ·rcases V.kd _ _ hk with q | ⟨q,_⟩
        ·exact .inl q
        ·injection q
       ·rcases V.kd _ _ hk with q | ⟨_,q⟩
        ·exact .inr q
        ·exact .inl q
      rcases hl with hl | hl
      ·exact wpAny_Name (wpAny_loadName_cell V.kind hl hlk hc (okP.mk R h4)) (da x)
      ·exact wpAny_Name (wpAny_loadName_free V.kind hl hlk hc (okP.mk R h4) (jZ x)) (da x)
   | _=>exact fun hb=>absurd rfl hb
theorem xk{k:Kd}{a:AEnv}{env:Env}{x:Nm}{pos:Pos}(B:Bse w h₀)(R:Rep c Z O s)(V:EnvR k a env c Z)(hk:k x.str=some .globalImplicit) :
  Sd c Z VR (lift (f9 x) O) (eval (.Name x.str pos) env) s:=by
 induction e:f9 x with
 | none=>exact fun hb=>absurd rfl hb
 | some v=>
  refine Sd.leaf fun U=>?_;refine af (oW w e) fun y hy hc=>?_;refine bM B.top fun mg mb g b bb U=>?_;have hl:env.kindOf x.str=some .globalImplicit:=by
   rcases V.kd _ _ hk with q | ⟨q,_⟩
   ·exact q
   ·injection q
  rcases hc with hc | ⟨hc,hb,hn⟩
  ·exact Name_function_global V.kind hl (loadGlobal_global (by refine ac (V.glob.1 ..) ?_;exact g.keeps R.base) (mg_of B.K g hc) (okP.mk R (hy Z))) (da x)
  ·exact Name_function_global V.kind hl (loadGlobal_builtin (by refine ac (V.glob.1 ..) ?_;exact g.keeps R.base) (mg_none_of B.K g hc) (by refine ac (V.glob.2 ..) ?_;exact b.keeps R.base) ((bb _ hn).trans hb) (okP.mk R (hy Z))) (da x)
theorem rD{k:Kd}{a:AEnv}{env:Env}{x:Nm}{v:AV}{y:Value}(R:Rep c Z O s)(V:EnvR k a env c Z)(hk:k x.str=some .local)(hv:VR Z v y) :
  Sd c Z (fun U U U=>True) (.ok () (O.var x v)) (bindName env x.str y) s:=by
 refine Sd.leaf fun U=>wpAny_bindName ?_;refine af R.vars fun mm hn hm=>?_;have hl:env.kindOf x.str=some .local:=by
  rcases V.kd _ _ hk with q | ⟨q,_⟩
  ·exact q
  ·injection q
 refine wpAny_storeName_local hl (m:=mm) (by refine ac (V.L ..) ?_;exact hn) (fun h' hns hsb=>?_) (by refine ac (V.kind ..) ?_;rfl);rw [V.L] at hns hsb;exact okP.mk (R.var hsb hn hm hns (fun z=>rfl) hv) trivial
theorem vP{k:Kd}{a:AEnv}{env:Env}{x:Nm}{v:AV}{y:Value}(R:Rep c Z O s)(V:EnvR k a env c Z)(hk:k x.str=some .cell)(hv:VR Z v y) :
  Sd c Z (fun U U U=>True) (iz a x v O) (bindName env x.str y) s:=by
 unfold iz;induction e:lk a.cells x with
 | none=>exact fun hb=>absurd rfl hb
 | some i=>
  dsimp only;induction e2:O.H i with
  | none=>exact fun hb=>absurd rfl hb
  | some o=>
   induction o with
   | ce v₀=>
    refine Sd.leaf fun U=>wpAny_bindName ?_;refine af (V.cells x i e) fun ad hlk hρ=>?_;obtain ⟨a',ob,h1,h2,y₀,h3,h4⟩:=R.own i _ e2;rw [hρ] at h1;obtain rfl:=Option.some.inj h1;have hl:env.kindOf x.str=some .cell:=by
     rcases V.kd _ _ hk with q | ⟨q,_⟩
     ·exact q
     ·injection q
    unfold storeName;refine ac (hl ..) (ac (V.kind ..) ?_);refine wpAny_bind (wpAny_cellOf hlk ?_);refine wpAny_bind (wpAny_load h2 ?_);refine ac h3 ?_;refine wpAny_update h2 (okP.mk (R.set (cV e2 rfl) hρ (Heap.SameBut.update ..).extBut (Heap.get?_update_self _ h2 (by subst h3;rfl)) fun U=>(ag (some y) (by exact ac h3 rfl) hv)) trivial)
   | _=>exact fun hb=>absurd rfl hb
theorem mA{es:List DictEntry}{kvs:List (Str×Value)}(hp:Pairs (strKind prog w) es kvs)(name:Str):(es.find? (·.key.isStr name)).map (·.val)=valueAt kvs name:=by
 have:=hp.find name
 refine bo (this ..) ?_;have e:(fun e:DictEntry=>e.key.isStr name)=fun e:DictEntry=>(strKind prog w).is name e.key:=funext fun e=>(isStr_of name e.key);exact ac e rfl
theorem ls{es:List DictEntry}{kvs:List (Str×Value)}(hp:Pairs (strKind prog w) es kvs):es.any (·.refKey)=false:=by
 induction hp with
 | nil=>rfl
 | @cons e kv es kvs h1 _ _ ih=>
  refine ac (List.any_cons ..) (ac ih (ac (Bool.or_false ..) ?_));refine aj (Value.isStrOf_shape (show Value.isStrOf kv.1 e.key=true from h1)) fun t ht=>?_;simp [DictEntry.refKey,ht]
theorem eG{o:Obj}{kvs:List (Str×Value)}(hd:o.IsDictOf (strKind prog w) kvs)(name:Str):lookIn name o=some (valueAt kvs name):=by
 refine aV hd fun es ep U e U hp U=>?_;clear hd;unfold lookIn;refine ac e ?_;dsimp only;have f:=mA hp name;induction q:es.toList.find? (·.key.isStr name) with
 | some d=>rw [q] at f;refine bo f ?_;rfl
 | none=>rw [q] at f;dsimp only;refine ac (ls hp ..) (ac (if_neg (by decide) ..) (bo f ?_));rfl
abbrev uC(Z:List Addr)(p:Nm×AV)(q:Str×Value):Prop:=q.1=p.1.str/\VR Z p.2 q.2
abbrev so(Z:List Addr)(p:Int×AV)(q:Int×Value):Prop:=q.1=p.1/\VR Z p.2 q.2
theorem fV{α:Type}[DecidableEq α](p:α×Value)(l:List (α×Value))(k:α):valueAt (p::l) k=if p.1=k then some p.2 else valueAt l k:=by
 unfold valueAt;refine ac (List.find?_cons ..) ?_;by_cases h:p.1=k <;> simp [h]
theorem gB{α:Type}[DecidableEq α](p:α×Value)(l:List (α×Value))(k:α)(v:Value)(hn:p.1∉l.map (·.1)):stored (p::l) k v=if p.1=k then (p.1,v)::l else p::stored l k v:=by
 unfold stored;by_cases h:p.1=k
 ·subst h;simp only [List.any_cons,decide_true,Bool.true_or,if_true,List.map_cons]
  congr 1
  conv=>rhs;rw [<- List.map_id l]
  refine List.map_congr_left fun q hq=>?_;rw [if_neg]
  ·rfl
  ·intro e
   exact hn (e▸List.mem_map_of_mem hq)
 ·simp only [List.any_cons,h,decide_false,Bool.false_or,if_false,List.map_cons];split <;> rfl
theorem RLs.lk{l:List (Nm×AV)}{kvs:List (Str×Value)}(h:RL (uC Z) l kvs)(x:Nm):match Mine.Lake.lk l x with | some v=>∃ y,valueAt kvs x.str=some y/\VR Z v y | none=>valueAt kvs x.str=none:=by
 induction l generalizing kvs with
 | nil=>induction kvs <;> first | rfl | exact h.elim
 | cons p l ih=>
  induction kvs using List.casesOn with
  | nil=>exact h.elim
  | cons q kvs=>
   refine aq h fun z0 h3=>?_;clear h;refine aq z0 fun h1 h2=>?_;clear z0;obtain ⟨n,v⟩:=p;refine ac (fV ..) ?_;simp only [br,aP];by_cases e:n=x
   ·subst e;refine ac (if_pos rfl ..) (ac (if_pos h1 ..) ?_);exact(ag _ rfl h2)
   ·refine ac (if_neg e ..) (ac (if_neg (fun q'=>e (eu (h1.symm.trans q'))) ..) ?_);exact ih h3
theorem RLi.lk{l:List (Int×AV)}{kvs:List (Int×Value)}(h:RL (so Z) l kvs)(x:Int):match Mine.Lake.lk l x with | some v=>∃ y,valueAt kvs x=some y/\VR Z v y | none=>valueAt kvs x=none:=by
 induction l generalizing kvs with
 | nil=>induction kvs <;> first | rfl | exact h.elim
 | cons p l ih=>
  induction kvs using List.casesOn with
  | nil=>exact h.elim
  | cons q kvs=>
   refine aq h fun z0 h3=>?_;clear h;refine aq z0 fun h1 h2=>?_;clear z0;obtain ⟨n,v⟩:=p;refine ac (fV ..) ?_;simp only [br,aP];by_cases e:n=x
   ·subst e;refine ac (if_pos rfl ..) (ac (if_pos h1 ..) ?_);exact(ag _ rfl h2)
   ·refine ac (if_neg e ..) (ac (if_neg (fun q'=>e (h1.symm.trans q')) ..) ?_);exact ih h3
theorem RLs.st{l:List (Nm×AV)}{kvs:List (Str×Value)}(h:RL (uC Z) l kvs)(x:Nm){v:AV}{y:Value}(hv:VR Z v y)(hn:(kvs.map (·.1)).Nodup):RL (uC Z) (Mine.Lake.st l x v) (stored kvs x.str y):=by
 induction l generalizing kvs with
 | nil=>induction kvs <;> first | exact⟨⟨rfl,hv⟩,trivial⟩ | exact h.elim
 | cons p l ih=>
  induction kvs using List.casesOn with
  | nil=>exact h.elim
  | cons q kvs=>
   refine aq h fun z0 h3=>?_;clear h;refine aq z0 fun h1 h2=>?_;clear z0;obtain ⟨n,u⟩:=p;rw [List.map_cons,List.nodup_cons] at hn;refine ac (gB _ _ _ _ hn.1 ..) ?_;simp only [b8,bE];by_cases e:n=x
   ·subst e;refine ac (if_pos rfl ..) (ac (if_pos h1 ..) ?_);exact⟨⟨h1,hv⟩,h3⟩
   ·refine ac (if_neg e ..) (ac (if_neg (fun q'=>e (eu (h1.symm.trans q'))) ..) ?_);exact⟨⟨h1,h2⟩,ih h3 hn.2⟩
theorem RLi.st{l:List (Int×AV)}{kvs:List (Int×Value)}(h:RL (so Z) l kvs)(x:Int){v:AV}{y:Value}(hv:VR Z v y)(hn:(kvs.map (·.1)).Nodup):RL (so Z) (Mine.Lake.st l x v) (stored kvs x y):=by
 induction l generalizing kvs with
 | nil=>induction kvs <;> first | exact⟨⟨rfl,hv⟩,trivial⟩ | exact h.elim
 | cons p l ih=>
  induction kvs using List.casesOn with
  | nil=>exact h.elim
  | cons q kvs=>
   refine aq h fun z0 h3=>?_;clear h;refine aq z0 fun h1 h2=>?_;clear z0;obtain ⟨n,u⟩:=p;rw [List.map_cons,List.nodup_cons] at hn;refine ac (gB _ _ _ _ hn.1 ..) ?_;simp only [b8,bE];by_cases e:n=x
   ·subst e;refine ac (if_pos rfl ..) (ac (if_pos h1 ..) ?_);exact⟨⟨h1,hv⟩,h3⟩
   ·refine ac (if_neg e ..) (ac (if_neg (fun q'=>e (h1.symm.trans q')) ..) ?_);exact⟨⟨h1,h2⟩,ih h3 hn.2⟩
section
variable {A:Around}{E:Value->Shared->Prop}{C d:Nat}{i:Nat}{l:List (Nm×AV)}{x:Nm}{v:AV}
theorem Rep.sd(R:Rep c Z O s)(e:O.H i=some (.sd l)):∃ a o kvs,Z[i]?=some a/\s.heap.get? a=some o/\o.IsDictOf (strKind prog w) kvs/\RL (uC Z) l kvs:=by
 obtain ⟨a,ob,h1,h2,kvs,h3,h4⟩:=R.own i _ e
 exact(ck a ob kvs h1 h2 h3 h4)
theorem Rep.instAt(R:Rep c Z O s)(hI:O.H i=some (.inst C d))(hD:O.H d=some (.sd l)) :
  ∃ a ad od kvs,Z[i]?=some a/\Z[d]?=some ad/\InstAt s.heap a (instObj C ad) C (some od)/\s.heap.get? ad=some od/\od.IsDictOf (strKind prog w) kvs/\RL (uC Z) l kvs:=by
 refine aK (R.sd hD) fun ad od kvs h1 h2 h3 h4=>?_;obtain ⟨a,ob,g1,g2,ad',g3,rfl⟩:=R.own i _ hI;rw [h1] at g3;obtain rfl:=Option.some.inj g3;exact(iS a ad od kvs g1 h1 ⟨g2,rfl,rfl,h2⟩ h2 h3 h4)
theorem oX{v:AV}{y:Value}(h:VR Z v y):handedIn y=true:=by
 induction v with
 | bf f=>cases h;induction f <;> rfl
 | none=>cases h;rfl
 | bool b=>cases h;rfl
 | base a=>cases h;rfl
 | int i=>refine aj h fun U z1=>?_;clear h;subst z1;rfl
 | str i=>refine aj h fun U z1=>?_;clear h;subst z1;rfl
 | bytes i=>refine aj h fun U z1=>?_;clear h;subst z1;rfl
 | obj i=>refine af h fun U U z2=>?_;clear h;subst z2;rfl
theorem rg{av:AV}{y:Value}{expr:Bool}(B:Bse w h₀)(R:Rep c Z O s)(hv:VR Z av y):Sd c Z VR (getA av x O) (getAttr y x.str expr) s:=by
 unfold getA;induction av with
 | obj i=>
  refine ac (show O.at (.obj i)=O.H i from rfl ..) ?_;induction hI:O.H i with
  | none=>exact fun hb=>absurd rfl hb
  | some o=>
   induction o with
   | inst C d=>
    dsimp only;induction hD:O.H d with
    | none=>exact fun hb=>absurd rfl hb
    | some o=>
     induction o with
     | sd l=>
      induction hc:okData C x with
      | false=>exact fun hb=>absurd rfl hb
      | true=>
       dsimp only;induction hl:lk l x with
       | none=>exact fun hb=>absurd rfl hb
       | some v=>
        refine Sd.leaf fun U=>?_;refine cN (R.instAt hI hD) fun a ad od kvs e1 e2 I e3 e4 e5=>?_;refine af hv fun a' e1' z2=>?_;clear hv;subst z2;rw [e1] at e1';obtain rfl:=Option.some.inj e1';have hk:=RLs.lk e5 x;rw [hl] at hk;refine af hk fun y hy hvy=>?_;clear hk;have hc:=(ji w hc).1;simp only [jM,Bool.and_eq_true,beq_iff_eq] at hc;refine aq hc fun z0 h3=>?_;clear hc;refine aq z0 fun h1 h2=>?_;clear z0;refine af (any_some h2) fun cd hcd hcd2=>?_;refine get_value (R.K B) I (plainGet_of h1).1 ?_ ?_ (okP.mk (R.toks) hvy)
        ·unfold findObj;refine ac hcd (ac h3 (ac (Option.bind_some ..) (ac (Option.bind_some ..) (ac (Option.bind_some ..) (ac (Option.bind_some ..) ?_)))));dsimp only;unfold W.ownOf;refine ac hcd2 (ac (if_pos rfl ..) ?_);show (lookIn x.str od).bind _=_;refine ac (eG e4 x.str ..) (ac hy ?_);rfl
        ·exact oX hvy
     | _=>exact fun hb=>absurd rfl hb
   | _=>exact fun hb=>absurd rfl hb
 | _=>exact fun hb=>absurd rfl hb
end
end Mine.Lake
end
section
open PySem PySem.W PySem.Calls PyProof.Rows
open PySem.Sem (wp)
namespace Mine.Lake
variable {c:Cx}{Z Z':List Addr}{O O':St}{s s':Shared}{h':Heap}{α β γ δ:Type}
section
variable {A:Around}{E:Value->Shared->Prop}{name:Str}{v:Value}
theorem lv{a:Addr}{kvs:List (Str×Value)}{Q:Unit->Shared->Prop}(hm:s.heap.DictOf (strKind prog w) a kvs)(hz:kvs.length<=1000)
  (k:∀ h',h'.DictOf (strKind prog w) a (stored kvs name v)->Heap.SameBut a s.heap h'->Q () { s with heap:=h',toks:=s.toks+1 }) :
  wpAny (model prog w) A (nsSet a name v) Q E s:=by
 refine b6 hm fun o es ep ho hc hd hk hp hn=>?_;clear hm;have hes:es.size=kvs.length:=by rw [<- hp.length];simp
 refine wpAny_bind (wpAny_bind (wpAny_askSetting (wpAny_pure (wpAny_bind (wpAny_mkText (wpAny_bind (wpAny_loadPart ho ?_)))))));refine ac (hd ..) ?_;dsimp only;have c:(!es.any (·.key.isStr name)&&es.any (·.refKey))=false:=by
  have:=ls hp
  rw [Array.any_toList] at this;exact ac this (ac (Bool.and_false ..) rfl)
 refine ac (aRefKeyMayBeTheName_at ..) (ac (c ..) ?_);have isk:(fun e:DictEntry=>e.key.isStr name)=fun e:DictEntry=>(strKind prog w).is name e.key:=funext fun e=>isStr_of name e.key;have hidx:(es.findIdx? fun e=>e.key.isStr name)=kvs.findIdx? fun kv=>decide (kv.1=name):=by
  refine ac isk (bo (hp.findIdx name) ?_);obtain ⟨l⟩:=es;simp
 obtain ⟨oc,od,odt,osl⟩:=o
 dsimp only at hd hc;subst hd;have hhash:(if name.cps.isEmpty=true then 0 else reduceHash ((model prog w).w.params.strHash name.cps))=(strKind prog w).hash name:=rfl;refine wpAny_updatePart ho ?_;have hfree:∀ hsh key,(Obj.putName name hsh key v ⟨oc,od,.dict es ep,osl⟩).isFreed=false:=by
  intro hsh key
  refine ac (Obj.putName_eq ..) ?_;unfold Obj.putNameByArray;dsimp only;split <;> rfl
 refine k _ ?_ (Heap.SameBut.update ..);refine ac hhash ?_;induction hi:kvs.findIdx? fun kv=>decide (kv.1=name) with
 | some i=>
  rw [hi] at hidx;refine(cZ _ (es.modify i fun e=>{ e with val:=v }) ep (Heap.get?_update_self _ ho (hfree _ _)) ?_ ?_ (hk.modify _ _) ?_ ?_)
  ·refine ac (Obj.putName_eq ..) ?_;unfold Obj.putNameByArray;dsimp only;refine ac hidx ?_;exact hc
  ·refine ac (Obj.putName_eq ..) ?_;unfold Obj.putNameByArray;dsimp only;exact ac hidx rfl
  ·rw [stored,if_pos (any_of_findIdx_some hi)];have hl:(es.toList.findIdx? fun e=>(strKind prog w).is name e.key)=some i:=by rw [isk] at hidx;refine bo hidx ?_;obtain ⟨l⟩:=es;simp
   have:=hp.modify hn hl v
   obtain ⟨l⟩:=es
   simpa using this
  ·rw [stored,if_pos (any_of_findIdx_some hi),keys_map_store];exact hn
 | none=>
  rw [hi] at hidx;have hnot:name∉kvs.map (·.1):=not_mem_of_findIdx_none hi;have hany:¬ (kvs.any fun kv=>decide (kv.1=name))=true:=by
   rw [List.any_eq_true];rintro ⟨kv,hkv,he⟩;exact hnot (List.mem_map.mpr (ag kv hkv (of_decide_eq_true he)))
  refine(cZ _ (es.push ⟨(strKind prog w).hash name,.str name s.toks,v⟩) (ep+1) (Heap.get?_update_self _ ho (hfree _ _)) ?_ ?_ (hk.push (strKind_is prog w name s.toks) v) ?_ ?_)
  ·refine ac (Obj.putName_eq ..) ?_;unfold Obj.putNameByArray;dsimp only;refine ac hidx ?_;exact hc
  ·refine ac (Obj.putName_eq ..) ?_;unfold Obj.putNameByArray;dsimp only;exact ac hidx rfl
  ·rw [stored,if_neg hany,Array.toList_push];exact hp.append (strKind_is prog w name s.toks) _ v
  ·rw [stored,if_neg hany,List.map_append];exact List.nodup_append.mpr (ao hn (by simp) (fun a ha b hb=>by simp at hb;subst hb;exact fun q=>hnot (q▸ha)))
theorem q7{o:Obj}{kvs:List (Str×Value)}(hd:o.IsDictOf (strKind prog w) kvs)(hz:kvs.length<=1000):o.data.pastItsLine=none:=by
 refine aV hd fun es ep U e U hp U=>?_;clear hd;refine ac e ?_;have:es.size=kvs.length:=by refine bo (hp.length ..) ?_;simp
 exact pastItsLine_dict (by refine ac sizeLine_eq ?_;lia)
theorem iP{α:Type}[DecidableEq α](kvs:List (α×Value))(k:α)(v:Value):(stored kvs k v).length<=kvs.length+1:=by
 unfold stored;split <;> simp
end
theorem rz{C d i:Nat}{l:List (Nm×AV)}{x:Nm}{av v:AV}{y z:Value}(B:Bse w h₀)(R:Rep c Z O s)(hv:VR Z av y)(hz:VR Z v z) :
  Sd c Z (fun U U U=>True) (setA av x v O) (setAttr y x.str z) s:=by
 unfold setA;induction av with
 | obj i=>
  refine ac (show O.at (.obj i)=O.H i from rfl ..) ?_;induction hI:O.H i with
  | none=>exact fun hb=>absurd rfl hb
  | some o=>
   induction o with
   | inst C d=>
    dsimp only;induction hD:O.H d with
    | none=>exact fun hb=>absurd rfl hb
    | some o=>
     induction o with
     | sd l=>
      induction hc:okData C x with
      | false=>exact fun hb=>absurd rfl hb
      | true=>
       dsimp only;by_cases hlen:l.length<60
       ·refine ac (if_pos hlen ..) ?_;refine Sd.leaf fun U=>?_;refine cN (R.instAt hI hD) fun a ad od kvs e1 e2 I e3 e4 e5=>?_;refine af hv fun a' e1' z2=>?_;clear hv;subst z2;rw [e1] at e1';obtain rfl:=Option.some.inj e1';have hc:=(ji w hc).2;simp only [gP,Bool.and_eq_true,beq_iff_eq] at hc;refine aq hc fun z0 h4=>?_;clear hc;refine aq z0 fun z0 h3=>?_;obtain ⟨h1,h2⟩:=z0;refine af (any_some h4) fun cd hcd hcd2=>?_;have hz':kvs.length<=900:=by refine bo (e5.length ..) ?_;lia
        have K:=R.K B
        refine set_plain K I h1 (osa_open (s:={ s with toks:=s.toks+1 }) K I h2 h3 fun bb=>?_);obtain ⟨hx,hcl,hn,-⟩:=I;refine wpAny_bind (wpAny_pure (wpAny_bind (wpAny_bind (wpAny_loadPart hx (wpAny_bind (looks_clsIn K hcd _ _ _ _ (fun U U e=>e) ?_))))));refine ac hcd2 ?_;refine wpAny_pure (a:=some ad) (wpAny_bind (wpAny_pure (wpAny_bind ?_)));refine lv (s:={ s with toks:=s.toks+1 }) (Heap.dictOf_iff.mpr (ag od e3 e4)) (by lia) fun h' hm hs=>?_;refine af (Heap.dictOf_iff.mp hm) fun o' ho' hd'=>?_;have hlen:=iP kvs x.str z;have hlen':(stored kvs x.str z).length<=1000:=Nat.le_trans hlen (by lia);have hpl:=q7 hd' hlen';refine aV (id e4) fun U U U U U U hnd=>?_;have hex:Heap.ExtBut ad s.heap h':=hs.extBut;refine wpAny_bind (wpAny_lookBehind ho' hpl ?_);exact wpAny_pure (okP.mk (R.set (cV hD rfl) e2 hex ho' fun U=>(ag _ hd' (RLs.st e5 x hz hnd))) trivial)
       ·refine ac (if_neg hlen ..) ?_;exact fun hb=>absurd rfl hb
     | _=>exact fun hb=>absurd rfl hb
   | _=>exact fun hb=>absurd rfl hb
 | _=>exact fun hb=>absurd rfl hb
inductive CalR(Z:List Addr):Cal->Value×List Value->Prop
 | fn {f:Nat} {self:AV} {y:Value} (h:VR Z self y):CalR Z (.fn f self) (.ref f,[y])
 | li {n:Nm} {i a:Nat} {id:String} (h:Z[i]?=some a) (hid:(n=.append/\id="list.append")∨(n=.remove/\id="list.remove")):CalR Z (.bm n i) (.builtin id,[.ref a])
 | di {n:Nm} {i a:Nat} {id:String} (h:Z[i]?=some a) (hid:(n=.get/\id="dict.get")∨(n=.pop/\id="dict.pop")):CalR Z (.bm n i) (.builtin id,[.ref a])
end Mine.Lake
end
section
open PySem PySem.W PySem.Calls PyProof.Rows PySem.SeqAt
open PySem.Sem (wp)
namespace Mine.Lake
variable {c:Cx}{Z Z':List Addr}{O O':St}{s s':Shared}{h':Heap}{α β γ δ:Type}
theorem nv(B:Bse w h₀)(R:Rep c Z O s){a ad:Addr}(h:s.heap.get? a=some (instObj 189 ad)):s.heap.CmpInst a 189 [.type "object"]:=by
 have K:=R.K B
 have hC:=K 189 _ (gc w (p:=(189,o189)) (.head _))
 have hN:s.heap.Ns 188 (s.heap.nsMap 188):=.of_isNs (isNs_of_in K (dS (jF w)).1)
 exact⟨_,_,_,188,_,_,_,_,_,_,_,_,_,_,_,_,_,_,h,rfl,hC,hN,ns_none_of K hN (beq_iff_eq.mp (dS (jF w)).2.1),ns_none_of K hN (beq_iff_eq.mp (dS (jF w)).2.2)⟩
theorem EqAt.of_rc{A:Around}{s:Shared}{x y:Value}{b:Bool}(h:RcAt A s x y b)(hb:x=y->b=true)(hf:∀ u t,x≠.float u t):EqAt A s x y b:=fun prog w E Q hq=>by
 refine wpAny_holding ?_;refine wpAny_ite_split (fun hab=>?_) (fun U=>?_)
 ·have:=hb (eq_of_beq hab)
  subst this;exact wpAny_bind (wpAny_rule (wpAny_pure hq))
 ·induction x <;> first | exact absurd rfl (hf _ _) | exact wpAny_bind (h prog w E _ (wpAny_truthy_bool hq))
theorem RcAt.bytes{A:Around}{s:Shared}(b d:Array UInt8)(t u:Tok):RcAt A s (.bytes b t) (.bytes d u) (b.toList==d.toList):=fun prog w E Q hq=>PySem.W.eq_bytes hq
theorem RcNeAt.bytes{A:Around}{s:Shared}(b d:Array UInt8)(t u:Tok):RcNeAt A s (.bytes b t) (.bytes d u) (b.toList != d.toList):=fun prog w E Q hq=>PySem.W.ne_bytes hq
theorem md{α:Type}[DecidableEq α](a b:α):(a==b)=decide (a=b):=by
 by_cases h:a=b
 ·subst h;simp
 ·refine ac (decide_eq_false h ..) ?_;exact beq_eq_false_iff_ne.mpr h
theorem qn{i j:Nat}{r:Bool}(e:eqI O i j=some r):∃ d1 d2,O.H i=some (.inst 189 d1)/\O.H j=some (.inst 189 d2)/\decide (i=j)=r:=by
 unfold eqI at e;induction e1:O.H i with
 | none=>rw [e1] at e;exact aA e
 | some o=>
  rw [e1] at e;induction o with
  | inst C d=>
   induction e2:O.H j with
   | none=>rw [e2] at e;exact aA e
   | some o=>
    rw [e2] at e;induction o with
    | inst D d2=>
     have e:(if C=189/\D=189 then some (decide (i=j)) else none)=some r:=e
     by_cases h:C=189/\D=189
     ·rw [if_pos h] at e;refine aq h fun z0 z1=>?_;clear h;subst z0;subst z1;exact(ax d d2 rfl rfl (Option.some.inj e))
     ·rw [if_neg h] at e;exact aA e
    | _=>exact aA e
  | _=>exact aA e
theorem qm{A:Around}{a b:AV}{x y:Value}{r:Bool}(B:Bse w h₀)(R:Rep c Z O s)(hx:VR Z a x)(hy:VR Z b y)(e:eq1 O a b=some r)(hu:A.units+1<cLine) :
  RcAt A s x y r/\RcNeAt A s x y (!r)/\(x=y->r=true)/\∀ u t,x≠.float u t:=by
 induction a with
 | int i=>
  induction b with
  | int j=>
   refine aj hx fun t z1=>?_;clear hx;subst z1;refine aj hy fun u z1=>?_;clear hy;subst z1;obtain rfl:=Option.some.inj e;refine bo (md ..) ?_;exact(bY (RcAt.int_int i t j u) (RcNeAt.int_int i t j u) (fun q=>by injection q with z0_ z1_;subst z0_;subst z1_;simp) (fun U U q=>by injection q))
  | _=>exact aA e
 | str i=>
  induction b with
  | str j=>
   refine aj hx fun t z1=>?_;clear hx;subst z1;refine aj hy fun u z1=>?_;clear hy;subst z1;obtain rfl:=Option.some.inj e;have q:decide (i=j)=(i.str==j.str):=by
    by_cases h:i=j
    ·subst h;simp
    ·refine ac (decide_eq_false h ..) ?_;exact(beq_eq_false_iff_ne.mpr fun z=>h (eu z)).symm
   refine ac q ?_;exact(bY (RcAt.str_str _ t _ u) (RcNeAt.str_str _ t _ u) (fun q=>by injection q with q1 _;exact beq_iff_eq.mpr q1) (fun U U q=>by injection q))
  | _=>exact aA e
 | bytes i=>
  induction b with
  | bytes j=>
   refine aj hx fun t z1=>?_;clear hx;subst z1;refine aj hy fun u z1=>?_;clear hy;subst z1;obtain rfl:=Option.some.inj e;have h1:=RcAt.bytes (A:=A) (s:=s) i.toArray j.toArray t u;have h2:=RcNeAt.bytes (A:=A) (s:=s) i.toArray j.toArray t u;rw [show i.toArray.toList=i from rfl,show j.toArray.toList=j from rfl] at h1 h2;have hb:(i==j)=decide (i=j):=by by_cases h:i=j <;> simp [h]
   rw [hb] at h1;rw [bne,hb] at h2;exact⟨h1,h2,fun q=>by
    injection q with q1
    exact decide_eq_true (congrArg Array.toList q1),fun U U q=>by injection q⟩
  | _=>exact aA e
 | none=>
  induction b with
  | none=>
   cases hx;cases hy;cases e
   exact(bY RcAt.none_none RcNeAt.none_none (fun U=>rfl) (fun U U q=>by injection q))
  | _=>exact aA e
 | obj i=>
  induction b with
  | obj j=>
   refine af hx fun a1 r1 z2=>?_;clear hx;subst z2;refine af hy fun a2 r2 z2=>?_;clear hy;subst z2;refine ai (qn e) fun d1 d2 e1 e2 z4=>?_;subst z4;obtain ⟨b1,o1,q1,p1,ad1,_,rfl⟩:=R.own i _ e1;obtain ⟨b2,o2,q2,p2,ad2,_,rfl⟩:=R.own j _ e2;rw [r1] at q1;obtain rfl:=Option.some.inj q1;rw [r2] at q2;obtain rfl:=Option.some.inj q2;have X:=nv B R p1;have Y:=nv B R p2;obtain ⟨hp,g,dd,t,os⟩:=s;by_cases hij:i=j
   ·subst hij;rw [r1] at r2;obtain rfl:=Option.some.inj r2;refine ac (decide_eq_true rfl ..) ?_;exact(bY (fun prog w E Q h=>richCompare_eq_same F.cmp_object X (Nat.lt_of_succ_lt hu) h) (fun prog w E Q h=>richCompare_ne_same F.cmp_object X hu h) (fun U=>rfl) (fun U U q=>by injection q))
   ·have hne:a1≠a2:=fun q=>hij (R.inj r1 (q▸r2))
    refine ac (decide_eq_false hij ..) ?_;exact(bY (fun prog w E Q h=>richCompare_eq_other F.cmp_object F.cmp_object X Y hne (Nat.lt_of_succ_lt hu) h) (fun prog w E Q h=>richCompare_ne_other F.cmp_object F.cmp_object X Y hne hu h) (fun q=>by injection q with z0_;subst z0_;exact absurd rfl hne) (fun U U q=>by injection q))
  | _=>exact aA e
 | _=>exact aA e
theorem jP{A:Around}{a b:AV}{x y:Value}{r:Bool}(B:Bse w h₀)(R:Rep c Z O s)(hx:VR Z a x)(hy:VR Z b y)(e:eq1 O a b=some r)(hu:A.units+1<cLine):EqAt A s x y r:=
 have ⟨h1,_,h3,h4⟩:=qm B R hx hy e hu
 EqAt.of_rc h1 h3 h4
theorem qp{A:Around}(B:Bse w h₀)(R:Rep c Z O s)(hu:A.units+1<cLine):∀ {l l':List AV} {xs ys:List Value},RL (VR Z) l xs->RL (VR Z) l' ys->∀ {r},eqs O l l'=some r->
  r=true/\l.length=l'.length/\∀ j (h1:j<xs.length) (h2:j<ys.length),EqAt A s xs[j] ys[j] true:=by
 intro l_
 induction l_ with
 | nil=>
  intro c1_ c2_ c3_ h c5_ r e
  induction c1_ using List.casesOn with
  | nil=>
    induction c2_ using List.casesOn with
    | nil=>
      induction c3_ using List.casesOn with
      | nil=>
        obtain rfl:=Option.some.inj e;exact(ao rfl rfl (fun j h1 U=>absurd h1 (Nat.not_lt_zero _)))
      | cons y1_ y2_=>
        exact c5_.elim
    | cons y3_ y4_=>
      exact h.elim
  | cons y5_ y6_=>
    exact aA e
 | cons a l ih_=>
  intro c1_ c2_ c3_ h c5_ r e
  induction c1_ using List.casesOn with
  | nil=>
    exact aA e
  | cons b l'=>
    induction c2_ using List.casesOn with
    | nil=>
      exact h.elim
    | cons x xs=>
      induction c3_ using List.casesOn with
      | nil=>
        exact c5_.elim
      | cons y ys=>
        refine aq (qo e) fun e1 e=>?_
        ·refine aM (ih_ h.2 c5_.2 e) fun z0 hl hr=>?_;subst z0;refine(ao rfl (by simp [hl]) (fun j j1 j2=>?_));induction j using Nat.casesOn with
         | zero=>exact jP B R h.1 c5_.1 e1 hu
         | succ j=>exact hr j (Nat.lt_of_succ_lt_succ j1) (Nat.lt_of_succ_lt_succ j2)
theorem Rep.li(R:Rep c Z O s){i:Nat}{l:List AV}(e:O.H i=some (.li l)):∃ a xs n,Z[i]?=some a/\IsL s.heap a xs.toArray n/\RL (VR Z) l xs:=by
 obtain ⟨a,ob,h1,h2,xs,n,rfl,h3⟩:=R.own i _ e
 exact(aY a xs n h1 h2 h3)
theorem Rep.fl(R:Rep c Z O s){i:Nat}{l:List AV}(e:O.H i=some (.fl l)):∃ a xs,Z[i]?=some a/\s.heap.IsList a xs.toArray/\RL (VR Z) l xs:=by
 obtain ⟨a,ob,h1,h2,xs,n,⟨h4,h5⟩,h3⟩:=R.own i _ e
 exact(ax a xs h1 ⟨ob,h2,h4,n,h5⟩ h3)
theorem Rep.tu(R:Rep c Z O s){i:Nat}{l:List AV}(e:O.H i=some (.tu l)):∃ a xs,Z[i]?=some a/\s.heap.IsTuple a xs.toArray/\RL (VR Z) l xs:=by
 obtain ⟨a,ob,h1,h2,xs,n,rfl,h3⟩:=R.own i _ e
 exact(ax a xs h1 ⟨_,h2,rfl,n,rfl⟩ h3)
theorem Rep.idd(R:Rep c Z O s){i:Nat}{l:List (Int×AV)}(e:O.H i=some (.idd l)):∃ a o kvs,Z[i]?=some a/\s.heap.get? a=some o/\o.IsDictOf (intKind prog w) kvs/\RL (so Z) l kvs:=by
 obtain ⟨a,ob,h1,h2,kvs,h3,h4⟩:=R.own i _ e
 exact(ck a ob kvs h1 h2 h3 h4)
theorem Rep.frz(R:Rep c Z O s){i:Nat}{l:List (Int×AV)}(e:O.H i=some (.frz l)):∃ a o kvs,Z[i]?=some a/\s.heap.get? a=some o/\o.IsDictOf (intKind prog w) kvs/\RL (so Z) l kvs:=by
 obtain ⟨a,ob,h1,h2,kvs,h3,h4⟩:=R.own i _ e
 exact(ck a ob kvs h1 h2 h3 h4)
theorem Rep.ba(R:Rep c Z O s){i:Nat}{l:List UInt8}(e:O.H i=some (.ba l)):∃ a,Z[i]?=some a/\s.heap.get? a=some (bN l):=by
 refine ai (R.own i _ e) fun a ob h1 h2 z4=>?_;subst z4;exact(ag a h1 h2)
theorem VR.obj{Z:List Addr}{i:Nat}{x:Value}(h:VR Z (.obj i) x){a:Addr}(e:Z[i]?=some a):x=.ref a:=by
 refine af h fun b e' z2=>?_;clear h;subst z2;rw [e] at e';obtain rfl:=Option.some.inj e';rfl
theorem f6{v:AV}{o:AO}(e:O.at v=some o):∃ i,v=.obj i/\O.H i=some o:=by
 induction v <;> first | (cases e;done) | exact(ag _ rfl e)
theorem gM{v:AV}{l:List AV}(h:liAt O v=some l):∃ i,v=.obj i/\O.H i=some (.li l):=by
 unfold liAt at h;induction e:O.at v with
 | none=>rw [e] at h;exact aA h
 | some o=>
  refine af (f6 e) fun i q1 q2=>?_;rw [e] at h;induction o with
  | li l'=>exact(ag i q1 (Option.some.inj h▸q2))
  | _=>exact aA h
theorem oh{v:AV}{l:List AV}(h:tuAt O v=some l):∃ i,v=.obj i/\O.H i=some (.tu l):=by
 unfold tuAt at h;induction e:O.at v with
 | none=>rw [e] at h;exact aA h
 | some o=>
  refine af (f6 e) fun i q1 q2=>?_;rw [e] at h;induction o with
  | tu l'=>exact(ag i q1 (Option.some.inj h▸q2))
  | _=>exact aA h
theorem d8(n:Nat):(List.range n).all (fun U=>true)=true:=by simp
theorem qs{A:Around}{a b:AV}{x y:Value}{r:Bool}(B:Bse w h₀)(R:Rep c Z O s)(hx:VR Z a x)(hy:VR Z b y)(e:eqv O a b=some r)(hu:A.units+2<cLine) :
  RcAt A s x y r/\RcNeAt A s x y (!r):=by
 have hu1:A.in1.units+1<cLine:=by show A.units+1+1<cLine;omega
 unfold eqv at e;induction e1:liAt O a with
 | some l1=>
  rw [e1] at e;induction e2:liAt O b with
  | none=>rw [e2] at e;exact aA e
  | some l2=>
  rw [e2] at e;refine af (gM e1) fun i z1 f1=>?_;subst z1;refine af (gM e2) fun j z1 f2=>?_;subst z1;dsimp only at e;refine ar (R.li f1) fun a1 xs n r1 L1 h1=>?_;refine ar (R.li f2) fun a2 ys n2 r2 L2 h2=>?_;obtain rfl:=VR.obj hx r1;obtain rfl:=VR.obj hy r2;have n1:=h1.length;have n2:=h2.length;by_cases hl:l1.length=l2.length
  ·rw [if_pos hl] at e;refine aM (qp B R hu1 h1 h2 e) fun z0 U hq=>?_;subst z0;have k1:=RcAt.lists (A:=A) (e:=fun U=>true) L1.isList L2.isList (by simp;lia) (by lia) (fun j j1 j2=>by exact hq j j1 (by simpa using j2));have k2:=RcNeAt.lists (A:=A) (e:=fun U=>true) L1.isList L2.isList (by simp;lia) (by lia) (fun j j1 j2=>by exact hq j j1 j2);rw [d8] at k1 k2;exact⟨k1,k2⟩
  ·rw [if_neg hl] at e;obtain rfl:=Option.some.inj e;have hne:(xs.toArray.size != ys.toArray.size)=true:=by simp;lia
   exact⟨RcAt.lists_lengths L1.isList L2.isList hne (by lia),RcNeAt.lists_lengths L1.isList L2.isList hne (by lia)⟩
 | none=>
  rw [e1] at e;dsimp only at e;induction e3:tuAt O a with
  | none=>
   rw [e3] at e;refine aM (qm (A:=A) B R hx hy e (by lia)) fun h1 h2 U=>?_;exact⟨h1,h2⟩
  | some l1=>
  rw [e3] at e;induction e4:tuAt O b with
  | none=>rw [e4] at e;exact aA e
  | some l2=>
  rw [e4] at e;refine af (oh e3) fun i z1 f1=>?_;subst z1;refine af (oh e4) fun j z1 f2=>?_;subst z1;dsimp only at e;refine ai (R.tu f1) fun a1 xs r1 L1 h1=>?_;refine ai (R.tu f2) fun a2 ys r2 L2 h2=>?_;obtain rfl:=VR.obj hx r1;obtain rfl:=VR.obj hy r2;have n1:=h1.length;have n2:=h2.length;refine aM (qp B R hu1 h1 h2 e) fun z0 hl hq=>?_;subst z0;have hsz:(xs.toArray.size==ys.toArray.size)=true:=by simp;lia
  have k1:=RcAt.tuples (A:=A) (e:=fun U=>true) L1 L2 (by lia) (fun j j1 j2=>by exact hq j j1 j2)
  have k2:=RcNeAt.tuples (A:=A) (e:=fun U=>true) L1 L2 (by lia) (fun j j1 j2=>by exact hq j j1 (by simpa using j2))
  rw [d8,hsz] at k1 k2;exact⟨k1,k2⟩
noncomputable def AV.pl:AV->Bool
 | .base _ | .bf _=>false
 | _=>true
def decV(Z:List Addr):Value->AV
 | .none=>.none
 | .bool b=>.bool b
 | .int i _=>.int i
 | .str s _=>.str ((nmOf s).getD .self)
 | .bytes b _=>.bytes b.toList
 | .ref a=>.obj (Classical.epsilon fun i=>Z[i]?=some a)
 | _=>.base 0
theorem VR.decV(R:Rep c Z O s){a:AV}{x:Value}(h:VR Z a x)(ha:a.pl=true):Mine.Lake.decV Z x=a:=by
 induction a with
 | none=>rw [show x=.none from h];rfl
 | bool b=>rw [show x=.bool b from h];rfl
 | int i=>refine aj h fun t z1=>?_;clear h;subst z1;rfl
 | str n=>refine aj h fun t z1=>?_;clear h;subst z1;show AV.str ((nmOf n.str).getD .self)=_;rw [j0];rfl
 | bytes b=>refine aj h fun t z1=>?_;clear h;subst z1;rfl
 | obj i=>
  refine af h fun ad e z2=>?_;clear h;subst z2;have:=Classical.epsilon_spec (p:=fun i=>Z[i]?=some ad) ⟨i,e⟩;show AV.obj _=_;exact ac (R.inj this e ..) rfl
 | base a=>exact gw ha
 | bf f=>exact gw ha
theorem VR.inj(R:Rep c Z O s){a b:AV}{x:Value}(h:VR Z a x)(h':VR Z b x)(ha:a.pl=true)(hb:b.pl=true):a=b:=(h.decV R ha).symm.trans (h'.decV R hb)
theorem ql{a b:AV}{r:Bool}(e:eq1 O a b=some r):a.pl=true:=by
 induction a <;> first | rfl | exact aA e
def gu(O:St)(Z:List Addr)(l:List AV)(a:AV)(y:Value):Bool:=@decide (∃ b∈l,VR Z b y/\eq1 O b a=some true) (Classical.propDecidable _)
set_option tactic.hygienic true in
theorem qT{a:AV}:∀ {l:List AV} {r:Bool},memv O a l=some r->∀ b∈l,∃ t,eq1 O b a=some t:=by
 intro l_
 induction l_ with
 | nil=>
  intro c1_ c2_ b h
  exact absurd h List.not_mem_nil
 | cons b l ih_=>
  intro r e d h
  refine ai (fo e) fun r1 t1 e1 e2 U=>?_
  ·rcases List.mem_cons.mp h with rfl | h
   ·exact⟨_,e1⟩
   ·exact ih_ e2 d h
theorem lg(R:Rep c Z O s){l:List AV}{a b:AV}{y:Value}{r:Bool}(hd:∀ b∈l,∃ t,eq1 O b a=some t)(hb:b∈l)(hy:VR Z b y)(e:eq1 O b a=some r):gu O Z l a y=r:=by
 induction r with
 | true=>exact(@decide_eq_true_iff _ (Classical.propDecidable _)).mpr (aH b hb hy e)
 | false=>
  refine(@decide_eq_false_iff_not _ (Classical.propDecidable _)).mpr ?_
  rintro ⟨d,hd',hdy,e'⟩
  obtain rfl:=VR.inj R hy hdy (ql e) (ql e');rw [e] at e';cases e'
theorem nQ{A:Around}{a:AV}{x:Value}(B:Bse w h₀)(R:Rep c Z O s)(hx:VR Z a x)(hu:A.units+1<cLine){l:List AV}{xs:List Value}(hl:RL (VR Z) l xs){r:Bool}(e:memv O a l=some r) :
   (∀ y,y∈xs->EqAt A s y x (gu O Z l a y))/\xs.any (gu O Z l a)=r:=by
 have hd:=qT e
 refine⟨fun y hy=>?_,?_⟩
 ·refine af (hl.mem hy) fun b hb hby=>?_;refine aj (hd b hb) fun t ht=>?_;refine ac (lg R hd hb hby ht ..) ?_;exact jP B R hby hx ht hu
 ·have key:∀ (l':List AV) (xs':List Value),(∀ b∈l',b∈l)->RL (VR Z) l' xs'->∀ r,memv O a l'=some r->xs'.any (gu O Z l a)=r:=by
   intro l'
   induction l' with
   | nil=>intro xs' _ h r e;induction xs' <;> first | (obtain rfl:=Option.some.inj e;rfl) | exact h.elim
   | cons b l' ih=>
    intro xs' hsub h r e
    induction xs' using List.casesOn with
    | nil=>exact h.elim
    | cons y xs'=>
     refine ai (fo e) fun r1 t1 e1 e2 z=>?_
     ·subst z;exact ac (List.any_cons ..) (ac (ih xs' (fun d hd=>hsub d (.tail _ hd)) h.2 _ e2 ..) (ac (lg R hd (hsub b (.head _)) h.1 e1 ..) rfl))
  exact key l xs (fun U h=>h) hl r e
theorem ct(i:Int)(t:Tok):(intKind prog w).is i (.int i t)=true:=intKind_is prog w i t
theorem ii(R:Rep c Z O s){i:Nat}{a:Addr}(e:Z[i]?=some a):(a==sysModules)=false:=beq_eq_false_iff_ne.mpr (R.low a (List.mem_of_getElem? e))
theorem qI{A:Around}{a b:AV}{x y:Value}{r:Bool}(R:Rep c Z O s)(hx:VR Z a x)(hy:VR Z b y)(e:xI O a b=some r) :
   (∀ M (Q:Value->Shared->Prop) E,Q (.bool r) s->wpAny M A (compareOp .Is x y) Q E s)/\(∀ M (Q:Value->Shared->Prop) E,Q (.bool !r) s->wpAny M A (compareOp .IsNot x y) Q E s):=by
 induction a with
 | none=>
  cases hx
  induction b with
  | none=>cases hy;cases e;exact⟨fun U U U h=>is_none_none h,fun U U U h=>isnot_none_none h⟩
  | obj j=>refine af hy fun U U z2=>?_;clear hy;subst z2;obtain rfl:=Option.some.inj e;exact⟨fun U U U h=>wpAny_is_other (by rfl) (by nofun) h,fun U U U h=>wpAny_isNot_other (by rfl) (by nofun) h⟩
  | int j=>refine aj hy fun U z1=>?_;clear hy;subst z1;obtain rfl:=Option.some.inj e;exact⟨fun U U U h=>wpAny_is_other (by rfl) (by nofun) h,fun U U U h=>wpAny_isNot_other (by rfl) (by nofun) h⟩
  | _=>exact aA e
 | int i=>
  refine aj hx fun U z1=>?_;clear hx;subst z1;induction b with
  | none=>cases hy;cases e;exact⟨fun U U U h=>is_int_none h,fun U U U h=>isnot_int_none h⟩
  | _=>exact aA e
 | obj i=>
  induction b with
  | none=>refine af hx fun U U z2=>?_;clear hx;subst z2;cases hy;cases e;exact⟨fun U U U h=>is_ref_none h,fun U U U h=>isnot_ref_none h⟩
  | obj j=>
   refine ai (qn e) fun d1 d2 e1 e2 z4=>?_;subst z4;obtain ⟨b1,o1,q1,p1,ad1,_,rfl⟩:=R.own _ _ e1;obtain ⟨b2,o2,q2,p2,ad2,_,rfl⟩:=R.own _ _ e2;obtain rfl:=VR.obj hx q1;obtain rfl:=VR.obj hy q2;by_cases hij:i=j
   ·subst hij;obtain rfl:b1=b2:=Option.some.inj (q1.symm.trans q2);refine ac (decide_eq_true rfl ..) ?_;exact⟨fun U U U h=>wpAny_is_ref_self h,fun U U U h=>wpAny_isNot_ref_self h⟩
   ·have hne:b1≠b2:=fun q=>hij (R.inj q1 (q▸q2))
    refine ac (decide_eq_false hij ..) ?_;exact⟨fun U U U h=>wpAny_is_ref_other hne p1 p2 (by nofun) h,fun U U U h=>wpAny_isNot_ref_other hne p1 p2 (by nofun) h⟩
  | _=>exact aA e
 | _=>exact aA e
theorem nZ{op:CmpOp}{a b:AV}{x y:Value}(B:Bse w h₀)(R:Rep c Z O s)(hx:VR Z a x)(hy:VR Z b y)(hu:c.A.units+2<cLine) :
  Sd c Z (fun _ (r:Bool) (v:Value)=>v=.bool r) (dc op a b O) (compareOp op x y) s:=by
 unfold dc;induction e:eO op a b O with
 | none=>exact fun hb=>absurd rfl hb
 | some r=>
  refine Sd.leaf fun U=>?_;have fin:okP c Z (fun _ (r:Bool) (v:Value)=>v=.bool r) (lift (some r) O) (.bool r) s:=okP.mk R rfl;have finT:∀ t,okP c Z (fun _ (r:Bool) (v:Value)=>v=.bool r) (lift (some r) O) (.bool r) { s with toks:=t }:=fun t=>okP.mk R.toks rfl;induction op with
  | Eq=>exact(qs B R hx hy e hu).1 _ _ _ _ fin
  | NotEq=>
   refine af (Option.map_eq_some_iff.mp e) fun r' e' z2=>?_;subst z2;exact(qs B R hx hy e' hu).2 _ _ _ _ fin
  | Is=>exact(qI R hx hy e).1 _ _ _ fin
  | IsNot=>
   refine af (Option.map_eq_some_iff.mp e) fun r' e' z2=>?_;subst z2;exact(qI R hx hy e').2 _ _ _ fin
  | In=>
   have hu1:c.A.in1.units+1<cLine:=by show c.A.units+1+1<cLine;omega
   induction b with
   | obj j=>
    have e:inv O a (.obj j)=some r:=e
    have e:wW O a (O.H j)=some r:=e
    induction hj:O.H j with
    | none=>rw [hj] at e;exact aA e
    | some o=>
     rw [hj] at e;induction o with
     | li l=>
      have e:memv O a l=some r:=e
      refine ar (R.li hj) fun a1 xs n r1 L1 h1=>?_;obtain rfl:=VR.obj hy r1;refine aq (nQ B R hx hu1 h1 e) fun k1 k2=>?_;exact in_listAt (gu O Z l a) L1.isList (fun y hy=>k1 y (by simpa using hy)) (by refine ac (show xs.toArray.any (gu O Z l a)=r by simpa using k2) ?_;exact fin)
     | tu l=>
      have e:memv O a l=some r:=e
      refine ai (R.tu hj) fun a1 xs r1 L1 h1=>?_;obtain rfl:=VR.obj hy r1;refine aq (nQ B R hx hu1 h1 e) fun k1 k2=>?_;exact in_tupleAt (gu O Z l a) L1 (fun y hy=>k1 y (by simpa using hy)) (by refine ac (show xs.toArray.any (gu O Z l a)=r by simpa using k2) ?_;exact fin)
     | idd l=>
      induction a with
      | int k=>
       have e:some (lk l k).isSome=some r:=e
       injection e with e
       subst e;refine aK (R.idd hj) fun a1 o kvs r1 ho hd h1=>?_;obtain rfl:=VR.obj hy r1;refine aj hx fun t z1=>?_;clear hx;subst z1;refine wpAny_in_of (ct k t) (ii R r1) (Heap.dictOf_iff.mpr (ag o ho hd)).mapOf ?_;have q:=RLi.lk h1 k;have:(valueAt kvs k).isSome=(lk l k).isSome:=by
        induction z:lk l k with
        | none=>rw [z] at q;refine ac q ?_;rfl
        | some v=>rw [z] at q;refine af q fun y hy U=>?_;clear q;refine ac hy ?_;rfl
       refine ac this ?_;exact finT _
      | _=>exact aA e
     | _=>exact aA e
   | _=>exact aA e
  | NotIn=>exact aA e
  | Lt=>refine ai (fB (f:=fun x y=>decide (x<y)) e) fun i j z2 z3 z4=>?_;subst z2;subst z3;subst z4;refine aj hx fun t z1=>?_;clear hx;subst z1;refine aj hy fun u z1=>?_;clear hy;subst z1;exact PyProof.Rows.lt_int fin
  | LtE=>refine ai (fB (f:=fun x y=>decide (x<=y)) e) fun i j z2 z3 z4=>?_;subst z2;subst z3;subst z4;refine aj hx fun t z1=>?_;clear hx;subst z1;refine aj hy fun u z1=>?_;clear hy;subst z1;exact PyProof.Rows.le_int fin
  | Gt=>refine ai (fB (f:=fun x y=>decide (y<x)) e) fun i j z2 z3 z4=>?_;subst z2;subst z3;subst z4;refine aj hx fun t z1=>?_;clear hx;subst z1;refine aj hy fun u z1=>?_;clear hy;subst z1;exact PyProof.Rows.gt_int fin
  | GtE=>refine ai (fB (f:=fun x y=>decide (y<=x)) e) fun i j z2 z3 z4=>?_;subst z2;subst z3;subst z4;refine aj hx fun t z1=>?_;clear hx;subst z1;refine aj hy fun u z1=>?_;clear hy;subst z1;exact PyProof.Rows.ge_int fin
theorem kl{a:Int}(h:sm a=true):Builtin.Int.intBits a<=64:=by
 have h:=of_decide_eq_true h
 exact intBits_le_64 (by omega) (by omega)
theorem w9{a b:Int}(h:sm b=true):Builtin.divisionGoesByPylong a b=false:=by
 have hb:=kl h
 unfold Builtin.divisionGoesByPylong;unfold Builtin.Int.intBits at hb;rw [Bool.and_eq_false_iff,decide_eq_false_iff_not]
 left
 split at hb <;> simp_all <;> lia
theorem s_intOp{A:Around}{op:Operator}{a b r:Int}{t u:Tok}{Q:Value->Shared->Prop}{E:Value->Shared->Prop}(e:dY op a b=some r)(h:∀ t' u',Q (.int r t') { s with toks:=u' }) :
  wpAny (model prog w) A (binaryOp op (.int a t) (.int b u)) Q E s/\wpAny (model prog w) A (inplaceOp op (.int a t) (.int b u)) Q E s:=by
 induction op with
 | Add=>obtain rfl:=Option.some.inj e;exact⟨PyProof.Rows.add_int (h _ _),PyProof.Rows.iadd_int (h _ _)⟩
 | Sub=>obtain rfl:=Option.some.inj e;exact⟨PyProof.Rows.sub_int (h _ _),PyProof.Rows.isub_int (h _ _)⟩
 | Mult=>
  have e:ite _ _ _=some r:=e
  split at e
  ·rename_i hc
   obtain rfl:=Option.some.inj e;have hm:IntMulOk a b:=by
    rcases Bool.or_eq_true_iff.mp hc with hc | hc
    ·exact .of_left (kl hc)
    ·exact .of_right (kl hc)
   exact⟨PyProof.Rows.mul_int (h _ _) hm,PyProof.Rows.imul_int (h _ _) hm⟩
  ·exact aA e
 | FloorDiv=>
  have e:ite _ _ _=some r:=e
  split at e
  ·exact aA e
  ·rename_i hb
   split at e
   ·rename_i hc
    obtain rfl:=Option.some.inj e;exact⟨PyProof.Rows.floordiv_int hb (h _ _) (.inl (w9 hc)),PyProof.Rows.ifloordiv_int hb (h _ _) (.inl (w9 hc))⟩
   ·exact aA e
 | Mod=>
  have e:ite _ _ _=some r:=e
  split at e
  ·exact aA e
  ·rename_i hb
   obtain rfl:=Option.some.inj e;exact⟨PyProof.Rows.mod_int hb (h _ _),PyProof.Rows.imod_int hb (h _ _)⟩
 | Pow=>
  have e:ite _ _ _=some r:=e
  split at e
  ·rename_i hc
   obtain rfl:=Option.some.inj e;simp only [Bool.and_eq_true,decide_eq_true_eq] at hc;have ha:a.natAbs<2 ^ 64:=by have:=of_decide_eq_true hc.1.1;omega
   exact⟨PyProof.Rows.pow_int_small hc.1.2 (by omega) ha (h _ _),PyProof.Rows.ipow_int_small hc.1.2 (by omega) ha (h _ _)⟩
  ·exact aA e
 | LShift=>
  have e:ite _ _ _=some r:=e
  split at e
  ·rename_i hc
   obtain rfl:=Option.some.inj e;simp only [Bool.and_eq_true,decide_eq_true_eq] at hc;have ha:a.natAbs<2 ^ 64:=by have:=of_decide_eq_true hc.1.1;omega
   exact⟨PyProof.Rows.lshift_int_small hc.1.2 (by omega) ha (h _ _),PyProof.Rows.ilshift_int_small hc.1.2 (by omega) ha (h _ _)⟩
  ·exact aA e
 | RShift=>
  have e:ite _ _ _=some r:=e
  split at e
  ·rename_i hc
   obtain rfl:=Option.some.inj e;exact⟨PyProof.Rows.rshift_int hc (h _ _),PyProof.Rows.irshift_int hc (h _ _)⟩
  ·exact aA e
 | BitAnd=>obtain rfl:=Option.some.inj e;exact⟨PyProof.Rows.and_int (h _ _),PyProof.Rows.iand_int (h _ _)⟩
 | BitOr=>obtain rfl:=Option.some.inj e;exact⟨PyProof.Rows.or_int (h _ _),PyProof.Rows.ior_int (h _ _)⟩
 | _=>exact aA e
theorem yt{α:Type}{r:Res α}{P:Prop}(h:r=.bad):r≠.bad->P:=fun hb=>absurd h hb
theorem cY{l:List AV}{xs:List Value}(h:RL (VR Z) l xs)(hk:bg l=true):xs.toArray.size<=sizeLine:=by
 have:=of_decide_eq_true hk
 have:=h.length
 refine ac sizeLine_eq ?_;simp;lia
theorem jn{l:List AV}{xs:List Value}(R:Rep c Z O s)(h:RL (VR Z) l xs)(hk:bg l=true):Sd c Z VR (O.new (.li l)) (newList xs) s:=by
 refine Sd.leaf fun U=>?_;refine wpAny_newObj_type ?_ (cY h hk);refine okP.mk' (List.prefix_append _ [s.heap.objs.size]) (R.push rfl (aw xs 0 rfl (h.mono fun U U z=>z.mono (List.prefix_append ..)))) (ag _ ?_ rfl);rw [List.getElem?_append_right (by refine ac (R.len ..) ?_;exact Nat.le_refl _),R.len,Nat.sub_self];rfl
theorem mX{l:List AV}{xs:List Value}(R:Rep c Z O s)(h:RL (VR Z) l xs)(hk:bg l=true):Sd c Z VR (O.new (.tu l)) (newTuple xs) s:=by
 refine Sd.leaf fun U=>?_;refine wpAny_newObj_type ?_ (cY h hk);refine okP.mk' (List.prefix_append _ [s.heap.objs.size]) (R.push rfl (aw xs 0 rfl (h.mono fun U U z=>z.mono (List.prefix_append ..)))) (ag _ ?_ rfl);rw [List.getElem?_append_right (by refine ac (R.len ..) ?_;exact Nat.le_refl _),R.len,Nat.sub_self];rfl
theorem Sd.ite{rel:List Addr->α->β->Prop}{r r':Res α}{t:Sem β}{P:Prop}[Decidable P](h:P->Sd c Z rel r t s)(h':¬ P->Sd c Z rel r' t s):Sd c Z rel (if P then r else r') t s:=by
 by_cases q:P
 ·refine ac (if_pos q ..) ?_;exact h q
 ·refine ac (if_neg q ..) ?_;exact h' q
theorem rk{op:Operator}{a b:AV}{x y:Value}(R:Rep c Z O s)(hx:VR Z a x)(hy:VR Z b y):Sd c Z VR (iop op a b O) (inplaceOp op x y) s/\Sd c Z VR (iop op a b O) (binaryOp op x y) s:=by
 unfold iop;induction e0:qG a b with
 | none=>exact⟨Sd.bad,Sd.bad⟩
 | some p=>
 dsimp only;refine aq (jS e0) fun z0 z1=>?_;subst z0;subst z1;refine aj hx fun t z1=>?_;clear hx;subst z1;refine aj hy fun u z1=>?_;clear hy;subst z1;induction e:dY op p.1 p.2 with
 | none=>exact⟨Sd.bad,Sd.bad⟩
 | some r=>exact⟨Sd.leaf fun U=>(s_intOp e fun t' u'=>okP.mk R.toks ⟨t',rfl⟩).2,Sd.leaf fun U=>(s_intOp e fun t' u'=>okP.mk R.toks ⟨t',rfl⟩).1⟩
theorem tL{op:Operator}{a b:AV}{x y:Value}(R:Rep c Z O s)(hx:VR Z a x)(hy:VR Z b y):Sd c Z VR (binop op a b O) (binaryOp op x y) s:=by
 unfold binop;induction f1:liAt O a with
 | none=>exact(rk R hx hy).2
 | some l1=>
 induction op with
 | Add=>
  induction f2:liAt O b with
  | none=>exact Sd.bad
  | some l2=>
  refine af (gM f1) fun i z1 e1=>?_;subst z1;refine af (gM f2) fun j z1 e2=>?_;subst z1;refine Sd.ite (fun hk=>?_) fun U=>Sd.bad;refine Sd.leaf fun U=>?_;refine ar (R.li e1) fun a1 xs n r1 L1 h1=>?_;refine ar (R.li e2) fun a2 ys n2 r2 L2 h2=>?_;obtain rfl:=VR.obj hx r1;obtain rfl:=VR.obj hy r2;have hsz:=cY (h1.append h2) hk;have hR:=R.push (d:=.li (l1++l2)) (o:=jV (xs++ys) 0) (t':=s.toks) rfl (aw (xs++ys) 0 rfl ((h1.append h2).mono fun U U z=>z.mono (List.prefix_append ..)));refine P.add_list L1 L2 ?_ (by simpa using hsz);refine okP.mk' (List.prefix_append _ [s.heap.objs.size]) (by simpa using hR) (ag _ ?_ rfl);rw [List.getElem?_append_right (by refine ac (R.len ..) ?_;exact Nat.le_refl _),R.len,Nat.sub_self];rfl
 | _=>exact Sd.bad
theorem vO{op:UnaryOp}{a:AV}{x:Value}(R:Rep c Z O s)(hx:VR Z a x):Sd c Z VR (rS op a O) (unaryOp op x) s:=by
 induction op with
 | USub=>
  induction a with
  | int i=>
   refine aj hx fun t z1=>?_;clear hx;subst z1;exact Sd.leaf fun U=>PyProof.Rows.neg_int (okP.mk R.toks ⟨_,rfl⟩)
  | _=>exact Sd.bad
 | Invert=>
  induction a with
  | int i=>
   refine aj hx fun t z1=>?_;clear hx;subst z1;exact Sd.leaf fun U=>PyProof.Rows.invert_int (okP.mk R.toks ⟨_,rfl⟩)
  | _=>exact Sd.bad
 | _=>induction a with
  | _=>exact Sd.bad
theorem kh{a:AV}{x:Value}(R:Rep c Z O s)(hx:VR Z a x):Sd c Z (fun _ (r:Bool) (v:Bool)=>v=r) (fT a O) (truthy x) s:=by
 induction a with
 | bool b=>cases hx;exact Sd.leaf fun U=>wpAny_truthy_bool (okP.mk R rfl)
 | _=>exact Sd.bad
end Mine.Lake
end
section
open PySem PySem.W PySem.Calls PyProof.Rows PySem.SeqAt
open PySem.Sem (wp)
namespace Mine.Lake
theorem cO:Slot "bytearray" "__getitem__" "bytearray.__getitem__":=
 .of (owner:="bytearray") (n:="__getitem__") (by kernel_rfl) (by decide +kernel) (by decide +kernel) (by decide +kernel)
  (by first | exact .inl (by decide +kernel) | exact .inr (by decide +kernel)) (by kernel_rfl)
theorem cm:Slot "bytearray" "__setitem__" "bytearray.__setitem__":=
 .of (owner:="bytearray") (n:="__setitem__") (by kernel_rfl) (by decide +kernel) (by decide +kernel) (by decide +kernel)
  (by first | exact .inl (by decide +kernel) | exact .inr (by decide +kernel)) (by kernel_rfl)
theorem gt:Slot "bytearray" "__len__" "bytearray.__len__":=
 .of (owner:="bytearray") (n:="__len__") (by kernel_rfl) (by decide +kernel) (by decide +kernel) (by decide +kernel)
  (by first | exact .inl (by decide +kernel) | exact .inr (by decide +kernel)) (by kernel_rfl)
theorem fc:entryFor table "bytearray.__getitem__"=some Builtin.«bytearray.__getitem__»:=by first | exact entryFor_of_fast (by kernel_rfl) | exact entryFor_of_tree (by kernel_rfl)
theorem fe:entryFor table "bytearray.__setitem__"=some Builtin.«bytearray.__setitem__»:=by first | exact entryFor_of_fast (by kernel_rfl) | exact entryFor_of_tree (by kernel_rfl)
theorem jw:entryFor table "bytearray.__len__"=some Builtin.«bytearray.__len__»:=by first | exact entryFor_of_fast (by kernel_rfl) | exact entryFor_of_tree (by kernel_rfl)
theorem gl(a b:Value):argsOk "bytearray.__getitem__" ⟨[a,b],[]⟩:=by unfold argsOk;kernel_rfl
theorem gp(a b c:Value):argsOk "bytearray.__setitem__" ⟨[a,b,c],[]⟩:=by unfold argsOk;kernel_rfl
theorem kK(a:Value):argsOk "bytearray.__len__" ⟨[a],[]⟩:=by unfold argsOk;kernel_rfl
theorem cL:typeLookup (.type "int") "__index__"=pure (some (.builtin "int.__index__")):=by rw [typeLookup_type,builtinLookup_eq_fast];kernel_rfl
section
variable {A:Around}{E:Value->Shared->Prop}{s:Shared}{a:Addr}{l:List UInt8}{i:Int}{t u:Tok}{k:Nat}
theorem cx(ho:s.heap.get? a=some (bN l)):s.TypeIs (.ref a) "bytearray":=(ag _ ho rfl)
theorem cg{Q:Array UInt8->Shared->Prop}{M:Model}(ho:s.heap.get? a=some (bN l))(h:Q l.toArray s):wpAny M A (Builtin.Bytes.payload (.ref a)) Q E s:=by
 refine wpAny_bind (wpAny_bind (wpAny_load ho ?_));exact wpAny_pure (wpAny_pure h)
theorem gK{n:Nat}(hi:dR i n=some k):seqIndex? i n=some k/\k<n:=by
 unfold dR at hi;unfold seqIndex?;split at hi
 ·split at hi
  ·obtain rfl:=Option.some.inj hi;have h1:¬ i<0:=by omega
   simp [h1]
   omega
  ·exact aA hi
 ·split at hi
  ·obtain rfl:=Option.some.inj hi;rename_i h0 h2;have h1:i<0:=by omega
   simp [h1,h2]
   omega
  ·exact aA hi
theorem dt{n:Nat}(hi:dR i n=some k)(hn:n<=1000):-2 ^ 63<=i/\i<2 ^ 63:=by
 unfold dR at hi;split at hi
 ·split at hi
  ·lia
  ·exact aA hi
 ·split at hi
  ·lia
  ·exact aA hi
theorem fj{M:Model}{Q:Option Int->Shared->Prop}(h1:-2 ^ 63<=i)(h2:i<2 ^ 63)(h:Q (some i) s):wpAny M A (Builtin.Bytes.subscript? (.int i t)) Q E s:=by
 have f1:=cL
 have f2:Builtin.Bytes.fitsIndex i=true:=by simp only [Builtin.Bytes.fitsIndex,Bool.and_eq_true,decide_eq_true_eq];lia
 refine wpAny_bind (wpAny_specialOf_val rfl f1 ?_);refine wpAny_ite_false rfl ?_;refine wpAny_bind (wpAny_of_eq (rfl:asIndex (.int i t)=pure i) ?_);refine wpAny_ite_false (by simp [f2]) ?_;exact wpAny_pure h
theorem l6{b:UInt8}{Q:Value->Shared->Prop}(ho:s.heap.get? a=some (bN l))(hi:dR i l.length=some k)(hb:l[k]?=some b)(hl:l.length<=1000)(h:Q (.int b.toNat s.toks) { s with toks:=s.toks+1 }) :
  wpAny (model prog w) A (getItem (.ref a) (.int i t)) Q E s:=by
 have hT:=cx ho
 have hf:=dt hi hl
 refine wpAny_holding ?_;refine wpAny_bind (wpAny_sequenceKey hT rfl ?_);refine wpAny_bind (wpAny_callSpecial?_slot (name:=Str.ofString "__getitem__") hT cO (wpAny_call_entry cO hT fc ?_ (gl _ _)));show wpAny _ _ (Builtin.Bytes.subscript? (.int i t)>>=_) _ _ s;refine wpAny_bind (fj hf.1 hf.2 ?_);refine wpAny_bind (cg ho ?_);have e:(seqIndex? i l.toArray.size).bind (l.toArray[·]?)=some b:=by
  have:=(gK hi).1
  simp only [List.size_toArray,this,Option.bind_some,List.getElem?_toArray,hb]
 refine ac e ?_;refine wpAny_ret_mkInt ?_;exact wpAny_pure h
theorem uL{Q:Value->Shared->Prop}(ho:s.heap.get? a=some (bN l))(h:Q (.int l.length s.toks) { s with toks:=s.toks+1 }):wpAny (model prog w) A (call (.builtin "bytearray.__len__") [.ref a]) Q E s:=by
 refine wpAny_call_entry gt (cx ho) jw ?_ (kK _);show wpAny _ _ (Builtin.Bytes.payload (.ref a)>>=_) _ _ s;refine wpAny_bind (cg ho ?_);refine wpAny_ret_mkInt ?_;exact h
theorem fm{M:Model}{f:Array UInt8->Array UInt8}{l':List UInt8}{Q:Unit->Shared->Prop}(ho:s.heap.get? a=some (bN l))(hf:f l.toArray=l'.toArray)(hz:l'.length<=1000)
  (h:∀ h',h'.get? a=some (bN l')->Heap.SameBut a s.heap h'->Q () { s with heap:=h' }):wpAny M A (Builtin.Bytes.write (.ref a) f) Q E s:=by
 refine wpAny_bind (wpAny_load ho ?_);have e2:(s.heap.update a (Obj.mapBytearray f)).get? a=some (bN l'):=by
  refine ac (Heap.get?_update_self (Obj.mapBytearray f) ho rfl ..) ?_;show some ({ cls:=.type "bytearray",dict:=none,data:=.bytearray (f l.toArray) 0,slots:=#[] }:Obj)=_;exact ac hf rfl
 refine wpAny_bind (wpAny_update ho (wpAny_lookBehind e2 ?_ (h _ e2 (Heap.SameBut.update ..))));show (if l'.toArray.size > sizeLine then some "bytearray:memory" else none)=none;rw [if_neg];refine ac (sizeLine_eq ..) ?_;simp;lia
theorem jv{M:Model}{b:UInt8}{x:Int}{Q:UInt8->Shared->Prop}(hb:cz (.int x)=some b)(h:Q b s):wpAny M A (Builtin.Bytes.byteValue (.int x u)) Q E s:=by
 have f1:=cL
 replace hb:(if 0<=x/\x<256 then some x.toNat.toUInt8 else none)=some b:=hb
 by_cases hx:0<=x/\x<256
 ·rw [if_pos hx] at hb;obtain rfl:=Option.some.inj hb;refine wpAny_bind (wpAny_of_eq (rfl:asIndex (.int x u)=pure x) ?_);refine wpAny_ite_false (by simp;omega) ?_;exact wpAny_pure h
 ·rw [if_neg hx] at hb;exact aA hb
theorem ma{b:UInt8}{x:Int}{Q:Unit->Shared->Prop}(ho:s.heap.get? a=some (bN l))(hi:dR i l.length=some k)(hb:cz (.int x)=some b)(hl:l.length<=1000)
  (h:∀ h',h'.get? a=some (bN (l.set k b))->Heap.SameBut a s.heap h'->Q () { s with heap:=h' }) :
  wpAny (model prog w) A (setItem (.ref a) (.int i t) (.int x u)) Q E s:=by
 have hT:=cx ho
 have hf:=dt hi hl
 have hk:=gK hi
 refine wpAny_holding ?_;refine wpAny_bind (wpAny_sequenceKey hT rfl ?_);refine wpAny_bind (wpAny_callSpecial?_slot (name:=Str.ofString "__setitem__") hT cm (wpAny_call_entry cm hT fe ?_ (gp _ _ _)));refine wpAny_bind (fj hf.1 hf.2 ?_);refine wpAny_bind (jv hb ?_);refine wpAny_bind (cg ho ?_);have e:seqIndex? i l.toArray.size=some k:=by exact hk.1
 refine ac e ?_;refine wpAny_bind (fm (l':=l.set k b) ho (by simp) (by simpa using hl) fun h' h1 h2=>?_);exact wpAny_pure (ag _ rfl (wpAny_pure (h h' h1 h2)))
theorem jy{v:Value}{k:Option Int}{M:Model}{Q:Value->Shared->Prop}(hv:IsPart v k)(h:Q (rawPart k) s):wpAny M A (do
  if v==.none then return .none
  if (<- specialOf v "__index__").isNone then
   rule "bytes.slice.part-no-index";raiseError "TypeError" "slice indices must be integers or None or have an __index__ method"
  return rawInt (<- asIndex v)) Q E s:=by
 induction hv with
 | none=>exact wpAny_pure h
 | int i t=>
  refine ac (if_neg (show ¬ ((Value.int i t==Value.none)=true) from Bool.false_ne_true)) ?_;refine wpAny_bind (wpAny_specialOf (T:="int") (typeIs_int s i t) cL ?_);exact wpAny_bind (wpAny_of_eq (a:=i) rfl (wpAny_pure h))
theorem gZ{sl:Addr}{vl vu:Value}{lo hi:Option Int}{M:Model}{Q:Value×Value×Value->Shared->Prop}(hs:s.heap.IsSliceOf sl vl vu .none)(pl:IsPart vl lo)(pu:IsPart vu hi)
  (h:Q (rawPart lo,rawPart hi,.none) s):wpAny M A (Builtin.Bytes.sliceParts (.ref sl)) Q E s:=by
 refine az (id hs) fun os hos hcs hds=>?_;refine wpAny_bind (wpAny_field hos hds (x:=.none) rfl (wpAny_bind (jy .none ?_)));refine ac (if_neg (show ¬ ((rawPart none==rawInt 0)=true) from Bool.false_ne_true)) ?_;refine wpAny_bind (wpAny_field hos hds (x:=vl) rfl (wpAny_bind (jy pl ?_)));exact wpAny_bind (wpAny_field hos hds (x:=vu) rfl (wpAny_bind (jy pu (wpAny_pure h))))
theorem gr{sl:Addr}{vl vu:Value}{M:Model}{Q:Option Int->Shared->Prop}(hs:s.heap.IsSliceOf sl vl vu .none)(h:Q none s):wpAny M A (Builtin.Bytes.subscript? (.ref sl)) Q E s:=by
 refine az (id hs) fun os hos hcs hds=>?_;exact wpAny_bind (wpAny_specialOf (ag os hos hcs) slice_no_index (wpAny_pure h))
theorem oH(b:Array UInt8){x y:Nat}(hxy:x<=y):Builtin.Bytes.sliced b (x:Int) (y:Int) 1=((b.toList.take y).drop x).toArray:=by
 unfold Builtin.Bytes.sliced;exact ac (sliceRange_one ..) (ac (pick_run ..) (ac (List.drop_take ..) rfl))
theorem kN{sl:Addr}{vl vu:Value}{lo hi:Option Int}{x y:Nat}{Q:Value->Shared->Prop}(ho:s.heap.get? a=some (bN l))(hs:s.heap.IsSliceOf sl vl vu .none)(pl:IsPart vl lo)(pu:IsPart vu hi)
  (hb:sliceBounds lo hi none l.length=((x:Int),(y:Int),1))(hxy:x<=y)(hl:l.length<=1000)(h:Q (.ref s.heap.objs.size) { s with heap:=s.heap.push (bN ((l.take y).drop x)) }) :
  wpAny (model prog w) A (getItem (.ref a) (.ref sl)) Q E s:=by
 have hT:=cx ho
 refine az (id hs) fun os hos hcs hds=>?_;refine wpAny_holding ?_;refine wpAny_bind (wpAny_sequenceKey hT rfl ?_);refine wpAny_bind (wpAny_callSpecial?_slot (name:=Str.ofString "__getitem__") hT cO (wpAny_call_entry cO hT fc ?_ (gl _ _)));show wpAny _ _ (Builtin.Bytes.subscript? (.ref sl)>>=_) _ _ s;refine wpAny_bind (gr hs ?_);refine wpAny_bind (wpAny_typeOf (ag os hos hcs) ?_);refine ac (if_neg (by decide) ..) ?_;refine wpAny_bind (gZ hs pl pu ?_);refine wpAny_bind (cg ho ?_);refine wpAny_bind (wpAny_of_eq (sliceIndices_raw lo hi none _ (by nofun)) ?_);refine ac (show l.toArray.size=l.length by simp) (ac hb ?_);refine wpAny_bind ?_;dsimp only;refine ac (oH _ hxy ..) ?_;refine wpAny_newObj_type (wpAny_pure (ag _ rfl (wpAny_pure h))) ?_;show ((l.take y).drop x).toArray.size<=sizeLine;refine ac sizeLine_eq ?_;simp;lia
end
theorem pM:mroOf (.type "bytearray")=pure [.type "bytearray",.type "object"]:=by rw [mroOf_type];kernel_rfl
theorem iG:typeLookup (.type "bytearray") "__new__"=pure (some (.builtin "bytearray.__new__")):=by rw [typeLookup_type,builtinLookup_eq_fast];kernel_rfl
theorem jz:Slot "bytearray" "__init__" "bytearray.__init__":=
 .of (owner:="bytearray") (n:="__init__") (by kernel_rfl) (by decide +kernel) (by decide +kernel) (by decide +kernel)
  (by first | exact .inl (by decide +kernel) | exact .inr (by decide +kernel)) (by kernel_rfl)
theorem oG:TypeCalled "bytearray" "bytearray.__new__" "bytearray.__init__":=
 ⟨by decide +kernel,by decide +kernel,eY _ _ pM,madeBy_type pM iG (by decide +kernel),by decide +kernel,by rw [isSubtype_type];kernel_rfl,jz⟩
theorem kP(a:Value):checkTypeCall "bytearray" ⟨[a],[]⟩=pure ():=by kernel_rfl
theorem l7(a:Value):checkBuiltinCall "bytearray.__new__" ⟨[.type "bytearray",a],[]⟩=pure ():=by kernel_rfl
theorem jx:entryFor table "bytearray.__new__"=some Builtin.«list.__new__»:=entryFor_alias (id':="list.__new__") (by kernel_rfl) (by kernel_rfl) (by kernel_rfl) (by kernel_rfl)
theorem fh:plainId "bytearray.__new__"=true:=by decide +kernel
theorem iF:entryFor table "bytearray.__init__"=some Builtin.«bytearray.__init__»:=by first | exact entryFor_of_fast (by kernel_rfl) | exact entryFor_of_tree (by kernel_rfl)
theorem ju(a b:Value):argsOk "bytearray.__init__" ⟨[a,b],[]⟩:=by unfold argsOk;kernel_rfl
theorem jA:isSubtype (.type "bytearray") (.type "bytearray")=pure true:=by rw [isSubtype_type];kernel_rfl
theorem pN:("bytearray.__new__".splitOn ".__new__").headD ""="bytearray":=by refine ac split_bytearray ?_;rfl
theorem uM:typeLookup (.type "bytearray") "__release_buffer__"=pure (some (.builtin "bytearray.__release_buffer__")):=by rw [typeLookup_type,builtinLookup_eq_fast];kernel_rfl
theorem l5:typeLookup (.type "bytearray") "__buffer__"=pure (some (.builtin "bytearray.__buffer__")):=by rw [typeLookup_type,builtinLookup_eq_fast];kernel_rfl
theorem sA(v:Value):Builtin.Bytes.bindOptional "bytearray.__init__" "bytearray" ["source","encoding","errors"] [v] []=pure [some v,none,none]:=by kernel_rfl
theorem g9:typeLookup (.type "bytes") "__index__"=pure none:=by rw [typeLookup_type,builtinLookup_eq_fast];kernel_rfl
section
variable {A:Around}{E:Value->Shared->Prop}{s:Shared}{a:Addr}{l:List UInt8}{R:Result->Shared->Prop}
theorem kL(v:Value){Q₁:Value->Shared->Prop}(h:Q₁ (.ref s.heap.objs.size) { s with heap:=s.heap.push (bN []) }) :
  codeAny (model prog w) A (.call (.builtin "bytearray.__new__") ⟨[.type "bytearray",v],[]⟩) (wants Q₁ E) s:=by
 refine codeAny_of_tree ?_;refine wpAny_bind (wpAny_of_eq (l7 v) (wpAny_pure ⟨plainId_quiet fh _,codeAny_builtin_stack jx rfl fun p st=>?_⟩));refine ac (Around.under_plainId fh _ ..) ?_;have hsub:=jA;have hown:=pN;obtain ⟨hp,g,d,tk,os⟩:=s;dsimp only;refine ac (hown ..) ?_
 wp_walk
 exact h
theorem codeD_builtin{id:String}{args:Args}{b:Builtin}(hb:entryFor table id=some b)
   (h:wpD (model prog w) (A.under (.builtin id args)) (b args)
    (fun fin s'=>match fin with | .done f=>R (.ok f) s' | .again c'=>c'.quiet=true/\dec c'=false/\bk (model prog w) A c' R s') (fun e s'=>R (.error e) s') s) :
  bk (model prog w) A (.builtin id args) R s:=by
 refine aT ?_;show wpD _ _ (match entryFor table id with | some b=>b args | none=>unsupported ((withoutEnding? id "#data").getD id)) _ _ s;refine ac hb ?_;exact h
theorem c9{id:String}{args:Args}{b:Builtin}(hq:plainId id=true)(hd:dec (.builtin id args)=false)(hb:entryFor table id=some b)
   (h:wpD (model prog w) A.in1 (checkBuiltinCall id args) (fun U s₁=>wpD (model prog w) A.in1 (b args)
    (fun fin s'=>match fin with | .done f=>R (.ok f) s' | .again c'=>c'.quiet=true/\dec c'=false/\bk (model prog w) A c' R s') (fun e s'=>R (.error e) s') s₁)
    (fun e s'=>R (.error e) s') s):bk (model prog w) A (.call (.builtin id) args) R s:=by
 refine aT ?_;refine ae (am h (fun U s₁ h₁=>ah (And.intro (plainId_quiet hq args) ⟨hd,codeD_builtin hb ?_⟩)) fun U U h'=>h');refine ac (Around.under_plainId hq args ..) ?_;exact h₁
theorem eC{M:Model}{Q:Bool->Shared->Prop}(hT:s.TypeIs (.ref a) "bytearray")(h:Q false s):wpAny M A (Builtin.Bytes.ownRelease (.ref a)) Q E s:=by
 refine wpAny_bind (wpAny_bind (wpAny_specialOf hT uM ?_));dsimp only;refine ac (if_neg (by decide +kernel) ..) ?_;have e:∀ x:String,x="bytearray"->isSubtype (.type "bytearray") (.type x)=pure true:=fun x hx=>by refine ac hx ?_;exact jA
 refine wpAny_bind ?_;refine wpAny_typeOf hT (wpAny_of_eq (e _ (by decide +kernel)) ?_);exact wpAny_pure h
theorem em{M:Model}{x y:Sem Bool}{Q:Bool->Shared->Prop}(h:wpD M A x (fun b s'=>b=false/\wpD M A y Q E s') E s):wpD M A (x <||> y) Q E s:=by
 refine ae (am h (fun b s' hb=>?_) fun U U x=>x);refine aq hb fun z0 h=>?_;clear hb;subst z0;exact h
theorem sB{M:Model}{b:Array UInt8}{t:Tok}{Q:Fin->Shared->Prop}(ho:s.heap.get? a=some (bN []))(hz:b.size<=1000)
  (h:∀ h',h'.get? a=some (bN b.toList)->Heap.SameBut a s.heap h'->Q (.done (.ret .none)) { s with heap:=h' }):wpD M A (Builtin.«bytearray.__init__» ⟨[.ref a,.bytes b t],[]⟩) Q E s:=by
 have hT:s.TypeIs (.ref a) "bytearray":=cx ho
 refine ae (al (eC hT ?_));refine ac (if_neg (by decide) ..) ?_;refine ae (al (wpAny_of_eq (sA _) ?_));refine ae (al (wpAny_pure ?_));refine ae (al (wpAny_pure ?_));refine ae (em (fW ⟨rfl,?_⟩));refine ae ?_;refine ae (al (wpAny_load ho ?_));refine ah (ah ?_);refine ac (if_neg (by decide) ..) ?_;refine ae (al (fm (l':=[]) ho rfl (by decide) fun h1 e1 s1=>?_));refine ae (al (wpAny_bind (wpAny_pure (wpAny_pure ?_))));refine ac (if_neg (by decide) ..) ?_;refine ae (al (wpAny_pure ?_));have hI:({ s with heap:=h1 }:Shared).TypeIs (.bytes b t) "bytes":=PySem.W.typeIs_bytes _ _ _;refine ae (al (wpAny_specialOf hI g9 ?_));refine ac (if_neg (by decide) ..) ?_;refine ae (al (wpAny_of_eq KBy.buffer_eq ?_));refine ae (dy ?_);refine ae (al (fm (l':=b.toList) e1 rfl (by exact hz) fun h2 e2 s2=>?_));exact ah (h h2 e2 (s1.trans s2))
theorem kM(x y:Value):dec (.builtin "bytearray.__init__" ⟨[x,y],[]⟩)=false:=by show decIds.contains "bytearray.__init__"=false;decide +kernel
theorem gq(x:List Value):dec (.builtin "type.__call__" ⟨x,[]⟩)=false:=by show decIds.contains "type.__call__"=false;decide +kernel
theorem nq{b:Array UInt8}{t:Tok}{Q:Value->Shared->Prop}(hz:b.size<=1000)
  (h:∀ h',h'.get? s.heap.objs.size=some (bN b.toList)->(∀ c o,s.heap.get? c=some o->h'.get? c=some o)->Q (.ref s.heap.objs.size) { s with heap:=h' }) :
  wpD (model prog w) A (call (.type "bytearray") [.bytes b t]) Q E s:=by
 have ft:=oG
 refine gk ft.mro fun c tl hmro=>?_;have hmade:=ft.made;refine db (aT ?_);refine ah (ao (Code.quiet_builtin _ (by decide +kernel)) (gq _) (codeD_builtin F.entry_type_call ?_));refine ac (Around.under_plain (weight_type_call_type "bytearray" _ []) rfl ..) ?_;show wpD _ _ (Builtin.«type.__call__» ⟨[.type "bytearray",.bytes b t],[]⟩) _ _ s;unfold Builtin.«type.__call__»;dsimp only;refine ac (if_neg (by decide) ..) ?_;have h2:=ft.canCreate
 try dsimp only at h2
 refine ac h2 ?_;refine ac (if_neg (by decide) ..) ?_;refine ae (al (wpAny_of_eq (kP _) ?_));refine ae (al (wpAny_of_eq hmro ?_));refine ac (if_neg (by simp) ..) ?_;refine ae (al (wpAny_of_eq hmade ?_));refine ae (al (wpAny_pure ?_));refine ae (al (wpAny_holding (wpAny_call (kL _ ?_))));have ho:(s.heap.push (bN [])).get? s.heap.objs.size=some (bN []):=Heap.get?_push_size _ rfl;have hT:({ s with heap:=s.heap.push (bN []) }:Shared).TypeIs (.ref s.heap.objs.size) "bytearray":=cx ho;refine ae (al (wpAny_isInstance hT jA ?_));refine ac (if_neg (by decide) ..) ?_;refine ae (au ?_);refine ae (al (wpAny_specialOf hT ft.init.lookup ?_));refine au ?_;refine ac (ft.init.bind ..) ?_;refine ae (ah ?_);refine ae (db (c9 ft.init.plain (kM _ _) iF (al (ft.init.check _ _ _ _ _ _ _ _ hT (ju _ _) (sB (s:={ s with heap:=s.heap.push (bN []) }) ho hz fun h' e1 s1=>?_)))));refine ah ?_;dsimp only;refine ac (if_neg (by decide) ..) ?_;exact ah (h h' e1 fun c o e=>s1.extBut c o (fun q=>by rw [q,get?_size] at e;exact aA e) (Heap.get?_push_of_some _ e))
end
theorem pT:typeLookup (.type "bytes") "__bytes__"=pure (some (.builtin "bytes.__bytes__")):=by rw [typeLookup_type,builtinLookup_eq_fast];kernel_rfl
theorem l8:typeLookup (.type "bytearray") "__bytes__"=pure none:=by rw [typeLookup_type,builtinLookup_eq_fast];kernel_rfl
theorem lj:typeLookup (.type "int") "__bytes__"=pure none:=by rw [typeLookup_type,builtinLookup_eq_fast];kernel_rfl
theorem l9:typeLookup (.type "bytearray") "__index__"=pure none:=by rw [typeLookup_type,builtinLookup_eq_fast];kernel_rfl
theorem jB:isSubtype (.type "bytes") (.type "bytearray")=pure false:=by rw [isSubtype_type];kernel_rfl
theorem g_:isSubtype (.type "bytes") (.type "complex")=pure false:=by rw [isSubtype_type];kernel_rfl
theorem pU:typeLookup (.type "bytes") "__int__"=pure none:=by rw [typeLookup_type,builtinLookup_eq_fast];kernel_rfl
theorem mi:typeLookup (.type "bytes") "__float__"=pure none:=by rw [typeLookup_type,builtinLookup_eq_fast];kernel_rfl
section
variable {A:Around}{E:Value->Shared->Prop}{s:Shared}{a:Addr}{l:List UInt8}{R:Result->Shared->Prop}
theorem f7{M:Model}{Q:Bool->Shared->Prop}(hT:s.TypeIs (.ref a) "bytearray")(h:Q true s):wpAny M A (Builtin.Bytes.slotIsOwn (.ref a) "__buffer__") Q E s:=by
 refine wpAny_bind (wpAny_specialOf hT l5 ?_);dsimp only;refine ac (if_neg (by decide +kernel) ..) ?_;have e:∀ x:String,x="bytearray"->isSubtype (.type "bytearray") (.type x)=pure true:=fun x hx=>by refine ac hx ?_;exact jA
 refine wpAny_bind (wpAny_typeOf hT (wpAny_of_eq (e _ ?_) h));decide +kernel
theorem oF{M:Model}{id:String}{f:Bool}{Q:Option (Array UInt8)->Shared->Prop}(ho:s.heap.get? a=some (bN l))(h:Q (some l.toArray) s):wpAny M A (Builtin.Bytes.buffer? id (.ref a) f) Q E s:=by
 have hT:=cx ho
 refine wpAny_bind (wpAny_specialOf hT l5 ?_);refine wpAny_bind (f7 hT ?_);refine ac (if_neg (by decide) ..) ?_;refine wpAny_bind (wpAny_specialOf hT l5 ?_);refine wpAny_bind (eC hT ?_);refine ac (if_neg (by decide) ..) ?_;exact wpAny_bind (cg ho (wpAny_pure h))
theorem jG{v:Value}{Q:Value->Shared->Prop}(hc:checkBuiltinCall "bytes.__new__" ⟨[.type "bytes",v],[]⟩=pure ())
  (h:wpAny (model prog w) A.in1.in1 (Builtin.«bytes.__new__» ⟨[.type "bytes",v],[]⟩) (fun fin s'=>∃ x,fin=.done (.ret x)/\s'.TypeIs x "bytes"/\Q x s') E s) :
  wpAny (model prog w) A (call (.type "bytes") [v]) Q E s:=by
 refine callType_codes (Q₁:=fun obj s₁=>s₁.TypeIs obj "bytes"/\Q obj s₁) PySem.F.bm_called (PySem.F.bm_typeCall _) PySem.F.entry_object_init ?_ fun obj s₁ h₁=>?_
 ·refine codeAny_of_tree ?_;refine wpAny_bind (wpAny_of_eq hc (wpAny_pure ⟨plainId_quiet PySem.F.bm_plain _,codeAny_builtin PySem.F.bm_entry ?_⟩));refine ac (Around.under_plainId PySem.F.bm_plain _ ..) ?_;refine wpAny_mono h (fun fin s' h'=>?_) fun U U x=>x;refine az h' fun x z1 h1 h2=>?_;clear h';subst z1;exact⟨h1,h2⟩
 ·exact(ao h₁.1 (PySem.F.args_object_init_2 obj _) (object_init_meets PySem.F.bm_called.init.lookup PySem.F.bm_called.made rfl prog w A.in1 _ s₁ (ao h₁.1 rfl h₁.2)))
theorem kS{b:Array UInt8}{t:Tok}{Q:Value->Shared->Prop}(h:Q (.bytes b t) s):wpAny (model prog w) A (call (.type "bytes") [.bytes b t]) Q E s:=by
 refine jG (PySem.F.bm_newCall _) ?_;have hT:s.TypeIs (.bytes b t) "bytes":=PySem.W.typeIs_bytes _ _ _;refine wpAny_bind (wpAny_of_eq (a:=true) rfl ?_);refine bm_if_false rfl ?_;refine wpAny_bind (wpAny_of_eq PySem.F.bm_sub ?_);refine bm_if_false rfl ?_;refine wpAny_bind (wpAny_of_eq (PySem.F.bm_bind _) ?_);refine wpAny_bind (wpAny_of_eq (a:=()) rfl ?_);refine wpAny_bind (wpAny_of_eq (a:=()) rfl ?_);refine bm_if_false rfl ?_;refine wpAny_bind (wpAny_specialOf hT pT ?_);refine wpAny_bind (wpAny_rule ?_);refine wpAny_bind (wpAny_typeOf hT ?_);refine bm_if_true rfl ?_;exact wpAny_pure (aH _ rfl hT h)
theorem pW{Q:Value->Shared->Prop}(ho:s.heap.get? a=some (bN l))(hz:l.length<=1000)(h:∀ t k,Q (.bytes l.toArray t) { s with toks:=k }):wpAny (model prog w) A (call (.type "bytes") [.ref a]) Q E s:=by
 refine jG (PySem.F.bm_newCall _) ?_;have hT:=cx ho;refine wpAny_bind (wpAny_of_eq (a:=true) rfl ?_);refine bm_if_false rfl ?_;refine wpAny_bind (wpAny_of_eq PySem.F.bm_sub ?_);refine bm_if_false rfl ?_;refine wpAny_bind (wpAny_of_eq (PySem.F.bm_bind _) ?_);refine wpAny_bind (wpAny_of_eq (a:=()) rfl ?_);refine wpAny_bind (wpAny_of_eq (a:=()) rfl ?_);refine bm_if_false rfl ?_;refine wpAny_bind (wpAny_specialOf hT l8 ?_);refine wpAny_bind (wpAny_bind ?_);refine wpAny_bind (wpAny_load ho ?_);refine wpAny_pure (wpAny_pure ?_);refine bm_if_false rfl ?_;refine wpAny_bind (wpAny_specialOf hT l9 ?_);refine bm_if_true rfl ?_;refine wpAny_bind (oF ho ?_);refine wpAny_bind (wpAny_rule ?_);refine wpAny_bind (wpAny_mkBytes ?_ (by refine ac sizeLine_eq ?_;simp;lia));refine bm_if_true rfl ?_;exact wpAny_pure (aH _ rfl (PySem.W.typeIs_bytes _ _ _) (h _ _))
theorem oJ{n:Int}{t:Tok}{Q:Value->Shared->Prop}(h0:0<=n)(h1:n<1000)(h:∀ t k,Q (.bytes (List.replicate n.toNat (0:UInt8)).toArray t) { s with toks:=k }):wpAny (model prog w) A (call (.type "bytes") [.int n t]) Q E s:=by
 refine jG (PySem.F.bm_newCall _) ?_;have hT:s.TypeIs (.int n t) "int":=typeIs_int s n t;refine wpAny_bind (wpAny_of_eq (a:=true) rfl ?_);refine bm_if_false rfl ?_;refine wpAny_bind (wpAny_of_eq PySem.F.bm_sub ?_);refine bm_if_false rfl ?_;refine wpAny_bind (wpAny_of_eq (PySem.F.bm_bind _) ?_);refine wpAny_bind (wpAny_of_eq (a:=()) rfl ?_);refine wpAny_bind (wpAny_of_eq (a:=()) rfl ?_);refine bm_if_false rfl ?_;refine wpAny_bind (wpAny_specialOf hT lj ?_);refine wpAny_bind (wpAny_bind (wpAny_bind (wpAny_pure (wpAny_pure (wpAny_pure ?_)))));refine bm_if_false rfl ?_;refine wpAny_bind (wpAny_specialOf hT cL ?_);refine bm_if_false rfl ?_;refine wpAny_bind (wpAny_attempt (wpAny_of_eq (rfl:asIndex (.int n t)=pure n) ?_));refine bm_if_false (by simp only [Builtin.Bytes.fitsIndex];simp;lia) ?_;refine ac (if_neg (by lia) ..) (ac (if_neg (by lia) ..) ?_);refine bm_if_false (by simp only [Builtin.Bytes.tooLong,sizeLine_eq];simp;lia) ?_;refine wpAny_bind (wpAny_rule ?_);refine wpAny_bind (wpAny_mkBytes ?_ (by refine ac sizeLine_eq ?_;simp;lia));refine bm_if_true rfl ?_;refine wpAny_pure (aH _ rfl (PySem.W.typeIs_bytes _ _ _) ?_);have:=h s.toks (s.toks+1);exact this
theorem jo{α:Type}(l b:List α)(x y:Nat):l.toArray.extract 0 (x:Int).toNat++b.toArray++l.toArray.extract (y:Int).toNat l.toArray.size=(l.take x++b++l.drop y).toArray:=by
 apply Array.ext'
 simp
 exact List.take_of_length_le (by simp)
theorem kt{α:Type}{M:Model}{c:Bool}{a b:Sem α}{Q:α->Shared->Prop}(hc:c=false)(h:wpD M A b Q E s):wpD M A (if c=true then a else b) Q E s:=by
 subst hc;exact h
theorem lJ{α:Type}{M:Model}{c:Bool}{a b:Sem α}{Q:α->Shared->Prop}(hc:c=true)(h:wpD M A a Q E s):wpD M A (if c=true then a else b) Q E s:=by
 subst hc;exact h
theorem kO{sl:Addr}{vl vu:Value}{lo hi:Option Int}{x y:Nat}{b:Array UInt8}{t:Tok}{Q:Unit->Shared->Prop}(ho:s.heap.get? a=some (bN l))(hs:s.heap.IsSliceOf sl vl vu .none)(pl:IsPart vl lo)(pu:IsPart vu hi)
  (hb:sliceBounds lo hi none l.length=((x:Int),(y:Int),1))(hxy:x<=y)(hy:y<=l.length)(hl:l.length<=1000)(hn:b.size=y - x)
  (h:∀ h' h1,h'.get? a=some (bN (l.take x++b.toList++l.drop y))->(∀ c o,s.heap.get? c=some o->h1.get? c=some o)->Heap.SameBut a h1 h'->Q () { s with heap:=h' }) :
  wpD (model prog w) A (setItem (.ref a) (.ref sl) (.bytes b t)) Q E s:=by
 have hT:=cx ho
 refine az (id hs) fun os hos hcs hds=>?_;refine au ?_;refine ae (al (wpAny_sequenceKey hT rfl ?_));refine ae ?_;refine ae (al (wpAny_specialOf hT cm.lookup ?_));dsimp only;refine au ?_;refine ac (cm.bind ..) ?_;refine ae (ah ?_);refine ae (db (c9 cm.plain (by show decIds.contains "bytearray.__setitem__"=false;decide +kernel) fe (al (cm.check _ _ _ _ _ _ _ _ hT (gp _ _ _) ?_))));refine ae (al (gr hs ?_));refine ae (al (wpAny_typeOf (ag os hos hcs) ?_));refine ac (if_neg (by decide) ..) ?_;refine ae (al (gZ hs pl pu ?_));have hB:s.TypeIs (.bytes b t) "bytes":=PySem.W.typeIs_bytes _ _ _;refine ae (al (wpAny_isInstance hB jB ?_));refine lJ rfl ?_;refine ae (em (ae (al (wpAny_specialOf hB g9 (ah ⟨rfl,?_⟩)))));refine em (ae (al (wpAny_specialOf hB pU (ah ⟨rfl,?_⟩))));refine em (ae (al (wpAny_specialOf hB mi (ah ⟨rfl,?_⟩))));refine al (wpAny_isInstance hB g_ ?_);refine ae (al (wpAny_bind (wpAny_pure (wpAny_pure ?_))));refine kt rfl ?_;refine ae (dy ?_);refine ae (nq (by lia) fun h1 e1 k1=>?_);have hs1:h1.IsSliceOf sl vl vu .none:=(aH os (k1 _ _ hos) hcs hds);refine ae (al (wpAny_holding (gZ hs1 pl pu ?_)));refine ae (al (cg e1 ?_));refine ae (al (cg (k1 _ _ ho) ?_));refine ae (al (wpAny_of_eq (sliceIndices_raw lo hi none _ (by nofun)) ?_));refine ac (show l.toArray.size=l.length by simp) (ac hb ?_);dsimp only;refine ac (if_pos rfl ..) ?_;refine ae (dy ?_);have hmax:max (x:Int) (y:Int)=y:=by lia
 refine ac hmax ?_;refine ac (if_neg (by simp;lia) ..) ?_;refine ae (al (fm (l':=l.take x++b.toList++l.drop y) (k1 _ _ ho) ?_ (by simp;lia) fun h2 e2 s2=>?_))
 ·exact jo l b.toList x y
 ·exact ah (ah (ah (h _ _ e2 k1 s2)))
end
end Mine.Lake
end
section
open PySem PySem.W PySem.Calls PyProof.Rows PySem.SeqAt PySem.MeetsSeq
open PySem.Sem (wp)
namespace Mine.Lake
variable {c:Cx}{Z Z':List Addr}{O O':St}{s s':Shared}{h':Heap}{α β γ δ:Type}
theorem s_meth{n:Nm}{a:AV}{y:Value}{cal:Cal}{pl:Sem Bool}{A:Around}{E:Value->Shared->Prop}{Q:Value×List Value->Shared->Prop}(B:Bse w h₀)(R:Rep c Z O s)(hv:VR Z a y)(e:fJ a n O=some cal)
  (k:∀ f,CalR Z cal f->Q f s):wpAny (model prog w) A (getMethod y n.str pl) Q E s:=by
 unfold fJ at e;induction a with
 | obj i=>
  dsimp only at e;induction hI:O.H i with
  | none=>rw [hI] at e;exact aA e
  | some o=>
  rw [hI] at e;induction o with
  | inst C d=>
   dsimp only at e;induction e2:O.H d with
   | none=>rw [e2] at e;exact aA e
   | some o2=>
   rw [e2] at e;induction o2 with
   | sd l=>
    dsimp only at e;induction e3:ek C n with
    | none=>rw [e3] at e;exact aA e
    | some f=>
    rw [e3] at e;dsimp only at e;by_cases hl:(lk l n).isNone=true
    ·rw [if_pos hl] at e;obtain rfl:=Option.some.inj e;refine cN (R.instAt hI e2) fun a1 ad od kvs r1 r2 I r3 r4 r5=>?_;obtain rfl:=VR.obj hv r1;have hc:=mO w e3;have hc1:=Bool.and_eq_true_iff.mp hc;have hc2:=Bool.and_eq_true_iff.mp hc1.1;have hc3:=Bool.and_eq_true_iff.mp hc2.1;refine method_fn (R.K B) I (plainGet_of hc3.1).1 (plainGet_of hc3.1).2 (beq_iff_eq.mp hc2.2) (beq_iff_eq.mp hc1.2) ?_ (k _ (.fn hv));show (lookIn n.str od).map _=_;have q:=RLs.lk r5 n;rw [Option.isNone_iff_eq_none.mp hl] at q;refine ac (eG r4 n.str ..) (ac q ?_);rfl
    ·rw [if_neg hl] at e;exact aA e
   | _=>exact aA e
  | li l=>
   refine ar (R.li hI) fun a1 xs m r1 L1 h1=>?_;obtain rfl:=VR.obj hv r1;have e:(if n=.append∨n=.remove then some (Cal.bm n i) else none)=some cal:=e;by_cases hn:n=.append∨n=.remove
   ·rw [if_pos hn] at e;obtain rfl:=Option.some.inj e;rcases hn with rfl | rfl
    ·exact getMethod_list_of PySem.F.slot_list_append PySem.F.type_list_append L1.isList (ag _ L1 rfl) (k _ (.li r1 (.inl ⟨rfl,rfl⟩)))
    ·exact getMethod_list_of PySem.F.slot_list_remove PySem.F.type_list_remove L1.isList (ag _ L1 rfl) (k _ (.li r1 (.inr ⟨rfl,rfl⟩)))
   ·rw [if_neg hn] at e;exact aA e
  | idd l=>
   refine aK (R.idd hI) fun a1 o kvs r1 ho hd h1=>?_;obtain rfl:=VR.obj hv r1;have D:=Heap.dictOf_iff.mpr (ag o ho hd);have e:(if n=.get∨n=.pop then some (Cal.bm n i) else none)=some cal:=e;by_cases hn:n=.get∨n=.pop
   ·rw [if_pos hn] at e;obtain rfl:=Option.some.inj e;rcases hn with rfl | rfl
    ·exact getMethod_builtin D.typeIs PySem.F.plainAttrs_dict PySem.F.slot_dict_get PySem.F.type_dict_get D.mapOf.noDict (k _ (.di r1 (.inl ⟨rfl,rfl⟩)))
    ·exact getMethod_builtin D.typeIs PySem.F.plainAttrs_dict PySem.F.slot_dict_pop PySem.F.type_dict_pop D.mapOf.noDict (k _ (.di r1 (.inr ⟨rfl,rfl⟩)))
   ·rw [if_neg hn] at e;exact aA e
  | _=>exact aA e
 | _=>exact aA e
theorem iM(l:Addr)(items:Array Value)(n:Nat)(x:Value)(j:Nat)(hj:j<items.size)(k:Nat)(hs1:items.size<=sizeLine) :
  ∀ i:Nat,j - i=k->i<=j->Meets (Builtin.«list.remove.loop» ⟨[.ref l,x,rawInt i],[]⟩)
    (fun A R s=>s.heap.get? l=some { cls:=.type "list",dict:=none,data:=.seq items n,slots:=#[] }/\EqAt A.in1 s items[j] x true/\(∀ m (hm:m<items.size),m<j->EqAt A.in1 s items[m] x false)/\
    R (.ok (.ret .none)) { s with heap:=s.heap.update l (Obj.mapSeq fun xs=>xs.eraseIdxIfInBounds j) }):=by
 induction k with
 | zero=>
  intro i hk hij prog w A R s h
  obtain ⟨hp,g,d,tk,os⟩:=s;refine bK h fun hl he hno h=>?_
  have hij':i=j:=by lia
  subst hij'
  wp_walk using AutoSeq1.wpAny_loadPart' hl
  have hi:items[((i:Nat):Int).toNat]?=some items[i]:=by simp [hj]
  refine ac hi ?_;refine wpAny_bind (he prog w _ _ ?_);have hz':(items.eraseIdxIfInBounds i).size<=sizeLine+1:=Nat.le_trans (size_erased items _) (Nat.le_succ_of_le hs1)
  wp_walk using (wpAny_updateSeq hl rfl (hz:=hs1) (_hz':=hz')),AutoSeq1.wpAny_loadPart' hl
  exact h
 | succ k ih=>
  intro i hk hij prog w A R s h
  obtain ⟨hp,g,d,tk,os⟩:=s;refine bK h fun hl he hno h=>?_
  have hlt:i<items.size:=by lia
  wp_walk using AutoSeq1.wpAny_loadPart' hl
  have hi:items[((i:Nat):Int).toNat]?=some items[i]:=by simp [hlt]
  have hc:((i:Int)+1)=((i+1:Nat):Int):=by push_cast;rfl
  refine ac hi ?_;refine wpAny_bind (hno i hlt (by lia) prog w _ _ ?_)
  wp_walk
  refine ac hc ?_;exact⟨plainId_quiet plain_remove_loop _,codeAny_builtin entry_remove_loop (by
   refine ac (Around.under_plainId plain_remove_loop _ ..) ?_;exact ih (i+1) (by lia) (by lia) prog w A R _ (bY hl he hno h))⟩
theorem iI(l:Addr)(items:Array Value)(n:Nat)(x:Value)(j:Nat)(hj:j<items.size)(hs1:items.size<=sizeLine) :
  Meets (Builtin.«list.remove» ⟨[.ref l,x],[]⟩)
    (fun A R s=>s.heap.get? l=some { cls:=.type "list",dict:=none,data:=.seq items n,slots:=#[] }/\EqAt A.in1 s items[j] x true/\(∀ m (hm:m<items.size),m<j->EqAt A.in1 s items[m] x false)/\
    R (.ok (.ret .none)) { s with heap:=s.heap.update l (Obj.mapSeq fun xs=>xs.eraseIdxIfInBounds j) }):=by
 intro prog w A R s h
 obtain ⟨hp,g,d,tk,os⟩:=s;refine aq h fun hl h=>?_
 wp_walk using AutoSeq1.wpAny_loadPart' hl
 exact⟨plainId_quiet plain_remove_loop _,codeAny_builtin entry_remove_loop (by
  refine ac (Around.under_plainId plain_remove_loop _ ..) ?_;exact iM l items n x j hj _ hs1 0 rfl (Nat.zero_le _) prog w A R _ ⟨hl,h⟩)⟩
theorem tH{A:Around}{a:AV}{x:Value}(B:Bse w h₀)(R:Rep c Z O s)(hx:VR Z a x)(hu:A.units+1<cLine):∀ {l:List AV} {xs:List Value} {k:Nat},RL (VR Z) l xs->j_ O a l=some k->
  ∃ hk:k<xs.length,EqAt A s xs[k] x true/\∀ m (hm:m<xs.length),m<k->EqAt A s xs[m] x false:=by
 intro l_
 induction l_ with
 | nil=>
  intro c1_ c2_ c3_ e
  exact aA e
 | cons b l ih_=>
  intro c1_ k h e
  induction c1_ using List.casesOn with
  | nil=>
    exact h.elim
  | cons y xs=>
    rcases posvK_inv e with ⟨e1,rfl⟩ | ⟨e1,e⟩
    ·skip
     exact(ag (Nat.zero_lt_succ _) (jP B R h.1 hx e1 hu) (fun m U hm=>absurd hm (Nat.not_lt_zero _)))
    ·skip
     refine af (Option.map_eq_some_iff.mp e) fun k' e2 z2=>?_;subst z2;refine af (ih_ h.2 e2) fun h1 h2 h3=>?_;refine(ag (Nat.succ_lt_succ h1) h2 (fun m hm hmk=>?_));induction m using Nat.casesOn with
     | zero=>exact jP B R h.1 hx e1 hu
     | succ m=>exact h3 m (Nat.lt_of_succ_lt_succ hm) (Nat.lt_of_succ_lt_succ hmk)
theorem RLi.rm{l:List (Int×AV)}{kvs:List (Int×Value)}(h:RL (so Z) l kvs)(x:Int)(hn:(kvs.map (·.1)).Nodup):RL (so Z) (Mine.Lake.rm l x) (without kvs x):=by
 induction l generalizing kvs with
 | nil=>induction kvs <;> first | trivial | exact h.elim
 | cons p l ih=>
  induction kvs using List.casesOn with
  | nil=>exact h.elim
  | cons q kvs=>
   refine aq h fun z0 h3=>?_;clear h;refine aq z0 fun h1 h2=>?_;clear z0;obtain ⟨n,u⟩:=p;rw [List.map_cons,List.nodup_cons] at hn;simp only [eU,dK];by_cases e:n=x
   ·subst e;refine ac (if_pos rfl ..) ?_;have:without (q::kvs) n=kvs:=by
     have h1:q.1=n:=h1
     have:=without_of_not_mem kvs n (by exact bo (h1 ..) (hn.1))
     unfold without at this ⊢;refine ac (List.filter_cons ..) (ac (if_neg (by simp [h1]) ..) ?_);exact this
    exact ac (this ..) h3
   ·refine ac (if_neg e ..) ?_;have:without (q::kvs) x=q::without kvs x:=by
     have h1:q.1=n:=h1
     unfold without;exact ac (List.filter_cons ..) (ac (if_pos (by simp [h1,e]) ..) rfl)
    refine ac (this ..) ?_;exact⟨⟨h1,h2⟩,ih h3 hn.2⟩
theorem Rep.setList{i:Nat}{a:Addr}{l':List AV}{xs xs':List Value}{n t':Nat}{f:Array Value->Array Value}(R:Rep c Z O s)(hf0:∀ l:{d:AO // d.fz=true},O.H i≠some l.1)(hi:Z[i]?=some a)(L:IsL s.heap a xs.toArray n)(hf:f xs.toArray=xs'.toArray)(h:RL (VR Z) l' xs') :
  Rep c Z (O.set i (.li l')) { s with heap:=s.heap.update a (Obj.mapSeq f),toks:=t' }:=by
 have L':=L.update f
 rw [hf] at L';exact R.set hf0 hi (Heap.SameBut.update ..).extBut L' fun U=>(aw xs' _ rfl h)
theorem Rep.setIdd{i:Nat}{a:Addr}{l':List (Int×AV)}{kvs':List (Int×Value)}{t':Nat}(R:Rep c Z O s)(hf0:∀ l:{d:AO // d.fz=true},O.H i≠some l.1)(hi:Z[i]?=some a)(hm:h'.DictOf (intKind prog w) a kvs')(hs:Heap.SameBut a s.heap h')(h:RL (so Z) l' kvs') :
  Rep c Z (O.set i (.idd l')) { s with heap:=h',toks:=t' }:=by
 refine af (Heap.dictOf_iff.mp hm) fun o' ho' hd'=>?_;exact R.set hf0 hi hs.extBut ho' fun U=>(ag _ hd' h)
theorem Rep.setSd{i:Nat}{a:Addr}{l':List (Nm×AV)}{kvs':List (Str×Value)}{t':Nat}(R:Rep c Z O s)(hf0:∀ l:{d:AO // d.fz=true},O.H i≠some l.1)(hi:Z[i]?=some a)(hm:h'.DictOf (strKind prog w) a kvs')(hs:Heap.SameBut a s.heap h')(h:RL (uC Z) l' kvs') :
  Rep c Z (O.set i (.sd l')) { s with heap:=h',toks:=t' }:=by
 refine af (Heap.dictOf_iff.mp hm) fun o' ho' hd'=>?_;exact R.set hf0 hi hs.extBut ho' fun U=>(ag _ hd' h)
theorem Sd.one{rel:List Addr->α->β->Prop}{k:AV->Res α}{t:List Value->Sem β}{args:List AV}{xs:List Value}(ha:RL (VR Z) args xs)(h:∀ v x,VR Z v x->Sd c Z rel (k v) (t [x]) s):Sd c Z rel (one args k) (t xs) s:=by
 induction args using List.casesOn with
 | nil=>exact Sd.bad
 | cons v r=>
  induction xs using List.casesOn with
  | nil=>exact ha.elim
  | cons x xs=>
   induction r using List.casesOn with
   | nil=>
    induction xs using List.casesOn with
    | nil=>exact h v x ha.1
    | cons _ _=>exact ha.2.elim
   | cons _ _=>exact Sd.bad
theorem qR{i:Nat}{a1:Addr}{l args:List AV}{xs:List Value}(R:Rep c Z O s)(hI:O.H i=some (.li l))(r2:Z[i]?=some a1)(ha:RL (VR Z) args xs) :
  Sd c Z VR (wI i l args O) (call (.builtin "list.append") (.ref a1::xs)) s:=by
 refine Sd.one (t:=fun xs=>call (.builtin "list.append") (.ref a1::xs)) ha fun v x hv=>Sd.ite (fun hz=>Sd.leaf fun U=>?_) fun U=>Sd.bad;refine ar (R.li hI) fun a2 ys m r1 L1 h1=>?_;obtain rfl:=Option.some.inj (r1.symm.trans r2);have hl:=h1.length;refine call_meets PySem.F.slot_list_append (ag _ L1 rfl) PySem.F.entry_list_append (PySem.F.args_list_append_2 _ _) (list_append a2 ys.toArray m x (by refine ac sizeLine_eq ?_;simp;lia)) ⟨L1,?_⟩;exact okP.mk (R.setList (cV hI rfl) r1 L1 (xs':=ys++[x]) (by simp) (h1.append ⟨hv,trivial⟩)) rfl
theorem qS{i:Nat}{a1:Addr}{l args:List AV}{xs:List Value}(B:Bse w h₀)(R:Rep c Z O s)(hI:O.H i=some (.li l))(r2:Z[i]?=some a1)(ha:RL (VR Z) args xs)(hu:c.A.units+2<cLine) :
  Sd c Z VR (vq i l args O) (call (.builtin "list.remove") (.ref a1::xs)) s:=by
 refine Sd.one (t:=fun xs=>call (.builtin "list.remove") (.ref a1::xs)) ha fun v x hv=>Sd.ite (fun e2=>?_) fun U=>Sd.bad;induction e1:j_ O v l with
 | none=>exact Sd.bad
 | some k=>
 refine Sd.leaf fun U=>?_;refine ar (R.li hI) fun a2 ys m r1 L1 h1=>?_;obtain rfl:=Option.some.inj (r1.symm.trans r2);refine af (tH (A:=c.A.in1) B R hv (by omega) h1 e1) fun p1 p2 p3=>?_;refine call_meets PySem.F.slot_list_remove (ag _ L1 rfl) PySem.F.entry_list_remove (PySem.F.args_list_remove_2 _ _) (iI a2 ys.toArray m x k (by exact p1) (cY h1 e2)) (bY L1 p2 (fun m hm hk=>by exact p3 m hm hk) ?_);refine okP.mk (R.setList (cV hI rfl) r1 L1 (xs':=ys.eraseIdx k) ?_ (h1.eraseIdx k)) rfl;unfold Array.eraseIdxIfInBounds;refine ac (dif_pos (by simpa using p1) ..) ?_
 apply Array.ext'
 simp
theorem w3{i:Nat}{a1:Addr}{l:List (Int×AV)}{args:List AV}{xs:List Value}(R:Rep c Z O s)(hI:O.H i=some (.idd l))(r2:Z[i]?=some a1)(ha:RL (VR Z) args xs) :
  Sd c Z VR (u_ l args O) (call (.builtin "dict.get") (.ref a1::xs)) s:=by
 refine aK (R.idd hI) fun a2 o kvs r1 ho hd h1=>?_;obtain rfl:=Option.some.inj (r1.symm.trans r2);have D:=Heap.dictOf_iff.mpr (ag o ho hd);induction args using List.casesOn with
 | nil=>exact Sd.bad
 | cons v r=>
 induction v with
 | int k=>
  induction xs using List.casesOn with
  | nil=>exact ha.elim
  | cons x xs=>
  obtain ⟨⟨t,rfl⟩,ha⟩:=ha
  have q:=RLi.lk h1 k
  induction r using List.casesOn with
  | nil=>
   induction xs using List.casesOn with
   | cons _ _=>exact ha.elim
   | nil=>
   refine Sd.leaf fun U=>?_;refine call_meetsIn PySem.F.slot_dict_get D.typeIs PySem.F.entry_dict_get (PySem.F.args_dict_get_2 _ _) (meets_dict_get (intKind prog w) a2 (ct k t) (ii R r1)) (ag _ D.mapOf ?_);refine okP.mk R.toks ?_;induction z:lk l k with
   | none=>rw [z] at q;refine ac q ?_;rfl
   | some v=>rw [z] at q;obtain ⟨y,e,hy⟩:=q;refine ac e ?_;exact hy
  | cons d r=>
  induction r using List.casesOn with
  | cons _ _=>exact Sd.bad
  | nil=>
   induction xs using List.casesOn with
   | nil=>exact ha.elim
   | cons x2 xs=>
   induction xs using List.casesOn with
   | cons _ _=>exact ha.2.elim
   | nil=>
   refine Sd.leaf fun U=>?_;refine call_meetsIn PySem.F.slot_dict_get D.typeIs PySem.F.entry_dict_get (PySem.F.args_dict_get_3 _ _ _) (meets_dict_get_default (intKind prog w) a2 (ct k t) (ii R r1) x2) (ag _ D.mapOf ?_);refine okP.mk R.toks ?_;induction z:lk l k with
   | none=>rw [z] at q;refine ac q ?_;exact ha.1
   | some v=>rw [z] at q;refine af q fun y e hy=>?_;clear q;refine ac e ?_;exact hy
 | _=>exact Sd.bad
theorem w5{i:Nat}{a1:Addr}{l:List (Int×AV)}{args:List AV}{xs:List Value}(R:Rep c Z O s)(hI:O.H i=some (.idd l))(r2:Z[i]?=some a1)(ha:RL (VR Z) args xs) :
  Sd c Z VR (vo i l args O) (call (.builtin "dict.pop") (.ref a1::xs)) s:=by
 refine Sd.one (t:=fun xs=>call (.builtin "dict.pop") (.ref a1::xs)) ha fun v x hv=>?_;induction v with
 | int k=>
  refine Sd.ite (fun e2=>?_) fun U=>Sd.bad;induction e1:lk l k with
  | none=>exact Sd.bad
  | some v=>
  refine Sd.leaf fun U=>?_;refine aK (R.idd hI) fun a2 o kvs r1 ho hd h1=>?_;obtain rfl:=Option.some.inj (r1.symm.trans r2);refine aj hv fun t z1=>?_;clear hv;subst z1;have D:=Heap.dictOf_iff.mpr (ag o ho hd);have q:=RLi.lk h1 k;rw [e1] at q;refine af q fun y ey hy=>?_;clear q;have hz:=h1.length;have hz2:=of_decide_eq_true e2;refine aV (id hd) fun U U U U U U hnd=>?_;refine call_meetsIn PySem.F.slot_dict_pop D.typeIs PySem.F.entry_dict_pop (PySem.F.args_dict_pop_2 _ _) (meets_dict_pop_there (intKind prog w) a2 (ct k t) [] (.inl rfl) rfl) (cH kvs y D (by refine ac sizeLine_eq ?_;lia) ey (fun h' hm hs=>?_));exact okP.mk (R.setIdd (cV hI rfl) r1 hm hs (RLi.rm h1 k hnd)) hy
 | _=>exact Sd.bad
theorem tN{n:Nm}{i:Nat}{f:Value×List Value}{args:List AV}{xs:List Value}(B:Bse w h₀)(R:Rep c Z O s)(hf:CalR Z (.bm n i) f)(ha:RL (VR Z) args xs)(hu:c.A.units+2<cLine) :
  Sd c Z VR (bB n i args O) (call f.1 (f.2++xs)) s:=by
 unfold bB;induction hI:O.H i with
 | none=>exact Sd.bad
 | some o=>
 cases hf with
 | li r2 hid=>
  induction o with
  | li l=>
   rcases hid with ⟨rfl,rfl⟩ | ⟨rfl,rfl⟩
   ·exact qR R hI r2 ha
   ·exact qS B R hI r2 ha hu
  | idd l=>rcases hid with ⟨rfl,rfl⟩ | ⟨rfl,rfl⟩ <;> exact Sd.bad
  | _=>exact Sd.bad
 | di r2 hid=>
  induction o with
  | li l=>rcases hid with ⟨rfl,rfl⟩ | ⟨rfl,rfl⟩ <;> exact Sd.bad
  | idd l=>
   rcases hid with ⟨rfl,rfl⟩ | ⟨rfl,rfl⟩
   ·exact w3 R hI r2 ha
   ·exact w5 R hI r2 ha
  | _=>exact Sd.bad
theorem lG{i:Int}{n k:Nat}(h:dR i n=some k)(h0:0<=i):i.toNat=k/\k<n:=by
 unfold dR at h;rw [if_pos h0] at h;split at h
 ·obtain rfl:=Option.some.inj h;exact⟨rfl,by omega⟩
 ·exact aA h
theorem o9{i:Int}{n k:Nat}(h:dR i n=some k)(h0:¬ 0<=i):(i+n).toNat=k/\k<n/\-(n:Int)<=i:=by
 unfold dR at h;rw [if_neg h0] at h;split at h
 ·obtain rfl:=Option.some.inj h;exact(ao rfl (by lia) (by lia))
 ·exact aA h
theorem s9{l:List AV}{xs:List Value}{k:Nat}{v:AV}(h:RL (VR Z) l xs)(e:l[k]?=some v):∃ y,xs[k]?=some y/\VR Z v y:=RL.get h k e
theorem Sd.lift{rel:List Addr->α->β->Prop}{o:Option α}{t:Sem β}(h:∀ a,o=some a->wpAny (model prog w) c.A t (okP c Z rel (.ok a O)) (oV c Z (.ok a O)) s):Sd c Z rel (lift o O) t s:=by
 induction o with
 | none=>exact Sd.bad
 | some a=>exact Sd.leaf fun U=>h a rfl
theorem jm{a i:AV}{y z:Value}(R:Rep c Z O s)(hy:VR Z a y)(hz:VR Z i z):Sd c Z VR (getI a i O) (getItem y z) s:=by
 unfold getI;induction ea:O.at a with
 | none=>exact Sd.bad
 | some o=>
 refine af (f6 ea) fun j z1 e=>?_;subst z1;clear ea;induction i with
 | int i=>
  refine aj hz fun t z1=>?_;clear hz;subst z1;induction o with
  | li l=>
   refine Sd.ite (fun hk=>Sd.lift fun v e2=>?_) fun U=>Sd.bad;refine af (Option.bind_eq_some_iff.mp e2) fun k e4 e5=>?_;refine ar (R.li e) fun a1 xs m r1 L1 h1=>?_;obtain rfl:=VR.obj hy r1;refine af (s9 h1 e5) fun x hx hv=>?_;have hn:=of_decide_eq_true hk;have hf:=dt e4 hn;have hl:=h1.length;by_cases h0:0<=i
   ·refine aq (lG e4 h0) fun q U=>?_;exact wpAny_getItem_list L1.isList h0 hf.2 (by refine ac q ?_;simpa using hx) (okP.mk R hv)
   ·refine aM (o9 e4 h0) fun q U q2=>?_;refine wpAny_getItem_list_neg L1.isList (by lia) (by simp;lia) hf.1 ?_ (okP.mk R hv);rw [show (i+(xs.toArray.size:Int)).toNat=k by refine bo q (ac hl ?_);simp]
    simpa using hx
  | tu l=>
   refine Sd.ite (fun hk=>Sd.lift fun v e2=>?_) fun U=>Sd.bad;refine af (Option.bind_eq_some_iff.mp e2) fun k e4 e5=>?_;obtain ⟨a1,ob,r1,hob,xs,m,rfl,h1⟩:=R.own j _ e;obtain rfl:=VR.obj hy r1;refine af (s9 h1 e5) fun x hx hv=>?_;have hf:=dt e4 (of_decide_eq_true hk);have hl:=h1.length;refine getItem_meets (ag _ hob rfl) rfl PySem.F.slot_tuple_getitem PySem.F.entry_tuple_getitem (PySem.F.args_tuple_getitem_2 _ _) (tuple_getitem_at a1 xs.toArray m i t k x hf.1 hf.2 ?_ (by simpa using hx)) ⟨hob,okP.mk R hv⟩;have:=(gK e4).1;rw [hl] at this;exact this
  | ba l=>
   refine Sd.ite (fun hk=>Sd.lift fun v e2=>?_) fun U=>Sd.bad;refine af (Option.map_eq_some_iff.mp e2) fun b e6 z2=>?_;subst z2;refine af (Option.bind_eq_some_iff.mp e6) fun k e4 e5=>?_;refine af (R.ba e) fun a1 r1 ho=>?_;obtain rfl:=VR.obj hy r1;exact l6 ho e4 e5 (of_decide_eq_true hk) (okP.mk R.toks ⟨_,rfl⟩)
  | idd l=>
   refine Sd.lift fun v e2=>?_;refine aK (R.idd e) fun a1 o kvs r1 ho hd h1=>?_;obtain rfl:=VR.obj hy r1;have q:=RLi.lk h1 i;rw [e2] at q;refine af q fun u hu hv=>?_;clear q;exact wpAny_getItem_of (ct i t) (Heap.dictOf_iff.mpr (ag o ho hd)).mapOf hu (okP.mk R.toks hv)
  | frz l=>
   refine Sd.lift fun v e2=>?_;refine aK (R.frz e) fun a1 o kvs r1 ho hd h1=>?_;obtain rfl:=VR.obj hy r1;have q:=RLi.lk h1 i;rw [e2] at q;refine af q fun u hu hv=>?_;clear q;exact wpAny_getItem_of (ct i t) (Heap.dictOf_iff.mpr (ag o ho hd)).mapOf hu (okP.mk R.toks hv)
  | _=>exact Sd.bad
 | str x=>
  induction o with
  | sd l=>
   refine Sd.lift fun v e2=>?_;refine aK (R.sd e) fun a1 o kvs r1 ho hd h1=>?_;obtain rfl:=VR.obj hy r1;refine aj hz fun t z1=>?_;clear hz;subst z1;have q:=RLs.lk h1 x;rw [e2] at q;refine af q fun u hu hv=>?_;clear q;exact wpAny_getItem_of (strKind_is prog w x.str t) (Heap.dictOf_iff.mpr (ag o ho hd)).mapOf hu (okP.mk R.toks hv)
  | _=>exact Sd.bad
 | _=>exact Sd.bad
inductive Box(s:Shared)(y:Value):Prop
 | mk (T id:String) (hT:s.TypeIs y T) (hl:typeLookup (.type T) "__getitem__"=pure (some (.builtin id)))
noncomputable def boxO:AO->Bool
 | .li _ | .fl _ | .tu _ | .ba _ | .sd _ | .idd _ | .frz _=>true
 | _=>false
theorem pR{a:AV}{y:Value}{o:AO}(R:Rep c Z O s)(hy:VR Z a y)(e:O.at a=some o)(ho:boxO o=true):Box s y:=by
 refine af (f6 e) fun j z1 e=>?_;subst z1;refine ai (R.own j _ e) fun a1 ob r1 hob hM=>?_;obtain rfl:=VR.obj hy r1;induction o with
 | fl l=>refine aI hM fun xs n h U=>?_;clear hM;exact⟨"list",_,ag _ hob h.1,slot_list_getitem.lookup⟩
 | li l=>refine aI hM fun xs n z2 U=>?_;clear hM;subst z2;exact⟨"list",_,ag _ hob rfl,slot_list_getitem.lookup⟩
 | tu l=>refine aI hM fun xs n z2 U=>?_;clear hM;subst z2;exact⟨"tuple",_,ag _ hob rfl,PySem.F.slot_tuple_getitem.lookup⟩
 | ba l=>obtain rfl:=hM;exact⟨"bytearray",_,cx hob,cO.lookup⟩
 | sd l=>refine af hM fun kvs hd U=>?_;clear hM;exact⟨"dict",_,(Heap.dictOf_iff.mpr (ag _ hob hd)).typeIs,slot_dict_getitem.lookup⟩
 | idd l=>refine af hM fun kvs hd U=>?_;clear hM;exact⟨"dict",_,(Heap.dictOf_iff.mpr (ag _ hob hd)).typeIs,slot_dict_getitem.lookup⟩
 | frz l=>refine af hM fun kvs hd U=>?_;clear hM;exact⟨"dict",_,(Heap.dictOf_iff.mpr (ag _ hob hd)).typeIs,slot_dict_getitem.lookup⟩
 | _=>exact gw ho
theorem yw{M:Model}{A:Around}{E:Value->Shared->Prop}{y:Value}{Q:Bool->Shared->Prop}(b:Box s y)(h:Q false s):wpAny M A (getitemInPython y) Q E s:=by
 obtain ⟨T,id,hT,hl⟩:=b
 refine ac (getitemInPython_of_ne hT.not_modules ..) ?_;exact wpAny_bind (wpAny_specialOf hT hl (wpAny_pure h))
theorem rC{r:Res AV}{value slice:Expr}{y z:Value}{vs:List Value}(b:Box s y)(hs:subscripted slice false y z=operate vs (getItem y z))(h:Sd c Z VR r (getItem y z) s) :
  Sd c Z VR r (do let r <- subscripted slice (<- getitemInPython y) y z;letTemporaryGo value y r;pure r) s:=fun hb=>by
 refine ae (al (yw b ?_));refine ac hs ?_;refine ae (d_ (am (h hb) (fun v s' h'=>?_) fun U U x=>x));exact ae (al (wpAny_letTemporaryGo (ah h')))
theorem s8{a i:AV}(hb:getI a i O≠.bad):∃ o,O.at a=some o/\boxO o=true:=by
 unfold getI at hb;induction e:O.at a with
 | none=>rw [e] at hb;exact absurd rfl hb
 | some o=>
  rw [e] at hb;refine(ag o rfl ?_);have k1:∀ x,boxO o=true∨lf o x O=.bad:=fun x=>by induction o <;> first | exact .inl rfl | exact .inr rfl
  have k2:∀ x,boxO o=true∨getX o x O=.bad:=fun x=>by induction o <;> first | exact .inl rfl | exact .inr rfl
  induction i with
  | int x=>exact(k1 x).elim id fun q=>absurd q hb
  | str x=>exact(k2 x).elim id fun q=>absurd q hb
  | _=>exact absurd rfl hb
theorem vG{a i:AV}{value slice:Expr}{y z:Value}(R:Rep c Z O s)(hy:VR Z a y)(hz:VR Z i z)(hs:∀ y z,subscripted slice false y z=operate [y,z] (getItem y z)) :
  Sd c Z VR (getI a i O) (do let r <- subscripted slice (<- getitemInPython y) y z;letTemporaryGo value y r;pure r) s:=fun hb=>by
 refine af (s8 hb) fun o e ho=>?_;exact rC (pR R hy e ho) (hs _ _) (jm R hy hz) hb
theorem mG{A:Around}{E:Value->Shared->Prop}{l:Addr}{xs:List Value}{n k:Nat}{i:Int}{t:Tok}{v:Value}{Q:Unit->Shared->Prop}(L:IsL s.heap l xs.toArray n)(h0:0<=i)(hk:i.toNat=k)(hn:k<xs.length)(hfit:i<2 ^ 63)
  (h:Q () { s with heap:=s.heap.update l (Obj.mapSeq (·.setIfInBounds k v)) }):wpAny (model prog w) A (setItem (.ref l) (.int i t) v) Q E s:=by
 have hl:s.heap.IsList l xs.toArray:=L.isList
 refine wpAny_holding ?_;refine wpAny_bind (wpAny_sequenceKey hl.typeIs rfl ?_);refine wpAny_bind (wpAny_callSpecial?_slot (name:=Str.ofString "__setitem__") hl.typeIs slot_list_setitem
  (wpAny_call_entry slot_list_setitem hl.typeIs entry_list_setitem ?_ (args_list_setitem _ _ _)))
 show wpAny _ _ (Builtin.List.listSubscript? (.int i t)>>=_) _ _ s;refine wpAny_bind (wpAny_listSubscript_int (fitsIndex_of h0 hfit) ?_);refine aj (Int.eq_ofNat_of_zero_le h0) fun j z1=>?_;subst z1;have hj:j=k:=by exact hk
 subst hj;refine wpAny_bind (wpAny_bind (wpAny_seqItemAt L rfl (wpAny_pure ?_)));refine ac (show xs.toArray[j]?=some xs[j] by simp [hn]) ?_;refine wpAny_bind (wpAny_setSeqItemAt L rfl ?_)
 first
  | exact wpAny_bind (wpAny_pure (wpAny_pure (ag .none rfl (wpAny_pure h))))
  | exact wpAny_pure (ag .none rfl (wpAny_pure h))
theorem jh{v:AV}{b:UInt8}(h:cz v=some b):∃ x,v=.int x:=by
 induction v <;> first | (cases h;done) | exact⟨_,rfl⟩
theorem rA{a i v:AV}{y z x:Value}(R:Rep c Z O s)(hy:VR Z a y)(hz:VR Z i z)(hv:VR Z v x):Sd c Z (fun U U U=>True) (setI a i v O) (setItem y z x) s:=by
 unfold setI;induction a with
 | obj j=>
  dsimp only;induction e:O.H j with
  | none=>exact Sd.bad
  | some o=>
  induction i with
  | int i=>
   refine aj hz fun t z1=>?_;clear hz;subst z1;induction o with
   | li l=>
    refine Sd.ite (fun h=>?_) fun U=>Sd.bad;induction e1:dR i l.length with
    | none=>exact Sd.bad
    | some k=>
    refine ar (R.li e) fun a1 xs m r1 L1 h1=>?_;obtain rfl:=VR.obj hy r1;refine aq (lG e1 h.1) fun q1 q2=>?_;have hf:=dt e1 (of_decide_eq_true h.2);have hl:=h1.length;refine Sd.leaf fun U=>mG L1 h.1 q1 (by lia) hf.2 ?_;exact okP.mk (R.setList (t':=s.toks) (cV e rfl) r1 L1 (xs':=xs.set k x) (by simp) (h1.set k hv)) trivial
   | ba l=>
    refine Sd.ite (fun e3=>?_) fun U=>Sd.bad;induction e1:dR i l.length with
    | none=>exact Sd.bad
    | some k=>
    induction e2:cz v with
    | none=>exact Sd.bad
    | some b=>
    refine af (R.ba e) fun a1 r1 ho=>?_;obtain rfl:=VR.obj hy r1;refine aj (jh e2) fun q z1=>?_;subst z1;refine aj hv fun u z1=>?_;clear hv;subst z1;refine Sd.leaf fun U=>ma ho e1 e2 (of_decide_eq_true e3) fun h' g1 g2=>?_;exact okP.mk (R.set (t':=s.toks) (cV e rfl) r1 g2.extBut g1 fun U=>rfl) trivial
   | idd l=>
    refine Sd.ite (fun hlen=>?_) fun U=>Sd.bad;refine aK (R.idd e) fun a1 o kvs r1 ho hd h1=>?_;obtain rfl:=VR.obj hy r1;refine aV (id hd) fun U U U U U U hnd=>?_;have hl:=h1.length;refine Sd.leaf fun U=>wpAny_setItem_pairs (ct i t) (Heap.dictOf_iff.mpr (ag o ho hd)) (fun h' hm hs=>?_) (by refine ac sizeLine_eq ?_;lia);exact okP.mk (R.setIdd (cV e rfl) r1 hm hs (RLi.st h1 i hv hnd)) trivial
   | _=>exact Sd.bad
  | str k=>
   induction o with
   | sd l=>
    refine Sd.ite (fun hlen=>?_) fun U=>Sd.bad;refine aK (R.sd e) fun a1 o kvs r1 ho hd h1=>?_;obtain rfl:=VR.obj hy r1;refine aj hz fun t z1=>?_;clear hz;subst z1;refine aV (id hd) fun U U U U U U hnd=>?_;have hl:=h1.length;refine Sd.leaf fun U=>wpAny_setItem_pairs (strKind_is prog w k.str t) (Heap.dictOf_iff.mpr (ag o ho hd)) (fun h' hm hs=>?_) (by refine ac sizeLine_eq ?_;lia);exact okP.mk (R.setSd (cV e rfl) r1 hm hs (RLs.st h1 k hv hnd)) trivial
   | _=>exact Sd.bad
  | _=>exact Sd.bad
 | _=>exact Sd.bad
theorem vC{a i:AV}{y z:Value}(R:Rep c Z O s)(hy:VR Z a y)(hz:VR Z i z):Sd c Z (fun U U U=>True) (jN a i O) (delItem y z) s:=by
 unfold jN;induction a with
 | obj j=>
  dsimp only;induction e:O.H j with
  | none=>exact Sd.bad
  | some o=>
  induction i with
  | int i=>
   refine aj hz fun t z1=>?_;clear hz;subst z1;induction o with
   | li l=>
    refine Sd.ite (fun e2=>?_) fun U=>Sd.bad;induction e1:dR i l.length with
    | none=>exact Sd.bad
    | some k=>
    refine ar (R.li e) fun a1 xs m r1 L1 h1=>?_;obtain rfl:=VR.obj hy r1;have hf:=dt e1 (of_decide_eq_true e2);have hl:=h1.length;have hq:=gK e1;refine Sd.leaf fun U=>P.delItem_list (k:=k) L1 ?_ ?_ ?_ (cY h1 e2)
    ·simp only [Builtin.List.listFitsIndex,Bool.and_eq_true,decide_eq_true_eq];omega
    ·refine ac (show xs.toArray.size=l.length by simp [hl]) ?_;exact hq.1
    ·refine okP.mk (R.setList (t':=s.toks) (cV e rfl) r1 L1 (xs':=xs.eraseIdx k) ?_ (h1.eraseIdx k)) trivial;unfold Array.eraseIdxIfInBounds;refine ac (dif_pos (by simp;omega) ..) ?_
     apply Array.ext'
     simp
   | idd l=>
    refine Sd.ite (fun hc=>?_) fun U=>Sd.bad;have hc:=Bool.and_eq_true_iff.mp hc;refine aK (R.idd e) fun a1 o kvs r1 ho hd h1=>?_;obtain rfl:=VR.obj hy r1;refine aV (id hd) fun U U U U U U hnd=>?_;have D:=Heap.dictOf_iff.mpr (ag o ho hd);have hl:=h1.length;have hz2:=of_decide_eq_true hc.2;have q:=RLi.lk h1 i;refine Sd.leaf fun U=>wpAny_delItem_slot D.typeIs rfl PySem.F.slot_dict_delitem (call_meetsIn PySem.F.slot_dict_delitem D.typeIs PySem.F.entry_dict_delitem (PySem.F.args_dict_delitem_2 _ _) (meets_dict_delitem_pairs (intKind prog w) a1 (ct i t)) (bR kvs D (by refine ac sizeLine_eq ?_;omega) ?_ (fun h' hm hs=>?_)))
    ·induction z:lk l i with
     | none=>rw [z] at hc;exact gw hc.1
     | some v=>rw [z] at q;refine af q fun u hu U=>?_;clear q;refine ac hu ?_;rfl
    ·exact okP.mk (R.setIdd (cV e rfl) r1 hm hs (RLi.rm h1 i hnd)) trivial
   | _=>exact Sd.bad
  | _=>exact Sd.bad
 | _=>exact Sd.bad
def nj(Z:List Addr)(o:Option AV)(v:Value):Prop:=match o with | none=>v=.none | some a=>VR Z a v
theorem nj.mono(hp:Z<+:Z'){o:Option AV}{v:Value}(h:nj Z o v):nj Z' o v:=by
 induction o <;> first | exact h | exact VR.mono hp h
theorem jK{h:Int}{n:Nat}(h0:0<=h):clipAt n h=min h.toNat n:=by
 obtain ⟨k,rfl⟩:=Int.eq_ofNat_of_zero_le h0
 unfold clipAt;refine ac (if_neg (Int.not_lt.mpr h0) ..) (ac (Int.max_eq_right (Int.le_min.mpr ⟨h0,Int.natCast_nonneg n⟩) ..) ?_);rcases Nat.le_total k n with q | q
 ·exact ac (Int.min_eq_left (Int.ofNat_le.mpr q) ..) ((Nat.min_eq_left q).symm)
 ·exact ac (Int.min_eq_right (Int.ofNat_le.mpr q) ..) ((Nat.min_eq_right q).symm)
theorem gI{lo hi:Option AV}{vl vu:Value}{n x y:Nat}(hl:nj Z lo vl)(hu:nj Z hi vu)(e:ends lo hi n=some (x,y)) :
  ∃ lo' hi',IsPart vl lo'/\IsPart vu hi'/\sliceBounds lo' hi' none n=((x:Int),(y:Int),1)/\x<=y/\y<=n:=by
 induction hi with
 | none=>
  cases hu
  induction lo with
  | none=>
   cases hl
   cases e
   exact(cJ none none .none .none (sliceBounds_plain none none n) (Nat.zero_le _) (Nat.le_refl _))
  | some _=>exact aA e
 | some v=>
 induction v with
 | int h=>
  refine aj hu fun u z1=>?_;clear hu;subst z1;induction lo with
  | none=>
   cases hl
   have e:(if 0<=h then some (0,min h.toNat n) else none)=some (x,y):=e
   by_cases h0:0<=h
   ·rw [if_pos h0] at e
    cases e
    exact(cJ none (some h) .none (.int h u) (ac (sliceBounds_plain ..) (bo (jK h0 ..) rfl)) (Nat.zero_le _) (Nat.min_le_right _ _))
   ·rw [if_neg h0] at e;exact aA e
  | some v=>
  induction v with
  | int l=>
   refine aj hl fun t z1=>?_;clear hl;subst z1;have e:(if 0<=l/\l<=h/\h<=n then some (l.toNat,h.toNat) else none)=some (x,y):=e;by_cases hc:0<=l/\l<=h/\h<=n
   ·rw [if_pos hc] at e
    cases e
    have e1:clipAt n l=l.toNat:=(jK hc.1).trans (Nat.min_eq_left (by lia))
    have e2:clipAt n h=h.toNat:=(jK (Int.le_trans hc.1 hc.2.1)).trans (Nat.min_eq_left (by lia))
    exact(cJ (some l) (some h) (.int l t) (.int h u) (ac (sliceBounds_plain ..) (bo (e1 ..) (bo (e2 ..) rfl))) (by lia) (by lia))
   ·rw [if_neg hc] at e;exact aA e
  | _=>exact aA e
 | _=>exact aA e
theorem ic{a1 r:Addr}{xs:List Value}{l:List AV}{lo hi:Option AV}{vl vu:Value}{x z:Nat}(R:Rep c Z O s)(L:s.heap.IsList a1 xs.toArray)(h1:RL (VR Z) l xs)(hl:nj Z lo vl)(hu:nj Z hi vu)(hs:s.heap.IsSliceOf r vl vu .none)(e1:ends lo hi l.length=some (x,z))(e2:bg l=true) :
  Sd c Z VR (O.new (.li ((l.take z).drop x))) (getItem (.ref a1) (.ref r)) s:=by
 refine aV (gI hl hu e1) fun lo' hi' p1 p2 p3 p4 p5=>?_;have hlen:=h1.length;refine Sd.leaf fun U=>wpAny_getItem_list_slice L hs p1 p2 .none (fun h=>aA h) ?_ (cY h1 e2);have e3:slicePick xs.toArray lo' hi' none=((xs.take z).drop x).toArray:=by
  exact ac (kmk_pick_nat xs.toArray (a:=x) (b:=z) (by refine ac (show xs.toArray.size=l.length by simp [hlen]) ?_;exact p3) ..) (ac (List.drop_take ..) rfl)
 refine ac e3 ?_;have hq:=(h1.take z).drop x;refine okP.mk' (List.prefix_append _ [s.heap.objs.size]) (R.push (t':=s.toks) rfl (aw _ 0 rfl (hq.mono fun U U z=>z.mono (List.prefix_append ..)))) (ag _ ?_ rfl);rw [List.getElem?_append_right (by refine ac (R.len ..) ?_;exact Nat.le_refl _),R.len,Nat.sub_self];rfl
theorem vH{a:AV}{lo hi:Option AV}{y vl vu:Value}{r:Addr}(R:Rep c Z O s)(hy:VR Z a y)(hl:nj Z lo vl)(hu:nj Z hi vu)(hs:s.heap.IsSliceOf r vl vu .none):Sd c Z VR (ia a lo hi O) (getItem y (.ref r)) s:=by
 unfold ia;induction ea:O.at a with
 | none=>exact Sd.bad
 | some o=>
 refine af (f6 ea) fun j z1 e=>?_;subst z1;induction o with
 | fl l=>
  refine Sd.ite (fun e2=>?_) fun U=>Sd.bad;induction e1:ends lo hi l.length with
  | none=>exact Sd.bad
  | some p=>
  refine ai (R.fl e) fun a1 xs r1 L1 h1=>?_;obtain rfl:=VR.obj hy r1;exact ic R L1 h1 hl hu hs e1 e2
 | li l=>
  refine Sd.ite (fun e2=>?_) fun U=>Sd.bad;induction e1:ends lo hi l.length with
  | none=>exact Sd.bad
  | some p=>
  refine ar (R.li e) fun a1 xs m r1 L1 h1=>?_;obtain rfl:=VR.obj hy r1;exact ic R L1.isList h1 hl hu hs e1 e2
 | ba l=>
  refine Sd.ite (fun e2=>?_) fun U=>Sd.bad;induction e1:ends lo hi l.length with
  | none=>exact Sd.bad
  | some p=>
  refine aV (gI hl hu e1) fun lo' hi' p1 p2 p3 p4 p5=>?_;refine af (R.ba e) fun a1 r1 ho=>?_;obtain rfl:=VR.obj hy r1;refine Sd.leaf fun U=>kN ho hs p1 p2 p3 p4 (of_decide_eq_true e2) ?_;refine okP.mk' (List.prefix_append _ [s.heap.objs.size]) (R.push (t':=s.toks) rfl rfl) (ag _ ?_ rfl);rw [List.getElem?_append_right (by refine ac (R.len ..) ?_;exact Nat.le_refl _),R.len,Nat.sub_self];rfl
 | _=>exact Sd.bad
theorem fD{M:Model}{A:Around}{E:Value->Shared->Prop}{l:Addr}{xs:Array Value}{n:Nat}{Q:Array Value->Shared->Prop}(L:IsL s.heap l xs n)(h:Q xs s):wpAny M A (Builtin.List.listItems (.ref l)) Q E s:=by
 exact wpAny_bind (wpAny_seqItems L rfl (wpAny_pure h))
theorem iJ{A:Around}{E:Value->Shared->Prop}{l b sl:Addr}{xs ys:List Value}{n n2 x y:Nat}{vl vu:Value}{lo hi:Option Int}{Q:Unit->Shared->Prop}(L:IsL s.heap l xs.toArray n)(L2:IsL s.heap b ys.toArray n2)(hne:l≠b)
  (hs:s.heap.IsSliceOf sl vl vu .none)(pl:IsPart vl lo)(pu:IsPart vu hi)(hb:sliceBounds lo hi none xs.length=((x:Int),(y:Int),1))(hxy:x<=y)(hy:y<=xs.length)(hz:xs.length<=1000)(hn:ys.length=y - x)
  (h:Q () { s with heap:=s.heap.update l (Obj.mapSeq fun xs=>xs.extract 0 (x:Int).toNat++ys.toArray++xs.extract (y:Int).toNat xs.size) }):wpAny (model prog w) A (setItem (.ref l) (.ref sl) (.ref b)) Q E s:=by
 have hl:s.heap.IsList l xs.toArray:=L.isList
 have hTb:s.TypeIs (.ref b) "list":=L2.isList.typeIs
 refine az (id hs) fun os hos hcs hds=>?_;have hTs:s.TypeIs (.ref sl) "slice":=(ag os hos hcs);refine wpAny_holding ?_;refine wpAny_bind (wpAny_sequenceKey hl.typeIs rfl ?_);refine wpAny_bind (wpAny_callSpecial?_slot (name:=Str.ofString "__setitem__") hl.typeIs slot_list_setitem
  (wpAny_call_entry slot_list_setitem hl.typeIs entry_list_setitem ?_ (args_list_setitem _ _ _)))
 show wpAny _ _ (Builtin.List.listSubscript? (.ref sl)>>=_) _ _ s;refine wpAny_bind ?_;refine wpAny_bind (wpAny_specialOf hTs slice_no_index ?_);refine wpAny_pure ?_;refine wpAny_bind (wpAny_typeOf hTs ?_);refine ac (if_neg (by decide) ..) ?_;refine ac (listSliceParts_eq ..) ?_;refine wpAny_bind (wpAny_bind (wpAny_field hos hds (x:=.none) rfl (wpAny_bind (wpAny_listPart .none ?_))));refine ac (if_neg (show ¬ ((rawPart none==rawInt 0)=true) from Bool.false_ne_true)) ?_;refine wpAny_bind (wpAny_field hos hds (x:=vl) rfl (wpAny_bind (wpAny_listPart pl ?_)));refine wpAny_bind (wpAny_field hos hds (x:=vu) rfl (wpAny_bind (wpAny_listPart pu (wpAny_pure ?_))));have hsame:Builtin.List.listSameRef (.ref l) (.ref b)=false:=by
  exact beq_eq_false_iff_ne.mpr hne
 dsimp only;refine ac hsame (ac (if_neg (by decide) ..) ?_);refine wpAny_bind (wpAny_bind (wpAny_typeOf hTb ?_));refine ac (if_pos rfl ..) ?_;refine fD L2 ?_;refine wpAny_bind (fD L ?_);refine wpAny_bind (wpAny_of_eq (sliceIndices_raw lo hi none _ (fun h=>aA h)) ?_);refine ac (show xs.toArray.size=xs.length by simp) (ac hb ?_);refine ac (if_pos rfl ..) ?_;refine wpAny_bind (wpAny_rule ?_);refine ac (if_neg (by simp only [Builtin.List.listTooLong,sizeLine_eq];simp;lia) ..) ?_;have hmax:max (x:Int) (y:Int)=y:=by lia
 refine ac hmax ?_;refine wpAny_bind ?_;refine wpAny_updateSeq L rfl ?_ (by refine ac sizeLine_eq ?_;simp;lia) (by refine ac sizeLine_eq ?_;simp;lia);refine wpAny_bind (wpAny_letGo ?_);exact wpAny_pure (ag _ rfl (wpAny_pure h))
theorem RL.splice{α β:Type}{P:α->β->Prop}{l r:List α}{xs ys:List β}{x y:Nat}(h:RL P l xs)(h2:RL P r ys):RL P (l.take x++r++l.drop y) (xs.take x++ys++xs.drop y):=((h.take x).append h2).append (h.drop y)
open Classical in
theorem vM{a v:AV}{lo hi:Option AV}{y z vl vu:Value}{r:Addr}(R:Rep c Z O s)(hy:VR Z a y)(hz:VR Z v z)(hl:nj Z lo vl)(hu:nj Z hi vu)(hs:s.heap.IsSliceOf r vl vu .none) :
  Sd c Z (fun U U U=>True) (ki a lo hi v O) (setItem y (.ref r) z) s:=by
 unfold ki;induction a with
 | obj j=>
  dsimp only;induction e:O.H j with
  | none=>exact Sd.bad
  | some o=>
  induction o with
  | li l=>
   dsimp only;induction ev:O.at v with
   | none=>exact Sd.bad
   | some o2=>
   refine af (f6 ev) fun j2 z1 e2=>?_;subst z1;induction o2 with
   | li r0=>
    induction e1:ends lo hi l.length with
    | none=>exact Sd.bad
    | some p=>
    refine Sd.ite (fun hc=>?_) fun U=>Sd.bad;refine aV (gI hl hu e1) fun lo' hi' p1 p2 p3 p4 p5=>?_;refine ar (R.li e) fun a1 xs m r1 L1 h1=>?_;refine ar (R.li e2) fun a2 ys m2 r2 L2 h2=>?_;obtain rfl:=VR.obj hy r1;obtain rfl:=VR.obj hz r2;have n1:=h1.length;have n2:=h2.length;have hk:=of_decide_eq_true hc.2.2;refine Sd.leaf fun U=>iJ L1 L2 (fun q=>hc.2.1 ?_) hs p1 p2 (bo (n1 ..) p3) p4 (by lia) (by lia) (by lia) ?_
    ·subst q;exact ac (R.inj r1 r2 ..) rfl
    ·exact okP.mk (R.setList (t':=s.toks) (cV e rfl) r1 L1 (xs':=xs.take p.1++ys++xs.drop p.2) (by have:=jo xs ys p.1 p.2;exact this) (h1.splice h2)) trivial
   | _=>exact Sd.bad
  | ba l=>
   induction v with
   | bytes r0=>
    dsimp only;induction e1:ends lo hi l.length with
    | none=>exact Sd.bad
    | some p=>
    refine Sd.ite (fun hc=>?_) fun U=>Sd.bad;refine aV (gI hl hu e1) fun lo' hi' p1 p2 p3 p4 p5=>?_;refine af (R.ba e) fun a1 r1 ho=>?_;obtain rfl:=VR.obj hy r1;refine aj hz fun t z1=>?_;clear hz;subst z1;refine fun U=>kO ho hs p1 p2 p3 p4 p5 (of_decide_eq_true hc.2) (by exact hc.1) fun h' h1 g1 g2 g3=>?_;have R1:Rep c Z O { s with heap:=h1 }:=R.keeps (t':=s.toks) g2;exact okP.mk (R1.set (t':=s.toks) (cV e rfl) r1 g3.extBut g1 fun U=>rfl) trivial
   | _=>exact Sd.bad
  | _=>exact Sd.bad
 | _=>exact Sd.bad
section
variable {A:Around}{E:Value->Shared->Prop}{b:Array UInt8}{t:Tok}
theorem lb_hint{Q:Bool->Shared->Prop}(h:∀ r,Q r s):wpAny (model prog w) A (Builtin.List.listLengthHint (.bytes b t)) Q E s:=by
 have hT:s.TypeIs (.bytes b t) "bytes":=PySem.W.typeIs_bytes _ _ _
 refine wpAny_bind (wpAny_specialOf hT FB.slot_bytes_len.lookup ?_);generalize hid:("bytes.__len__":String)=id0
 wp_delta
 refine ac (show splitId id0=some ("bytes","__len__") from by subst hid;decide +kernel) ?_;subst hid;refine wpAny_bind (wpAny_isInstance (T:="bytes") (b:=true) hT (by kernel_rfl) ?_);refine wpAny_ite_split (fun hab=>absurd hab (by decide)) (fun U=>?_);refine wpAny_ite_split (fun U=>?_) (fun hab=>absurd (by decide +kernel) hab);refine wpAny_bind (wpAny_typeOf hT ?_);exact wpAny_pure (h _)
abbrev BP(b:Array UInt8):Nat->Value->Prop:=fun i v=>∃ c u,b[i]?=some c/\v=.int (c.toNat:Int) u
theorem o4{R:Result->Shared->Prop}(hh:A.handled=none)(S:Addr)(res:Value)(c₀:Nat)(hS:s.heap.get? S=some { cls:=.type "list",data:=.seq #[] c₀ })
  (hR:∀ h' tk acc' c',(∀ b o,b≠S->s.heap.get? b=some o->h'.get? b=some o)->h'.get? S=some { cls:=.type "list",dict:=none,data:=.seq acc' c',slots:=#[] }->ItemsOf (BP b) acc' b.size->R (.ok (.ret res)) { s with heap:=h',toks:=tk })(hn:b.size<=sizeLine) :
  wpAny (model prog w) A.in1 (Builtin.List.listExtendWith (.ref S) (.bytes b t) res)
    (fun fin s'=>match fin with | .done f=>R (.ok f) s' | .again c'=>c'.quiet=true/\codeAny (model prog w) A c' R s') (fun e s'=>R (.error e) s') s:=by
 have hSI:S≠s.heap.objs.size:=Nat.ne_of_lt (Heap.lt_size hS)
 have hSf:S∉[s.heap.objs.size]:=by simp only [List.mem_cons,List.not_mem_nil,or_false];exact hSI
 have W:=KBw.walks (prog:=prog) (w:=w) (A:=A.in1) hh s.heap.objs.size b t
 have key:∀ (h:Heap) (c₁ tk:Nat),KBw.IsBytesIter h s.heap.objs.size b t 0->(∀ b o,b≠S->s.heap.get? b=some o->h.get? b=some o)->
   h.get? S=some { cls:=.type "list",data:=.seq #[] c₁ }->codeAny (model prog w) A (.builtin "list.extend.loop" ⟨[.ref S,.ref s.heap.objs.size,res],[]⟩) R { s with heap:=h,toks:=tk }:=by
  intro h c₁ tk hst hk hS₁
  refine codeAny_extend_loopS W.toS hn S hSf res b.size 0 _ #[] c₁ rfl (Nat.zero_le _) hst hS₁ (ItemsOf.nil _) fun s' acc' c' hm hS' hacc=>?_;refine ac (Moved.eq_with hm ..) ?_;refine hR s'.heap s'.toks acc' c' (fun b o hb e=>hm.heap b o (fun hmem=>?_) (hk b o hb e)) hS' hacc;rcases List.mem_cons.mp hmem with e' | hmem
  ·exact hb e'
  ·exact absurd (Heap.lt_size e) (by refine ac (List.mem_singleton.mp hmem ..) ?_;exact Nat.lt_irrefl _)
 refine wpAny_bind (wpAny_typeOf (T:="bytes") (PySem.W.typeIs_bytes _ _ _) ?_);refine ac (if_neg (by simp [Builtin.List.listSameRef]) ..) ?_;refine wpAny_bind (KBw.pyIter_bytes ?_);have hS₁:=Heap.get?_push_of_some { cls:=.type "bytes_iterator",data:=.fields #[.bytes b t,.int 0 0] } hS;have st:KBw.IsBytesIter (s.heap.push { cls:=.type "bytes_iterator",data:=.fields #[.bytes b t,.int 0 0] }) s.heap.objs.size b t 0:=(aH _ (Heap.get?_push_size _ rfl) rfl rfl);refine wpAny_bind (wpAny_holding (lb_hint fun r=>?_));refine wpAny_ite_split (fun U=>?_) (fun U=>wpAny_pure ⟨plainId_quiet PySem.F.plain_extend_loop _,key _ c₀ _ st (fun b o U e=>Heap.get?_push_of_some _ e) hS₁⟩);refine wpAny_bind (wpAny_rule ?_);refine wpAny_bind ?_;refine wpAny_bind (wpAny_updateSeq hS₁ rfl ?_);have hS₂:=Heap.get?_update_self (Obj.mapSeq (·.push Value.none)) hS₁ rfl;refine wpAny_updateSeq (hz:=by seq_fits) hS₂ rfl ?_;have hS₃:=Heap.get?_update_self (Obj.mapSeq (·.pop)) hS₂ rfl;refine wpAny_pure ⟨plainId_quiet PySem.F.plain_extend_loop _,key _ _ _ ?_ (fun b o hb e=>?_) hS₃⟩
 ·refine W.frame 0 _ _ st fun b hb o e=>?_;have hbS:b≠S:=fun h=>hSf (h▸hb);exact(Heap.get?_update_other _ _ (Ne.symm hbS)).trans ((Heap.get?_update_other _ _ (Ne.symm hbS)).trans e)
 ·exact(Heap.get?_update_other _ _ (Ne.symm hb)).trans ((Heap.get?_update_other _ _ (Ne.symm hb)).trans (Heap.get?_push_of_some _ e))
theorem tw{R:Result->Shared->Prop}(hh:A.handled=none)(S:Addr)(hS:s.heap.get? S=some { cls:=.type "list",data:=.seq #[] })
  (hR:∀ h' tk acc' c',(∀ b o,b≠S->s.heap.get? b=some o->h'.get? b=some o)->h'.get? S=some { cls:=.type "list",dict:=none,data:=.seq acc' c',slots:=#[] }->ItemsOf (BP b) acc' b.size->R (.ok (.ret .none)) { s with heap:=h',toks:=tk })(hn:b.size<=sizeLine) :
  wpAny (model prog w) A.in1 (Builtin.«list.__init__» ⟨[.ref S,.bytes b t],[]⟩)
    (fun fin s'=>match fin with | .done f=>R (.ok f) s' | .again c'=>c'.quiet=true/\codeAny (model prog w) A c' R s') (fun e s'=>R (.error e) s') s:=by
 show wpAny _ _ (do let old <- Builtin.List.listItems (.ref S);Builtin.List.listUpdate (.ref S) (fun U=>#[]);letGo old.toList.reverse;Builtin.List.listExtendWith (.ref S) (.bytes b t) .none) _ _ s;refine wpAny_bind ?_;refine wpAny_bind (wpAny_seqItems hS rfl (wpAny_pure ?_));refine wpAny_bind (wpAny_updateSeq hS rfl ?_);have hS₂:=Heap.get?_update_self (Obj.mapSeq (fun U=>(#[]:Array Value))) hS rfl;have oth:∀ b o,b≠S->s.heap.get? b=some o->(s.heap.update S (Obj.mapSeq (fun U=>(#[]:Array Value)))).get? b=some o:=
  fun b o hb e=>(Heap.get?_update_other _ _ (Ne.symm hb)).trans e
 refine wpAny_bind (wpAny_letGo ?_);refine o4 hh S .none _ hS₂ (fun h' tk acc' c' hk hS' hacc=>?_) hn;exact hR h' tk acc' c' (fun b o hb e=>hk b o hb (oth b o hb e)) hS' hacc
theorem tv{Q:Value->Shared->Prop}(hh:A.handled=none)(hn:b.size<=sizeLine)
  (hQ:∀ h' tk acc' c',(∀ b o,s.heap.get? b=some o->h'.get? b=some o)->h'.get? s.heap.objs.size=some { cls:=.type "list",dict:=none,data:=.seq acc' c',slots:=#[] }->ItemsOf (BP b) acc' b.size->Q (.ref s.heap.objs.size) { s with heap:=h',toks:=tk }) :
  wpAny (model prog w) A (call (.type "list") [.bytes b t]) Q E s:=by
 refine callType_codes (Q₁:=fun obj s₁=>obj=.ref s.heap.objs.size/\s₁={ s with heap:=s.heap.push { cls:=.type "list",data:=.seq #[] } }) PySem.F.called_list (PySem.F.typeCall_list_1 _) PySem.F.entry_list_init
  (code_list_new _ ⟨rfl,rfl⟩) fun obj s₁ h₁=>?_
 refine aq h₁ fun z0 z1=>?_;clear h₁;subst z0;subst z1;have hS:(s.heap.push { cls:=.type "list",data:=.seq #[] }).get? s.heap.objs.size=some { cls:=.type "list",data:=.seq #[] }:=Heap.get?_push_size _ rfl;refine(ao (ag _ hS rfl) (PySem.F.args_list_init_2 _ _) (tw (A:=A.in1) hh _ hS (fun h' tk acc' c' hk hS' hacc=>?_) hn));exact⟨rfl,hQ h' tk acc' c' (fun b o e=>hk b o (Nat.ne_of_lt (Heap.lt_size e)) (Heap.get?_push_of_some _ e)) hS' hacc⟩
theorem mZ{kvs:List (Int×Value)}{d:Addr}{Q:Value->Shared->Prop}(hh:A.handled=none)(lo:(d==sysModules)=false)(D:s.heap.DictOf (intKind prog w) d kvs)(hz:kvs.length<64)
  (h:∀ h' tk a (out:Array Value) (ns:List Int) n,(∀ b o,s.heap.get? b=some o->h'.get? b=some o)->(∀ b o,s.heap.get? b=some o->b<a)->h'.get? a=some (jV out.toList n)->IntsAre out.toList ns->ns.Perm (kvs.map (·.1))->ns.Pairwise (·<=·)->Q (.ref a) { s with heap:=h',toks:=tk }) :
  wpAny (model prog w) A (call (.builtin "sorted") [.ref d]) Q E s:=by
 refine aj D.dictAt fun ep hat=>?_;refine call_function_entry kind_sorted plain_sorted entry_sorted (args_sorted1 _) ?_;refine wpAny_bind (m:=checkCount "sorted" 1 1 _) (wpAny_pure ?_);have hsz:kvs.length<=sizeLine:=by refine ac sizeLine_eq ?_;lia
 refine wpAny_bind (kdu_collect (A:=A.in1) (kdl_dict (knd:=intKind prog w) (kvs:=kvs) (ep:=ep) lo) hh hat hsz fun h' tk acc hk hacc=>?_);have hl:acc.toList.length=kvs.length:=by refine ac (Array.length_toList ..) ?_;exact hacc.1
 refine wpAny_bind (wpAny_newList ?_ (by refine ac hl ?_;exact hsz));have hI:IntsAre acc.toList (kvs.map (·.1)):=by
  have key:∀ (vs:List Value) (ks:List (Int×Value)),vs.length=ks.length->(∀ (j:Nat) (v:Value),vs[j]?=some v->∃ k x,ks[j]?=some (k,x)/\(intKind prog w).is k v=true)->IntsAre vs (ks.map (·.1)):=by
   intro vs
   induction vs with
   | nil=>intro ks hl _;induction ks using List.casesOn with | nil=>exact .nil | cons _ _=>cases hl
   | cons v vs ih=>
    intro ks hl hp
    induction ks using List.casesOn with
    | nil=>cases hl
    | cons p ks=>
     refine aI (hp 0 v rfl) fun k x e hk=>?_;obtain rfl:=Option.some.inj e;obtain ⟨t,rfl⟩:∃ t,v=.int k t:=by
      have:Value.isInt k v=true:=hk
      induction v <;> first | (simp [Value.isInt] at this;done) | (simp only [Value.isInt,beq_iff_eq] at this;subst this;exact⟨_,rfl⟩)
     exact .cons k t (ih ks (by simpa using hl) fun j v e=>hp (j+1) v e)
  exact key _ _ hl fun j v e=>hacc.2 j v (by refine bo (Array.getElem?_toList ..) ?_;exact e)
 have ho:(h'.push (seqObj "list" acc.toList.toArray 0)).get? h'.objs.size=some (seqObj "list" acc.toList.toArray 0):=Heap.get?_push_size _ rfl
 refine wpAny_bind (wpAny_holding (wpAny_call_entry slot_list_sort (ag _ ho rfl) entry_list_sort (list_sort_tree ho hI (by lia) fun out ns' a1 a2 a3=>(ag _ rfl ?_)) (args_list_sort _)));refine aj (sortedHeap_at (h:=h'.push (seqObj "list" acc.toList.toArray 0)) (out:=out) ho) fun e he=>?_;refine wpAny_pure (ag _ rfl (h _ tk h'.objs.size out ns' e (fun b o eb=>?_) ?_ (by exact he) a1 a2 a3))
 ·have hb:=Heap.lt_size (hk b o eb)
  refine ac (sortedHeap_old (Nat.ne_of_lt hb) (ac (size_push' ..) (Nat.lt_succ_of_lt hb)) ..) ?_;exact Heap.get?_push_of_some _ (hk b o eb)
 ·exact fun b o eb=>Heap.lt_size (hk b o eb)
end
theorem lh(x:Int):∀ l,(r6 x l).Perm (x::l):=by
 intro l_
 induction l_ with
 | nil=>
  exact .refl _
 | cons y l ih_=>
  simp only [fA,dW];split
  ·exact .refl _
  ·exact((ih_).cons y).trans (.swap x y l)
theorem ix:∀ l,(Mine.Lake.sortI l).Perm l
 | []=>.refl _
 | x::l=>(lh x _).trans ((ix l).cons x)
theorem mC(x:Int):∀ {l:List Int},l.Pairwise (·<=·)->(r6 x l).Pairwise (·<=·):=by
 intro l_
 induction l_ with
 | nil=>
  intro c1_
  simp [fA,dW]
 | cons y l ih_=>
  intro h
  refine aq (List.pairwise_cons.mp h) fun h1 h2=>?_;simp only [fA,dW];split
  ·rename_i hxy
   exact List.pairwise_cons.mpr ⟨fun z hz=>by
    rcases List.mem_cons.mp hz with rfl | hz
    ·exact hxy
    ·have:=h1 z hz;lia,h⟩
  ·rename_i hxy
   exact List.pairwise_cons.mpr ⟨fun z hz=>by
    rcases List.mem_cons.mp ((lh x l).mem_iff.mp hz) with rfl | hz
    ·lia
    ·exact h1 z hz,ih_ h2⟩
theorem fO:∀ l,(Mine.Lake.sortI l).Pairwise (·<=·)
 | []=>List.Pairwise.nil
 | x::l=>mC x (fO l)
theorem lF:∀ {l r:List Int},l.Pairwise (·<=·)->r.Pairwise (·<=·)->l.Perm r->l=r:=by
 intro l_
 induction l_ with
 | nil=>
  intro r c2_ c3_ p
  exact(List.nil_perm.mp p).symm
 | cons x l ih_=>
  intro c1_ h1 h2 p
  induction c1_ using List.casesOn with
  | nil=>
    exact(List.perm_nil.mp p)
  | cons y r=>
    refine aq (List.pairwise_cons.mp h1) fun a1 a2=>?_;refine aq (List.pairwise_cons.mp h2) fun b1 b2=>?_;have e:x=y:=by
     rcases List.mem_cons.mp (p.mem_iff.mp (List.mem_cons_self ..)) with e | e
     ·exact e
     ·rcases List.mem_cons.mp (p.symm.mem_iff.mp (List.mem_cons_self ..)) with e2 | e2
      ·exact e2.symm
      ·have:=b1 x e;have:=a1 y e2;lia
    subst e;exact ac (ih_ a2 b2 (List.Perm.cons_inv p) ..) rfl
theorem okP.fresh{d:AO}{o:Obj}{a:Addr}{tk:Nat}(R:Rep c Z O s)(hk:∀ b o,s.heap.get? b=some o->h'.get? b=some o)(hn:∀ b o,s.heap.get? b=some o->b<a)(ho:h'.get? a=some o)(hm:Means (Z++[a]) h' d o) :
  okP c Z VR (O.new d) (.ref a) { s with heap:=h',toks:=tk }:=by
 have hn':s.heap.get? a=none:=by
  induction q:s.heap.get? a with
  | none=>rfl
  | some o=>exact absurd (hn a o q) (Nat.lt_irrefl _)
 have fr:=R.fresh hn'
 have lo:a≠sysModules:=fun q=>by
  refine aj (R.tab_lt (P:=462) (by simp [bn])) fun o e=>?_;have h2:=hn _ _ e;rw [q] at h2;exact absurd h2 (by decide)
 have R':Rep c Z O { s with heap:=h',toks:=tk }:=R.keeps hk
 refine okP.mk' (List.prefix_append _ [a]) (R'.adopt ⟨fr.1.1,fun p=>fr.1.2 (bQ R.tabs (fun b o U e=>hk b o e) p)⟩ fr.2 lo ho hm) (ag _ ?_ rfl);rw [List.getElem?_append_right (by refine ac (R.len ..) ?_;exact Nat.le_refl _),R.len,Nat.sub_self];rfl
theorem mL(s:Shared):∀ b o,s.heap.get? b=some o->b<s.heap.objs.size:=fun b o e=>Heap.lt_size e
set_option tactic.hygienic true in
theorem pa{l:List AV}{bs:List UInt8}{xs:List Value}(h:RL (VR Z) l xs)(e:d6 l=some bs):∃ ns,IntsAre xs ns/\(∀ n∈ns,0<=n/\n<256)/\byteArr ns=bs.toArray:=by
 induction l generalizing xs bs with
 | nil=>
  induction xs using List.casesOn with
  | nil=>obtain rfl:=Option.some.inj e;exact(aH [] .nil (fun U h=>absurd h List.not_mem_nil) rfl)
  | cons _ _=>exact h.elim
 | cons v l ih=>
  induction xs using List.casesOn with
  | nil=>exact h.elim
  | cons x xs=>
   refine ai (fo e) fun b r e1 e2 z=>?_
   ·subst z;refine aj (jh e1) fun i z1=>?_;subst z1;refine aj h.1 fun t z1=>?_;subst z1;refine az (ih h.2 e2) fun ns h1 h2 h3=>?_;have e1:ite _ _ _=some b:=e1;split at e1
    ·rename_i hi
     obtain rfl:=Option.some.inj e1;refine(aH (i::ns) (.cons i t h1) (fun n hn=>?_) ?_)
     ·rcases List.mem_cons.mp hn with rfl | hn
      ·exact hi
      ·exact h2 n hn
     ·unfold byteArr at h3 ⊢
      apply Array.ext'
      have:=congrArg Array.toList h3
      simpa using this
    ·exact aA e1
theorem nG{ns:List Int}{xs:List Value}(h:IntsAre xs ns):RL (VR Z) (ns.map AV.int) xs:=by
 induction h with
 | nil=>trivial
 | cons n t _ ih=>exact⟨⟨t,rfl⟩,ih⟩
theorem qJ{b:List UInt8}{acc:Array Value}(h:ItemsOf (BP b.toArray) acc b.toArray.size):RL (VR Z) (b.map fun x=>AV.int x.toNat) acc.toList:=by
 refine aq h fun h1 h2=>?_;clear h;have key:∀ (b:List UInt8) (xs:List Value),xs.length=b.length->(∀ (j:Nat) (v:Value),xs[j]?=some v->∃ c u,b[j]?=some c/\v=.int (c.toNat:Int) u)->RL (VR Z) (b.map fun x=>AV.int x.toNat) xs:=by
  intro b
  induction b with
  | nil=>intro xs hl _;induction xs using List.casesOn with | nil=>trivial | cons _ _=>cases hl
  | cons c b ih=>
   intro xs hl hp
   induction xs using List.casesOn with
   | nil=>cases hl
   | cons x xs=>
    refine aI (hp 0 x rfl) fun c' u e z3=>?_;subst z3;obtain rfl:=Option.some.inj e;exact⟨⟨u,rfl⟩,ih xs (by simpa using hl) fun j v e=>hp (j+1) v e⟩
 refine key b acc.toList (by exact h1) fun j v e=>?_;refine aI (h2 j v (by refine bo (Array.getElem?_toList ..) ?_;exact e)) fun c u q r=>?_;exact(aw c u (by simpa using q) r)
theorem tg(i:Int):(if i<0 then -i else i)=(i.natAbs:Int):=by split <;> omega
theorem wM{v:AV}{x:Value}(R:Rep c Z O s)(hx:VR Z v x):Sd c Z VR (lenB v O) (call (.builtin "len") [x]) s:=by
 induction v with
 | bytes b=>
  refine aj hx fun t z1=>?_;clear hx;subst z1;refine Sd.ite (fun hb=>?_) fun U=>Sd.bad;have hb:=of_decide_eq_true hb;exact Sd.leaf fun U=>len_bytes (by simp;lia) (okP.mk R.toks ⟨s.toks+1,by simp⟩)
 | obj i=>
  unfold lenB;dsimp only;induction e:O.H i with
  | none=>exact Sd.bad
  | some o=>
  induction o with
  | fl l=>
   refine Sd.ite (fun hb=>?_) fun U=>Sd.bad;have hb:=of_decide_eq_true hb;refine ai (R.fl e) fun a1 ys r1 L1 h1=>?_;obtain rfl:=VR.obj hx r1;have hl:=h1.length;exact Sd.leaf fun U=>call_len_list L1 (by simp;lia) (okP.mk R.toks ⟨s.toks+1,by simp [hl]⟩)
  | li l=>
   refine Sd.ite (fun hb=>?_) fun U=>Sd.bad;have hb:=of_decide_eq_true hb;refine ar (R.li e) fun a1 ys n r1 L1 h1=>?_;obtain rfl:=VR.obj hx r1;have hl:=h1.length;exact Sd.leaf fun U=>call_len_list L1.isList (by simp;lia) (okP.mk R.toks ⟨s.toks+1,by simp [hl]⟩)
  | ba l=>
   refine Sd.ite (fun hb=>?_) fun U=>Sd.bad;have hb:=of_decide_eq_true hb;refine af (R.ba e) fun a1 r1 ho=>?_;obtain rfl:=VR.obj hx r1;refine Sd.leaf fun U=>?_;refine Calls.call_function_entry kind_len plain_len entry_len (args_len1 _) ?_;refine wpAny_bind (m:=oneArg "len" _) (wpAny_pure ?_);refine wpAny_bind (m:=callSpecial? (.ref a1) (Str.ofString "__len__")) (wpAny_callSpecial?_slot (name:=Str.ofString "__len__") (cx ho) gt (uL ho ?_));show wpAny _ _ _ _ _ { s with toks:=s.toks+1 };refine wpAny_bind (wpAny_holding (wpAny_pure ?_));refine wpAny_bind (wpAny_letGo ?_);refine ac (if_neg (by lia) ..) ?_;refine ac (if_neg (by lia) ..) ?_;exact wpAny_bind (wpAny_mkInt (wpAny_pure (ag _ rfl (okP.mk R.toks ⟨_,rfl⟩))))
  | _=>exact Sd.bad
 | _=>exact Sd.bad
theorem sH{v:AV}{x:Value}(R:Rep c Z O s)(hx:VR Z v x)(hh:c.A.handled=none):Sd c Z VR (bytesB v O) (call (.type "bytes") [x]) s:=by
 induction v with
 | int i=>
  refine aj hx fun t z1=>?_;clear hx;subst z1;exact Sd.ite (fun hi=>Sd.leaf fun U=>oJ hi.1 hi.2 fun t k=>okP.mk R.toks ⟨t,rfl⟩) fun U=>Sd.bad
 | bytes b=>refine aj hx fun t z1=>?_;clear hx;subst z1;exact Sd.leaf fun U=>kS (okP.mk R ⟨t,rfl⟩)
 | obj i=>
  unfold bytesB;dsimp only;induction e:O.H i with
  | none=>exact Sd.bad
  | some o=>
  induction o with
  | ba l=>
   refine af (R.ba e) fun a1 r1 ho=>?_;obtain rfl:=VR.obj hx r1;exact Sd.ite (fun hb=>Sd.leaf fun U=>pW ho (of_decide_eq_true hb) fun t k=>okP.mk R.toks ⟨t,rfl⟩) fun U=>Sd.bad
  | li l=>
   refine Sd.ite (fun e3=>?_) fun U=>Sd.bad;induction e2:d6 l with
   | none=>exact Sd.bad
   | some bs=>
   refine ar (R.li e) fun a1 ys n r1 L1 h1=>?_;obtain rfl:=VR.obj hx r1;refine az (pa h1 e2) fun ns g1 g2 g3=>?_;refine Sd.leaf fun U=>call_bytes_ints L1.isList g1 g2 ?_ hh fun h' t k hk=>?_
   ·have:=cY h1 e3
    exact this
   ·refine ac g3 ?_;exact okP.mk (R.keeps hk) ⟨t,rfl⟩
  | _=>exact Sd.bad
 | _=>exact Sd.bad
theorem uS{v:AV}{x:Value}(R:Rep c Z O s)(hx:VR Z v x)(hh:c.A.handled=none):Sd c Z VR (listB v O) (call (.type "list") [x]) s:=by
 induction v with
 | bytes b=>
  refine aj hx fun t z1=>?_;clear hx;subst z1;refine Sd.ite (fun hb=>?_) fun U=>Sd.bad;have hb:=of_decide_eq_true hb;exact Sd.leaf fun U=>tv hh (by refine ac sizeLine_eq ?_;simp;lia) fun h' tk acc n hk ha hi=>okP.fresh R hk (mL s) ha (aw acc.toList n rfl (qJ hi))
 | obj i=>
  unfold listB;dsimp only;induction e:O.H i with
  | none=>exact Sd.bad
  | some o=>
  induction o with
  | li l=>
   refine Sd.ite (fun hb=>?_) fun U=>Sd.bad;refine ar (R.li e) fun a1 ys n r1 L1 h1=>?_;obtain rfl:=VR.obj hx r1;refine Sd.leaf fun U=>call_list_seq a1 (.inl rfl) L1 rfl rfl (fun h' c' hk ha=>?_) (cY h1 hb);exact okP.fresh (tk:=s.toks) R hk (mL s) ha (aw ys c' rfl (h1.mono fun U U z=>z.mono (List.prefix_append ..)))
  | _=>exact Sd.bad
 | _=>exact Sd.bad
theorem tj:∀ {l:List (Int×AV)} {kvs:List (Int×Value)},RL (so Z) l kvs->kvs.map (·.1)=dX l:=by
 intro l
 induction l with
 | nil=>intro kvs h;induction kvs using List.casesOn with | nil=>rfl | cons _ _=>exact h.elim
 | cons p l ih=>
  intro kvs h
  induction kvs using List.casesOn with
  | nil=>exact h.elim
  | cons q kvs=>refine ac (List.map_cons ..) (ac (ih h.2 ..) (ac (h.1.1 ..) ?_));rfl
theorem qe{v:AV}{x:Value}(R:Rep c Z O s)(hx:VR Z v x)(hh:c.A.handled=none):Sd c Z VR (sortedB v O) (call (.builtin "sorted") [x]) s:=by
 induction v with
 | obj i=>
  unfold sortedB;dsimp only;induction e:O.H i with
  | none=>exact Sd.bad
  | some o=>
  induction o with
  | idd l=>
   refine Sd.ite (fun hb=>?_) fun U=>Sd.bad;refine aK (R.idd e) fun a1 o kvs r1 ho hd h1=>?_;obtain rfl:=VR.obj hx r1;have hl:=h1.length;refine Sd.leaf fun U=>mZ hh (ii R r1) (Heap.dictOf_iff.mpr (ag o ho hd)) (by lia) fun h' tk a out ns n hk hlt ha hI hp hs=>?_;have:ns=Mine.Lake.sortI (dX l):=lF hs (fO _) (hp.trans (by refine ac (tj h1 ..) ?_;exact(ix _).symm));subst this;exact okP.fresh R hk hlt ha (aw out.toList n rfl (nG hI))
  | _=>exact Sd.bad
 | _=>exact Sd.bad
open Classical in
theorem tM{f:Bf}{args:List AV}{xs:List Value}(B:Bse w h₀)(R:Rep c Z O s)(ha:RL (VR Z) args xs)(hh:c.A.handled=none):Sd c Z VR (cU f args O) (call f.val xs) s:=by
 induction f with
 | len=>exact Sd.one (t:=fun xs=>call (.builtin "len") xs) ha fun v x hx=>wM R hx
 | abs=>
  refine Sd.one (t:=fun xs=>call (.builtin "abs") xs) ha fun v x hx=>?_;induction v with
  | int i=>refine aj hx fun t z1=>?_;clear hx;subst z1;exact Sd.leaf fun U=>call_abs_int fun u tk=>okP.mk R.toks ⟨u,by rw [tg]⟩
  | _=>exact Sd.bad
 | int=>
  refine Sd.one (t:=fun xs=>call (.type "int") xs) ha fun v x hx=>?_;induction v with
  | int i=>refine aj hx fun t z1=>?_;clear hx;subst z1;exact Sd.leaf fun U=>call_int_int (okP.mk R ⟨t,rfl⟩)
  | bool b=>obtain rfl:=hx;exact Sd.leaf fun U=>call_int_bool (okP.mk R.toks ⟨_,rfl⟩)
  | _=>exact Sd.bad
 | bytes=>exact Sd.one (t:=fun xs=>call (.type "bytes") xs) ha fun v x hx=>sH R hx hh
 | bytearray=>
  refine Sd.one (t:=fun xs=>call (.type "bytearray") xs) ha fun v x hx=>?_;induction v with
  | bytes b=>
   refine aj hx fun t z1=>?_;clear hx;subst z1;refine Sd.ite (fun hb=>?_) fun U=>Sd.bad;have hb:=of_decide_eq_true hb;exact fun U=>nq (by exact hb) fun h' ha hk=>okP.fresh (tk:=s.toks) R hk (mL s) ha rfl
  | _=>exact Sd.bad
 | isinstance=>
  induction args using List.casesOn with
  | nil=>exact Sd.bad
  | cons v r=>
  induction xs using List.casesOn with
  | nil=>exact ha.elim
  | cons x xs=>
  refine Sd.one (t:=fun xs=>call (.builtin "isinstance") (x::xs)) ha.2 fun u y hy=>Sd.ite (fun e=>?_) fun U=>Sd.bad;subst e;obtain rfl:=hy;have hx:=ha.1;induction v with
  | int i=>refine aj hx fun t z1=>?_;clear hx;subst z1;exact Sd.leaf fun U=>IsiPair.int_int (okP.mk R rfl)
  | none=>obtain rfl:=hx;exact Sd.leaf fun U=>IsiPair.NoneType_int (okP.mk R.toks rfl)
  | _=>exact Sd.bad
 | list=>exact Sd.one (t:=fun xs=>call (.type "list") xs) ha fun v x hx=>uS R hx hh
 | sorted=>exact Sd.one (t:=fun xs=>call (.builtin "sorted") xs) ha fun v x hx=>qe R hx hh
end Mine.Lake
end
section
open PySem PySem.W PySem.Calls PyProof.Rows PySem.SeqAt PySem.MeetsSeq
open PySem.Sem (wp)
namespace Mine.Lake
theorem lH{m:Nat}{k:Kd}{e:Expr}{p:Pos}{r:RE}(h:trE m k (.Starred e p)=some r):False:=by
 induction m using Nat.casesOn with
 | zero=>exact aA h
 | succ m=>exact aA h
theorem tY{m:Nat}{k:Kd}{e:Expr}{r:RE}(h:trE m k e=some r)(op:CmpOp):behindInMarks op e=false:=by
 cases e <;> first | rfl | (cases m <;> exact aA h)
theorem jq{m:Nat}{k:Kd}{lo hi st:Option Expr}{p:Pos}{r:RE}(h:trE m k (.Slice lo hi st p)=some r):False:=by
 induction m using Nat.casesOn with
 | zero=>exact aA h
 | succ m=>exact aA h
theorem eJ{m:Nat}{k:Kd}{e:Expr}{r:RE}(h:trE m k e=some r)(rest:List Expr)(env:Env):starEach (e::rest) env=(false,eval e env)::starEach rest env:=by
 cases e <;> first | rfl | exact(lH h).elim
set_option tactic.hygienic true in
theorem aJ{α β:Type}{f:α->Option β}{a:α}{l:List α}{r:List β}(h:allS f (a::l)=some r):∃ b r',f a=some b/\allS f l=some r'/\r=b::r':=by
 refine af (Option.bind_eq_some_iff.mp h) fun b e1 h=>?_;refine af (Option.map_eq_some_iff.mp h) fun r' e2 h=>?_;exact(ax b r' e1 e2 h.symm)
theorem dB{m:Nat}{k:Kd}{env:Env}{pos:Pos}:∀ {es:List Expr} {rs:List RE},allS (trE m k) es=some rs->(backTo pos (starEach es env)).any (·.1)=false:=by
 intro l_
 induction l_ with
 | nil=>
  intro c1_ c2_
  exact rfl
 | cons e es ih_=>
  intro c1_ h
  refine ai (aJ h) fun b r' e1 e2 z4=>?_;subst z4;refine ac (eJ e1 ..) ?_;refine ac (ih_ e2 ..) ?_;rfl
section
variable {M:Model}{A:Around}{E:Value->Shared->Prop}{s:Shared}
theorem lK{α:Type}{vs:List Value}{m:Sem α}{Q:α->Shared->Prop}(h:wpD M A m Q E s):wpD M A (m.keep vs) Q E s:=
 fun Γ p hΓ hn=>by refine ac (Sem.wp_keep ..) ?_;exact h Γ p hΓ hn
theorem ew{α:Type}{c:Prop}[Decidable c]{a b:Sem α}{Q:α->Shared->Prop}(ha:c->wpD M A a Q E s)(hb:¬ c->wpD M A b Q E s):wpD M A (if c then a else b) Q E s:=by
 by_cases h:c
 ·refine ac (if_pos h ..) ?_;exact ha h
 ·refine ac (if_neg h ..) ?_;exact hb h
end
variable {c:Cx}{Z Z':List Addr}{O O':St}{s s':Shared}{h':Heap}{α β γ δ:Type}
theorem Sd.of_bad{rel:List Addr->α->β->Prop}{r:Res α}{t:Sem β}(h:r≠.bad->Sd c Z rel r t s):Sd c Z rel r t s:=fun hb=>h hb hb
def IE(F:Fns)(kk n:Nat):Prop:=∀ m k e r a env c Z O s,trE m k e=some r->Rep c Z O s->EnvR k a env c Z->Room c kk n->Sd c Z VR (F.E a r O) (eval e env) s
def IT(F:Fns)(kk n:Nat):Prop:=∀ m k e r a env c Z O s,trE m k e=some r->Rep c Z O s->EnvR k a env c Z->Room c kk n->Sd c Z (fun U b v=>v=b) (F.T a r O) (isTrue e env (eval e env)) s
section
variable {F:Fns}{kk n m:Nat}{k:Kd}{a:AEnv}{env:Env}
set_option tactic.hygienic true in
theorem gj(I:IE F kk n)(Ro:Room c kk n){pos:Pos}:∀ {es:List Expr} {rs:List RE} {Z:List Addr} {O:St} {s:Shared},allS (trE m k) es=some rs->Rep c Z O s->EnvR k a env c Z->
  Sd c Z (fun Z vs xs=>RL (VR Z) vs xs) (bx (F.E a) rs O) (spliced (backTo pos (starEach es env))) s:=by
 intro l_
 induction l_ with
 | nil=>
  intro c1_ c2_ c3_ c4_ h R V
  obtain rfl:=Option.some.inj h;exact Sd.ret R trivial
 | cons e es ih_=>
  intro c1_ Z O s h R V
  refine ai (aJ h) fun b r' e1 e2 z4=>?_;subst z4;refine ac (eJ e1 ..) ?_;refine Sd.bind (I _ _ _ _ _ _ _ _ _ _ e1 R V Ro) fun v O' Z' x s' ex hp hx R'=>?_;show Sd _ _ _ _ (PySem.holding [x] (spliced (backTo pos (starEach es env)))>>=fun vs=>pure ([x]++vs)) _;refine Sd.bind (ih_ e2 R' (V.mono hp)).holding fun vs O'' Z'' xs s'' ex' hp' hxs R''=>?_;exact Sd.ret R'' ⟨hx.mono hp',hxs⟩
set_option tactic.hygienic true in
theorem uv(I:IE F kk n)(Ro:Room c kk n){e:Option Expr}{r:Option RE}(h:eT (trE m k) e=some r)(R:Rep c Z O s)(V:EnvR k a env c Z) :
  Sd c Z nj (iL (F.E a) r O) (valueOrNone (evalOpt e env)) s:=by
 induction e with
 | none=>obtain rfl:=Option.some.inj h;exact Sd.ret R rfl
 | some e=>
  induction e1:trE m k e with
  | none=>rw [eT,e1] at h;exact aA h
  | some b=>
   rw [eT,e1] at h;obtain rfl:=Option.some.inj h;refine Sd.eq (t':=eval e env>>=fun v=>pure v) (show eval e env=_ from (bind_pure _).symm) ?_;refine Sd.bind (I _ _ _ _ _ _ _ _ _ _ e1 R V Ro) fun v O' Z' x s' ex hp hx R'=>?_;exact Sd.ret R' hx
theorem iv{f:Value}{pos:Pos}{es:List Expr}{rs:Res (List AV)}(hn:∃ rs,allS (trE m k) es=some rs)
  (h1:Sd c Z (fun Z vs xs=>RL (VR Z) vs xs) rs (spliced (backTo pos (starEach es env))) s) :
  Sd c Z (fun Z vs (x:Args)=>x.kw=[]/\RL (VR Z) vs x.pos) rs (evalArgs f true (backTo pos (starEach es env)) []) s:=fun hb=>by
 have key:∀ (l:List (Bool×Sem Value)),(∀ x rest,l=(true,x)::rest->False)->evalArgs f true l []=(do let vs <- spliced l;PySem.holding (vs++[]) (do let kw <- evalAll [];let p <- pure vs;return ⟨p,[].zip kw⟩)):=by
  intro l hl
  induction l using List.casesOn with
  | nil=>rfl
  | cons x l=>
   obtain ⟨b,x⟩:=x
   induction b with
   | true=>exact(hl _ _ rfl).elim
   | false=>rfl
 refine aj hn fun rs' hrs=>?_;clear hn;rw [key]
 ·refine ae (am (h1 hb) (fun xs s' h'=>?_) fun U U x=>x);refine au (ae (ah (ae (ah (ah ?_)))));induction rs with
  | ok vs O'=>
   refine az h' fun Z' q1 q2 q3=>?_;clear h';exact(aH Z' q1 ⟨rfl,q2⟩ q3)
  | _=>exact h'.elim
 ·intro x rest e
  have:=dB (env:=env) (pos:=pos) hrs
  rw [e] at this;simp at this
theorem eV{pos p2:Pos}{y:Value}{first:List Value}{es:List Expr}{rs:Res (List AV)}{g:List AV->St->Res AV}(hn:∃ rs,allS (trE m k) es=some rs)
  (h1:Sd c Z (fun Z vs xs=>RL (VR Z) vs xs) rs (spliced (backTo pos (starEach es env))) s)
   (h2:∀ vs O' Z' xs s',rs=.ok vs O'->Z<+:Z'->RL (VR Z') vs xs->Rep c Z' O' s'->Sd c Z' VR (g vs O') (call y (first++xs)) s'/\
    (g vs O'≠.bad->∀ (E:Value->Shared->Prop) (Q:Keeper->Shared->Prop),(∀ k,Q k s')->wpAny (model prog w) c.A (keeperOf y) Q E s')) :
  Sd c Z VR (rs.bind g) (callWith p2 y first (backTo pos (starEach es env)) []) s:=by
 have hpl:(backTo pos (starEach es env)).any (·.1)=false:=let ⟨_,h⟩:=hn;dB h
 refine Sd.bind (iv (f:=y) hn h1).holding fun vs O' Z' x s' ex hp hx R'=>?_;obtain ⟨xs,kw⟩:=x;refine aq hx fun z0 hx=>?_;subst z0;obtain ⟨q1,q2⟩:=h2 vs O' Z' xs s' ex hp hx R';refine Sd.stand ?_;refine ac (hpl ..) ?_;intro hb;refine ae (al (q2 hb _ _ fun kp=>?_));have fin:∀ t:Sem Value,wpD (model prog w) c.A t (okP c Z' VR (g vs O')) (oV c Z' (g vs O')) s'->
   wpD (model prog w) c.A (t>>=fun r=>do PySem.holding [r] point;pure r) (okP c Z' VR (g vs O')) (oV c Z' (g vs O')) s':=fun t ht=>
  ae (am ht (fun r s₂ hr=>ae (au (dw (ah hr)))) fun U U x=>x)
 induction kp with
 | frame=>
  refine ew (fun U=>fin _ (q1 hb)) fun U=>fin _ ?_;exact lK (q1 hb)
 | boundFrame=>
  refine ew (fun U=>fin _ (q1 hb)) fun U=>fin _ ?_;exact lK (q1 hb)
 | machine=>exact fin _ (q1 hb)
 | caller=>exact fin _ (d_ (q1 hb))
theorem gO{cn:Const}{x:AV}{kz:Nat}{pos:Pos}(R:Rep c Z O s)(h:(cn=.none/\x=.none)∨(∃ b,cn=.bool b/\x=.bool b)∨(∃ i,cn=.int i/\x=.int i)∨(∃ t y,cn=.str t/\nmOf t=some y/\x=.str y)) :
  Sd c Z VR (.ok x O) (eval (.Constant cn kz pos) env) s:=by
 rcases h with ⟨rfl,rfl⟩ | ⟨b,rfl,rfl⟩ | ⟨i,rfl,rfl⟩ | ⟨t,y,rfl,e,rfl⟩
 ·exact Sd.ret R rfl
 ·exact Sd.ret R rfl
 ·exact Sd.leaf fun U=>wpAny_mkInt (okP.mk R.toks ⟨_,rfl⟩)
 ·exact Sd.leaf fun U=>wpAny_mkText (okP.mk R.toks ⟨_,by exact ac (aB e ..) rfl⟩)
theorem kG{e:Expr}{r:RE}{attr:Str}{t:Sem Value}(h:trE m k e=some r):attributeBase e attr env t=t:=by
 induction e using Expr.casesOn with
 | Call f args kw pos=>
  induction f using Expr.casesOn with
  | Name id p=>
   induction args using List.casesOn with
   | cons _ _=>rfl
   | nil=>
    induction kw using List.casesOn with
    | cons _ _=>rfl
    | nil=>
     have hn:=pj h
     have hne:(id != ("super":Str))=true:=bne_iff_ne.mpr fun q=>by
      subst q;exact absurd hn (by decide +kernel)
     show (if (id != ("super":Str)||_||_||_)=true then t else _)=t;refine ac hne ?_;rfl
  | _=>rfl
 | _=>rfl
theorem vy(B:Bse w h₀)(I:IE F kk n)(Ro:Room c kk n){e:Expr}{r:RE}{attr:Str}{x:Nm}{pos:Pos}(h:trE m k e=some r)(hx:nmOf attr=some x)(R:Rep c Z O s)(V:EnvR k a env c Z) :
  Sd c Z VR ((F.E a r O).bind fun o s=>getA o x s) (eval (.Attribute e attr pos) env) s:=by
 refine ac (arm_eval_Attribute ..) (ac (kG h ..) ?_);refine Sd.bind (I _ _ _ _ _ _ _ _ _ _ h R V Ro) fun v O' Z' y s' ex hp hy R'=>?_;refine Sd.stand ?_;intro hb;refine bo (aB hx ..) ?_;refine ae (au (am (rg B R' hy hb) (fun r s₂ hr=>?_) fun U U x=>x));exact ae (al (wpAny_letTemporaryGo (ah hr)))
theorem fP{m:Nat}{k:Kd}{e:Expr}{r:RE}(h:trE m k e=some r):∀ y z,subscripted e false y z=operate [y,z] (getItem y z):=by
 intro y z
 cases e <;> first | rfl | exact(jq h).elim
theorem xr(I:IE F kk n)(Ro:Room c kk n){e i:Expr}{r ri:RE}{pos:Pos}(h:trE m k e=some r)(hi:trE m k i=some ri)(R:Rep c Z O s)(V:EnvR k a env c Z) :
  Sd c Z VR ((F.E a r O).bind fun o s=>(F.E a ri s).bind fun i s=>getI o i s) (eval (.Subscript e i pos) env) s:=by
 refine ac (arm_eval_Subscript ..) ?_;refine Sd.bind (I _ _ _ _ _ _ _ _ _ _ h R V Ro) fun v O' Z' y s' ex hp hy R'=>?_;refine Sd.bind (Sd.holding (I _ _ _ _ _ _ _ _ _ _ hi R' (V.mono hp) Ro)) fun v2 O'' Z'' z s'' ex2 hp2 hz R''=>?_;refine Sd.stand ?_;exact vG R'' (hy.mono hp2) hz (fP hi)
theorem n9(I:IE F kk n)(Ro:Room c kk n){rel:List Addr->γ->δ->Prop}{lo hi:Option Expr}{rl rh:Option RE}{p:Pos}{g:Option AV->Option AV->St->Res γ}{t:Value->Sem δ}(hl:eT (trE m k) lo=some rl)(hh:eT (trE m k) hi=some rh)(R:Rep c Z O s)(V:EnvR k a env c Z)
  (h:∀ x z O' Z' vl vu s' ad,Z<+:Z'->nj Z' x vl->nj Z' z vu->s'.heap.IsSliceOf ad vl vu .none->Rep c Z' O' s'->Sd c Z' rel (g x z O') (t (.ref ad)) s') :
  Sd c Z rel ((iL (F.E a) rl O).bind fun x s=>(iL (F.E a) rh s).bind fun z s=>g x z s) (eval (.Slice lo hi none p) env>>=t) s:=by
 refine ac (arm_eval_Slice ..) ?_;refine Sd.eq (t':=valueOrNone (evalOpt lo env)>>=fun l=>PySem.holding [l] (valueOrNone (evalOpt hi env))>>=fun u=>PySem.holding [l,u] (pure Value.none)>>=fun st=>newFields "slice" [l,u,st]>>=t) (by simp only [bind_assoc];rfl) ?_;refine Sd.bind (uv I Ro hl R V) fun x O' Z' vl s' ex hp hx R'=>?_;refine Sd.bind (Sd.holding (uv I Ro hh R' (V.mono hp))) fun z O'' Z'' vu s'' ex2 hp2 hz R''=>?_;intro hb;refine ae (au (ah (ae (al (wpAny_newObj_type ?_)))));exact(h x z O'' Z'' vl vu _ _ (hp.trans hp2) (hx.mono hp2) hz (Heap.IsSliceOf.new ..) (R''.keeps (t':=s''.toks) fun U U e=>Heap.get?_push_of_some _ e)).pre (List.prefix_refl _) |> fun X=>Sd.pre (List.prefix_refl _) X hb
end
end Mine.Lake
end
section
open PySem PySem.W PySem.Calls PyProof.Rows PySem.SeqAt PySem.MeetsSeq
open PySem.Sem (wp)
namespace Mine.Lake
variable {c:Cx}{Z Z':List Addr}{O O':St}{s s':Shared}{h':Heap}{α β γ δ:Type}
theorem Sd.holdbind{rel:List Addr->α->δ->Prop}{vs:List Value}{r:Res α}{t:Sem β}{u:β->Sem δ}(h:Sd c Z rel r (t>>=u) s):Sd c Z rel r (PySem.holding vs t>>=u) s:=fun hb Γ p hΓ hn=>by
 have:=h hb Γ p hΓ hn
 rw [Sem.wp_bind'] at this ⊢;refine ac (Sem.wp_holding ..) ?_;exact this
theorem Res.bind_ok(r:Res α):(r.bind fun a s=>.ok a s)=r:=by induction r <;> rfl
theorem Sd.eqr{rel:List Addr->α->β->Prop}{r r':Res α}{t:Sem β}(e:r=r')(h:Sd c Z rel r' t s):Sd c Z rel r t s:=e▸h
section
variable {F:Fns}{kk n m:Nat}{k:Kd}{a:AEnv}{env:Env}
theorem Room.units2(Ro:Room c kk n):c.A.units+2<cLine:=by
 have:=Ro.units
 have e:cLine=9900:=by first | rfl | decide
 lia
theorem xq(I:IE F kk n)(Ro:Room c kk n){e:Expr}{lo hi:Option Expr}{r:RE}{rl rh:Option RE}{p pos:Pos}(h:trE m k e=some r)(hl:eT (trE m k) lo=some rl)(hh:eT (trE m k) hi=some rh)(R:Rep c Z O s)(V:EnvR k a env c Z) :
  Sd c Z VR ((F.E a r O).bind fun o s=>(iL (F.E a) rl s).bind fun x s=>(iL (F.E a) rh s).bind fun z s=>ia o x z s) (eval (.Subscript e (.Slice lo hi none p) pos) env) s:=by
 refine ac (arm_eval_Subscript ..) ?_;refine Sd.bind (I _ _ _ _ _ _ _ _ _ _ h R V Ro) fun v O' Z' y s' ex hp hy R'=>?_;refine Sd.holdbind ?_;refine n9 I Ro hl hh R' (V.mono hp) (g:=fun x z s=>ia v x z s) fun x z O'' Z'' vl vu s'' ad hp2 hx hz hs R''=>?_;refine Sd.stand ?_;refine Sd.of_bad fun hb=>?_;have hbox:Box s'' y:=by
  unfold ia at hb;induction e:O''.at v with
  | none=>rw [e] at hb;exact absurd rfl hb
  | some o=>
   rw [e] at hb;have k1:boxO o=true∨nF o x z O''=.bad:=by induction o <;> first | exact .inl rfl | exact .inr rfl
   exact pR R'' (hy.mono hp2) e (k1.elim id fun q=>absurd q hb)
 exact rC hbox rfl (vH R'' (hy.mono hp2) hx hz hs)
theorem xe(I:IE F kk n)(Ro:Room c kk n){op:Operator}{e1 e2:Expr}{r1 r2:RE}{pos:Pos}(h1:trE m k e1=some r1)(h2:trE m k e2=some r2)(R:Rep c Z O s)(V:EnvR k a env c Z) :
  Sd c Z VR ((F.E a r1 O).bind fun x s=>(F.E a r2 s).bind fun y s=>binop op x y s) (eval (.BinOp e1 op e2 pos) env) s:=by
 refine ac (arm_eval_BinOp ..) ?_;refine Sd.bind (I _ _ _ _ _ _ _ _ _ _ h1 R V Ro) fun v O' Z' y s' ex hp hy R'=>?_;refine Sd.bind (Sd.holding (I _ _ _ _ _ _ _ _ _ _ h2 R' (V.mono hp) Ro)) fun v2 O'' Z'' z s'' ex2 hp2 hz R''=>?_;exact Sd.stand (Sd.operate (tL R'' (hy.mono hp2) hz))
theorem yE(I:IE F kk n)(Ro:Room c kk n){op:UnaryOp}{e:Expr}{r:RE}{pos:Pos}(h:trE m k e=some r)(R:Rep c Z O s)(V:EnvR k a env c Z) :
  Sd c Z VR (match op with
   | .Not=>(F.E a r O).bind fun v s=>(fT v s).bind fun b s=>.ok (.bool (!b)) s
   | op=>(F.E a r O).bind fun v s=>rS op v s) (eval (.UnaryOp op e pos) env) s:=by
 refine ac (arm_eval_UnaryOp ..) ?_;have hne:∀ op:UnaryOp,op≠.Not->Sd c Z VR ((F.E a r O).bind fun v s=>rS op v s) (do let v <- eval e env;standAt pos;PySem.holding [v] (unaryOp op v)) s:=fun op U=>by
  refine Sd.bind (I _ _ _ _ _ _ _ _ _ _ h R V Ro) fun v O' Z' y s' ex hp hy R'=>?_;exact Sd.stand (Sd.holding (vO R' hy))
 induction op with
 | Not=>
  refine Sd.bind (I _ _ _ _ _ _ _ _ _ _ h R V Ro) fun v O' Z' y s' ex hp hy R'=>?_;refine Sd.stand (Sd.holding ?_);refine Sd.holding ?_;refine Sd.bind (kh R' hy) fun b O'' Z'' t s'' ex hp2 ht R''=>?_;subst ht;exact Sd.ret R'' rfl
 | _=>exact hne _ (by decide)
theorem xf(I:IE F kk n)(Ro:Room c kk n){op:BoolOp}{pos:Pos}:∀ {es:List Expr} {rs:List RE} {Z:List Addr} {O:St} {s:Shared},allS (trE m k) es=some rs->Rep c Z O s->EnvR k a env c Z->
  Sd c Z VR (kQ F a op rs O) (boolOp pos op (evalEach es env)) s:=by
 intro l_
 induction l_ with
 | nil=>
  intro c1_ c2_ c3_ c4_ h R V
  obtain rfl:=Option.some.inj h;exact Sd.bad
 | cons e t_ ih_=>
  intro c1_ Z O s h R V
  induction t_ using List.casesOn with
  | nil=>
    refine ai (aJ h) fun b r' e1 e2 z4=>?_;subst z4;obtain rfl:=Option.some.inj e2;exact I _ _ _ _ _ _ _ _ _ _ e1 R V Ro
  | cons e' es=>
    refine ai (aJ h) fun b r' e1 e2 z4=>?_;subst z4;refine ai (aJ e2) fun b' r'' e3 e4 z4=>?_;subst z4;refine Sd.bind (I _ _ _ _ _ _ _ _ _ _ e1 R V Ro) fun v O' Z' y s' ex hp hy R'=>?_;refine Sd.stand ?_;refine Sd.bind (Sd.holding (kh R' hy)) fun t O'' Z'' u s'' ex hp2 ht R''=>?_;subst ht;have rest:=ih_ e2 R'' ((V.mono hp).mono hp2);induction op <;> induction u
    ·exact Sd.ret R'' (hy.mono hp2)
    ·exact rest
    ·exact rest
    ·exact Sd.ret R'' (hy.mono hp2)
theorem iD{α β:Type}{l:List β}{z:List (α×β)}(h:zipS ([]:List α) l=some z):l=[]/\z=[]:=by
 induction l using List.casesOn with
 | nil=>exact⟨rfl,(Option.some.inj h).symm⟩
 | cons _ _=>exact aA h
set_option tactic.hygienic true in
theorem ez{α β:Type}{a:α}{l:List α}{r:List β}{z:List (α×β)}(h:zipS (a::l) r=some z):∃ b r' z',r=b::r'/\zipS l r'=some z'/\z=(a,b)::z':=by
 induction r using List.casesOn with
 | nil=>exact aA h
 | cons b r=>
  refine af (Option.map_eq_some_iff.mp h) fun z' e h=>?_;exact(aY b r z' rfl e h.symm)
theorem nY(B:Bse w h₀)(I:IE F kk n)(Ro:Room c kk n){pos:Pos}:∀ {ops:List CmpOp} {es:List Expr} {rs:List RE} {z:List (CmpOp×RE)} {Z:List Addr} {O:St} {s:Shared} {v:AV} {y:Value},allS (trE m k) es=some rs->zipS ops rs=some z->VR Z v y->Rep c Z O s->EnvR k a env c Z->
  Sd c Z (fun _ (b:Bool) (x:Value)=>x=.bool b) (chain F a v z O) (compareChain pos y ops (markedEach ops es (evalEach es env))) s/\
  Sd c Z (fun _ (b:Bool) (x:Bool)=>x=b) (chain F a v z O) (testChain pos y ops (markedEach ops es (evalEach es env))) s:=by
 intro l_
 induction l_ with
 | nil=>
  intro es rs z c4_ c5_ c6_ c7_ c8_ h hz c11_ c12_ c13_
  refine aq (iD hz) fun U z1=>?_;subst z1;exact⟨Sd.bad,Sd.bad⟩
 | cons op t_ ih_=>
  intro es rs z Z O s v y h hz hv R V
  induction t_ using List.casesOn with
  | nil=>
    refine ar (ez hz) fun b r' z' z3 hz' z5=>?_;subst z3;subst z5;refine aq (iD hz') fun z0 z1=>?_;subst z0;subst z1;induction es using List.casesOn with
    | nil=>cases h
    | cons e es=>
     refine ai (aJ h) fun b' r'' e1 e2 e3=>?_;injection e3 with z0_ z1_;subst z0_;subst z1_
     induction es using List.casesOn with
     | cons _ _=>refine ai (aJ e2) fun U U U U q=>?_;exact wl q
     | nil=>
      have hm:markedEach [op] [e] (evalEach [e] env)=[eval e env]:=by
       show [markedBehindIn op e (eval e env)]=_;exact ac (markedBehindIn_of_false (tY e1 op) ..) rfl
      refine ac hm ?_;constructor
      ·refine Sd.bind (Sd.holding (I _ _ _ _ _ _ _ _ _ _ e1 R V Ro)) fun v2 O' Z' y2 s' ex hp hy R'=>?_;exact Sd.stand (Sd.operate (nZ B R' (hv.mono hp) hy Ro.units2))
      ·refine Sd.bind (Sd.holding (I _ _ _ _ _ _ _ _ _ _ e1 R V Ro)) fun v2 O' Z' y2 s' ex hp hy R'=>?_;refine Sd.stand ?_;refine Sd.eqr (Res.bind_ok _).symm ?_;refine Sd.bind (Sd.operate (nZ B R' (hv.mono hp) hy Ro.units2)) fun t O'' Z'' x s'' ex2 hp2 hx R''=>?_;subst hx;exact Sd.holding (Sd.leaf fun U=>wpAny_truthy_bool (okP.mk R'' rfl))
  | cons op' ops=>
    refine ar (ez hz) fun b r' z' z3 hz' z5=>?_;subst z3;subst z5;refine ar (ez hz') fun b2 r2 z2 z3 hz2 z5=>?_;subst z3;subst z5;induction es using List.casesOn with
    | nil=>cases h
    | cons e es=>
     refine ai (aJ h) fun b' r'' e1 e2 e3=>?_;injection e3 with z0_ z1_;subst z0_;subst z1_
     induction es using List.casesOn with
     | nil=>cases e2
     | cons e' es=>
      have hm:markedEach (op::op'::ops) (e::e'::es) (evalEach (e::e'::es) env)=eval e env::markedEach (op'::ops) (e'::es) (evalEach (e'::es) env):=rfl
      refine ac hm ?_;have hsh:∃ t ts,markedEach (op'::ops) (e'::es) (evalEach (e'::es) env)=t::ts:=by
       induction ops using List.casesOn with
       | nil=>
        induction es using List.casesOn with
        | nil=>exact(eY _ _ rfl)
        | cons _ _=>exact(eY _ _ rfl)
       | cons _ _=>exact(eY _ _ rfl)
      refine gk hsh fun t ts hts=>?_;clear hsh;have tail:∀ v2 O' Z' y2 s',VR Z' v2 y2->Rep c Z' O' s'->EnvR k a env c Z'->_:=fun v2 O' Z' y2 s' hy R' V'=>ih_ (v:=v2) (y:=y2) (s:=s') e2 hz' hy R' V';constructor
      ·refine ac hts ?_;refine Sd.bind (Sd.holding (I _ _ _ _ _ _ _ _ _ _ e1 R V Ro)) fun v2 O' Z' y2 s' ex hp hy R'=>?_;refine Sd.stand ?_;refine Sd.bind (Sd.holding (nZ B R' (hv.mono hp) hy Ro.units2)) fun t' O'' Z'' x s'' ex2 hp2 hx R''=>?_;subst hx;refine Sd.release ?_;intro hb;refine ae (au (al (wpAny_truthy_bool ?_)));induction t' with
       | true=>
        refine ew (fun U=>?_) (fun q=>absurd rfl q);refine bo hts ?_;exact(tail _ _ _ _ _ (hy.mono hp2) R'' ((V.mono hp).mono hp2)).1 hb
       | false=>exact ew (fun q=>by exact gw q) fun U=>ah (okP.mk R'' rfl)
      ·refine ac hts ?_;refine Sd.bind (Sd.holding (I _ _ _ _ _ _ _ _ _ _ e1 R V Ro)) fun v2 O' Z' y2 s' ex hp hy R'=>?_;refine Sd.stand ?_;refine Sd.bind (Sd.holding (nZ B R' (hv.mono hp) hy Ro.units2)) fun t' O'' Z'' x s'' ex2 hp2 hx R''=>?_;subst hx;refine Sd.release ?_;intro hb;refine ae (au (al (wpAny_truthy_bool ?_)));induction t' with
       | true=>
        refine ew (fun U=>?_) (fun q=>absurd rfl q);refine bo hts ?_;exact(tail _ _ _ _ _ (hy.mono hp2) R'' ((V.mono hp).mono hp2)).2 hb
       | false=>exact ew (fun q=>by exact gw q) fun U=>ah (okP.mk R'' rfl)
theorem jl(B:Bse w h₀)(I:IE F kk n)(Ro:Room c kk n){pos:Pos}{l:Expr}{rl:RE}{ops:List CmpOp}{es:List Expr}{rs:List RE}{z:List (CmpOp×RE)}(hl:trE m k l=some rl)(h:allS (trE m k) es=some rs)(hz:zipS ops rs=some z)(R:Rep c Z O s)(V:EnvR k a env c Z) :
  Sd c Z VR ((F.E a rl O).bind fun x s=>(chain F a x z s).bind fun b s=>.ok (.bool b) s) (eval (.Compare l ops es pos) env) s/\
  Sd c Z (fun _ (b:Bool) (x:Bool)=>x=b) ((F.E a rl O).bind fun x s=>chain F a x z s) (isTrue (.Compare l ops es pos) env (eval (.Compare l ops es pos) env)) s:=by
 constructor
 ·refine ac (arm_eval_Compare ..) ?_;refine Sd.bind (I _ _ _ _ _ _ _ _ _ _ hl R V Ro) fun v O' Z' y s' ex hp hy R'=>?_;intro hb;have hb':chain F a v z O'≠.bad:=fun q=>hb (by refine ac q ?_;rfl);refine am ((nY B I Ro (pos:=pos) h hz hy R' (V.mono hp)).1 hb') (fun x s2 hx=>?_) fun x s2 hx=>?_
  ·induction q:chain F a v z O' with
   | ok b O2=>
    rw [q] at hx;refine az hx fun Z2 x1 z2 x3=>?_;clear hx;subst z2;exact(aH Z2 x1 rfl x3)
   | exc C O2=>rw [q] at hx;exact hx.elim
   | bad=>rw [q] at hx;exact hx.elim
  ·induction q:chain F a v z O' with
   | ok b O2=>rw [q] at hx;exact hx.elim
   | exc C O2=>rw [q] at hx;exact hx
   | bad=>rw [q] at hx;exact hx.elim
 ·refine ac (arm_isTrue_Compare ..) ?_;refine Sd.bind (I _ _ _ _ _ _ _ _ _ _ hl R V Ro) fun v O' Z' y s' ex hp hy R'=>?_;exact(nY B I Ro (pos:=pos) h hz hy R' (V.mono hp)).2
theorem vt(IT':IT F kk n)(Ro:Room c kk n){op:BoolOp}:∀ {es:List Expr} {rs:List RE} {Z:List Addr} {O:St} {s:Shared},allS (trE m k) es=some rs->Rep c Z O s->EnvR k a env c Z->
  Sd c Z (fun _ (b:Bool) (x:Bool)=>x=b) (dP F a op rs O) (allTrue op es env) s:=by
 intro l_
 induction l_ with
 | nil=>
  intro c1_ c2_ c3_ c4_ h R V
  obtain rfl:=Option.some.inj h;exact Sd.ret R rfl
 | cons e es ih_=>
  intro c1_ Z O s h R V
  refine ai (aJ h) fun b r' e1 e2 z4=>?_;subst z4;refine ac (arm_allTrue_cons ..) ?_;refine Sd.bind (IT' _ _ _ _ _ _ _ _ _ _ e1 R V Ro) fun v O' Z' y s' ex hp hy R'=>?_;subst hy;have rest:=ih_ e2 R' (V.mono hp);induction op <;> induction y
  ·exact Sd.ret R' rfl
  ·exact rest
  ·exact rest
  ·exact Sd.ret R' rfl
theorem uu(I:IE F kk n)(IT':IT F kk n)(Ro:Room c kk n){t x y:Expr}{rt rx ry:RE}{pos:Pos}(ht:trE m k t=some rt)(hx:trE m k x=some rx)(hy:trE m k y=some ry)(R:Rep c Z O s)(V:EnvR k a env c Z) :
  Sd c Z VR ((F.T a rt O).bind fun b s=>if b then F.E a rx s else F.E a ry s) (eval (.IfExp t x y pos) env) s/\
  Sd c Z (fun _ (b:Bool) (x:Bool)=>x=b) ((F.T a rt O).bind fun b s=>if b then F.T a rx s else F.T a ry s) (isTrue (.IfExp t x y pos) env (eval (.IfExp t x y pos) env)) s:=by
 constructor
 ·refine ac (arm_eval_IfExp ..) ?_;refine Sd.bind (IT' _ _ _ _ _ _ _ _ _ _ ht R V Ro) fun v O' Z' z s' ex hp hz R'=>?_;subst hz;induction z
  ·exact I _ _ _ _ _ _ _ _ _ _ hy R' (V.mono hp) Ro
  ·exact I _ _ _ _ _ _ _ _ _ _ hx R' (V.mono hp) Ro
 ·refine ac (arm_isTrue_IfExp ..) ?_;refine Sd.bind (IT' _ _ _ _ _ _ _ _ _ _ ht R V Ro) fun v O' Z' z s' ex hp hz R'=>?_;subst hz;induction z
  ·exact IT' _ _ _ _ _ _ _ _ _ _ hy R' (V.mono hp) Ro
  ·exact IT' _ _ _ _ _ _ _ _ _ _ hx R' (V.mono hp) Ro
theorem vJ(I:IE F kk n)(Ro:Room c kk n){es:List Expr}{rs:List RE}{pos:Pos}(h:allS (trE m k) es=some rs)(R:Rep c Z O s)(V:EnvR k a env c Z) :
  Sd c Z VR ((bx (F.E a) rs O).bind fun vs s=>if bg vs then s.new (.li vs) else .bad) (eval (.List es pos) env) s:=by
 refine ac (arm_eval_List ..) ?_;refine Sd.stand ?_;refine Sd.bind (gj I Ro (pos:=pos) h R V) fun vs O' Z' xs s' ex hp hx R'=>?_;split
 ·rename_i hk
  exact jn R' hx hk
 ·exact Sd.bad
theorem xu(I:IE F kk n)(Ro:Room c kk n){es:List Expr}{rs:List RE}{pos:Pos}{b:Nat}(h:allS (trE m k) es=some rs)(R:Rep c Z O s)(V:EnvR k a env c Z) :
  Sd c Z VR ((bx (F.E a) rs O).bind fun vs s=>if bg vs then s.new (.tu vs) else .bad) (eval (.Tuple es b pos) env) s:=by
 refine ac (arm_eval_Tuple ..) ?_;refine Sd.stand ?_;refine Sd.bind (gj I Ro (pos:=pos) h R V) fun vs O' Z' xs s' ex hp hx R'=>?_;split
 ·rename_i hk
  exact mX R' hx hk
 ·exact Sd.bad
end
def IC(C:b9)(kk n:Nat):Prop:=∀ c Z O s f args y xs,Rep c Z O s->Room c kk n->VR Z f y->RL (VR Z) args xs->
 Sd c Z VR (C f args O) (call y xs) s/\(C f args O≠.bad->∀ (E:Value->Shared->Prop) (Q:Keeper->Shared->Prop),(∀ k,Q k s)->wpAny (model prog w) c.A (keeperOf y) Q E s)
section
variable {C:b9}{F:Fns}{kk n m:Nat}{k:Kd}{a:AEnv}{env:Env}
theorem vB(IC':IC C kk n)(I:IE F kk n)(Ro:Room c kk n){f:Expr}{rf:RE}{es:List Expr}{rs:List RE}{pos:Pos}(hf:trE m k f=some rf)(h:allS (trE m k) es=some rs)(R:Rep c Z O s)(V:EnvR k a env c Z) :
  Sd c Z VR ((F.E a rf O).bind fun g s=>(bx (F.E a) rs s).bind fun as s=>C g as s) (do callWith pos (<- eval f env) [] (backTo pos (starEach es env)) []) s:=by
 refine Sd.bind (I _ _ _ _ _ _ _ _ _ _ hf R V Ro) fun g O' Z' y s' ex hp hy R'=>?_;refine eV (g:=fun as s=>C g as s) ⟨_,h⟩ (gj I Ro h R' (V.mono hp)) fun vs O'' Z'' xs s'' ex2 hp2 hxs R''=>?_;exact IC' c Z'' O'' s'' g vs y xs R'' Ro (hy.mono hp2) hxs
theorem CalR.mono(hp:Z<+:Z'){cal:Cal}{f:Value×List Value}(h:CalR Z cal f):CalR Z' cal f:=by
 induction h with
 | fn h=>exact .fn (h.mono hp)
 | li h hid=>exact .li (bt hp h) hid
 | di h hid=>exact .di (bt hp h) hid
theorem tQ(B:Bse w h₀)(IC':IC C kk n)(I:IE F kk n)(Ro:Room c kk n){o:Expr}{ro:RE}{attr:Str}{x:Nm}{es:List Expr}{rs:List RE}{ap pos:Pos}(ho:trE m k o=some ro)(hx:nmOf attr=some x)(h:allS (trE m k) es=some rs)
  (hl:(ap.endLine==pos.line)=true)(hlen:es.length<30)(R:Rep c Z O s)(V:EnvR k a env c Z) :
  Sd c Z VR ((F.E a ro O).bind fun v s=>match fJ v x s with
   | some (.fn f self)=>(bx (F.E a) rs s).bind fun as s=>C (.base f) (self::as) s
   | some (.bm n i)=>(bx (F.E a) rs s).bind fun as s=>bB n i as s
   | .none=>.bad) (eval (.Call (.Attribute o attr ap) es [] pos) env) s:=by
 refine ac (arm_eval_Call ..) (ac (kG ho ..) ?_);refine Sd.bind (I _ _ _ _ _ _ _ _ _ _ ho R V Ro) fun v O' Z' y s' ex hp hy R'=>?_;refine Sd.stand ?_;induction e:fJ v x O' with
 | none=>exact Sd.bad
 | some cal=>
  intro hb
  unfold methodCall;have hfew:methodCallForm (es.length+([]:List Keyword).length) (backTo pos (starEach es env)) (backToKw pos (keywordEach [] env))=true:=by
   have h1:(backTo pos (starEach es env)).all (fun p=>!p.1)=true:=by
    have:=dB (env:=env) (pos:=pos) h
    refine ac (List.all_eq_not_any_not ..) ?_
    simpa using this
   show ((backTo pos (starEach es env)).all (fun p=>!p.1)&&true&&decide (es.length+0+0<30))=true;refine ac h1 ?_;simp;omega
  refine ac hfew ?_;refine bo (aB hx ..) ?_;refine ae (au (al (s_meth B R' hy e fun f hf=>?_)));have hpos:methodCallPos true o env ap pos=pure pos:=by
   unfold methodCallPos;refine ac hl ?_;rfl
  refine ac hpos ?_;refine ae (ah ?_);induction cal with
  | fn g self=>
   cases hf with
   | fn hself=>
    refine eV (g:=fun as s=>C (.base g) (self::as) s) ⟨_,h⟩ (gj I Ro h R' (V.mono hp)) (fun vs O'' Z'' xs s'' ex2 hp2 hxs R''=>?_) hb;exact IC' c Z'' O'' s'' (.base g) (self::vs) (.ref g) (_::xs) R'' Ro rfl ⟨hself.mono hp2,hxs⟩
  | bm nm i=>
   refine eV (g:=fun as s=>bB nm i as s) ⟨_,h⟩ (gj I Ro h R' (V.mono hp)) (fun vs O'' Z'' xs s'' ex2 hp2 hxs R''=>?_) hb;refine⟨tN B R'' (hf.mono hp2) hxs Ro.units2,fun U E Q hQ=>?_⟩
   cases hf <;> exact wpAny_pure (hQ _)
theorem h_{kvs:List (Nm×RE)}:∀ {ks:List (Option Expr)} {es:List Expr} {names:List Nm} {rs:List RE} {pos:Pos},allS nK ks=some names->allS (trE m k) es=some rs->ks.length=es.length->
  ∃ pairs:List (Sem Value×Sem Value),(evalEachOpt ks env).zip ((evalEach es env).map fun v=>do let x <- v;standAt pos;pure x)=pairs.map (fun p=>(some p.1,p.2))/\pairs.length=es.length/\
   pairs.map (·.1)=names.map (fun x=>mkText x.str)/\pairs.map (·.2)=(evalEach es env).map fun v=>do let x <- v;standAt pos;pure x
 | [],[],names,rs,pos,h1,h2,_=>by obtain rfl:=Option.some.inj h1;obtain rfl:=Option.some.inj h2;exact(bR [] rfl rfl rfl rfl)
 | q::ks,e::es,names,rs,pos,h1,h2,hl=>by
  refine ai (aJ h1) fun x names' e1 e2 z4=>?_;subst z4;refine ai (aJ h2) fun r rs' e3 e4 z4=>?_;subst z4;refine aS (h_ (kvs:=kvs) (pos:=pos) e2 e4 (by simpa using hl)) fun pairs a1 a2 a3 a4=>?_
  cases vl_inv (p:=InvK q) e1 with
  | str hx=>
   have hs:=aB hx
   subst hs;refine⟨(mkText x.str,do let x <- eval e env;standAt pos;pure x)::pairs,?_,congrArg (·+1) a2,by rw [List.map_cons,List.map_cons,a3],?_⟩
   ·show (some (eval (.Constant (.str x.str) _ _) env),_)::_=_;rw [List.map_cons,<- a1];rfl
   ·show _::_=_::_;exact ac a4 rfl
 | [],_::_,_,_,_,_,_,hl=>by cases hl
 | _::_,[],_,_,_,_,_,hl=>by cases hl
theorem m0{K:Type}[DecidableEq K]{acc:List (K×Value)}{k:K}{v:Value}(h:k∉acc.map (·.1)):stored acc k v=acc++[(k,v)]:=by
 unfold stored;rw [if_neg];intro q;refine af (List.any_eq_true.mp q) fun p hp e=>?_;exact h (List.mem_map.mpr (ag p hp (of_decide_eq_true e)))
theorem mM{K:Type}[DecidableEq K]:∀ (kvs acc:List (K×Value)),((acc++kvs).map (·.1)).Nodup->merged acc kvs=acc++kvs:=by
 intro l_
 induction l_ with
 | nil=>
  intro acc c2_
  simp [merged]
 | cons p_ kvs ih_=>
  intro acc h
  have e:acc++(p_.1,p_.2)::kvs=(acc++[(p_.1,p_.2)])++kvs:=by simp
  have hk:p_.1∉acc.map (·.1):=by
   rw [List.map_append] at h;intro q;exact(List.nodup_append.mp h).2.2 _ q _ (List.mem_cons_self ..) rfl
  show merged (stored acc p_.1 p_.2) kvs=_;exact ac (m0 hk ..) (ac (ih_ _ (by refine bo e ?_;exact h) ..) (bo (e ..) rfl))
theorem tR(I:IE F kk n)(Ro:Room c kk n){pos:Pos}:∀ {es:List Expr} {rs:List RE} {names:List Nm} {pairs:List (Sem Value×Sem Value)} {Z:List Addr} {O:St} {s:Shared},allS (trE m k) es=some rs->pairs.map (·.1)=names.map (fun x=>mkText x.str)->
  pairs.map (·.2)=((evalEach es env).map fun v=>do let x <- v;standAt pos;pure x)->Rep c Z O s->EnvR k a env c Z->
  Sd c Z (fun Z vs ps=>∃ xs,RL (VR Z) vs xs/\Carries (strKind prog w) ps ((names.map Nm.str).zip xs)/\names.length=xs.length) (bx (F.E a) rs O) (evalPairs pairs) s:=by
 intro l_
 induction l_ with
 | nil=>
  intro c1_ names pairs c4_ c5_ c6_ h h1 h2 R V
  obtain rfl:=Option.some.inj h;have:pairs=[]:=by simpa [evalEach] using h2
  subst this;have:names=[]:=by simpa using h1.symm
  subst this;exact Sd.ret R (aH [] trivial trivial rfl)
 | cons e es ih_=>
  intro c1_ names pairs Z O s h h1 h2 R V
  refine ai (aJ h) fun b r' e1 e2 z4=>?_;subst z4;induction pairs using List.casesOn with
  | nil=>exact wl h2
  | cons p pairs=>
   obtain ⟨pk,pv⟩:=p
   induction names using List.casesOn with
   | nil=>exact wl h1.symm
   | cons x names=>
    simp only [List.map_cons,List.cons.injEq] at h1 h2;obtain ⟨rfl,h1⟩:=h1;obtain ⟨hv,h2'⟩:=List.cons.inj (show pv::_=(do let x <- eval e env;standAt pos;pure x)::List.map _ (evalEach es env) from h2);subst hv;rw [evalPairs];intro hb;refine ae (al (wpAny_mkText ?_));have R0:Rep c Z O { s with toks:=s.toks+1 }:=R.toks;have main:Sd c Z (fun Z vs ps=>∃ xs,RL (VR Z) vs xs/\Carries (strKind prog w) ps (((x::names).map Nm.str).zip xs)/\(x::names).length=xs.length) ((F.E a b O).bind fun b s=>(bx (F.E a) r' s).bind fun r s=>.ok (b::r) s)
      (PySem.holding [Value.str x.str s.toks] (do let x <- eval e env;standAt pos;pure x)>>=fun vv=>do return (Value.str x.str s.toks,vv)::(<- PySem.holding [Value.str x.str s.toks,vv] (evalPairs pairs))) { s with toks:=s.toks+1 }:=by
     refine Sd.bind (rel:=VR) (Sd.holding (Sd.eqr (Res.bind_ok _).symm (Sd.bind (I _ _ _ _ _ _ _ _ _ _ e1 R0 V Ro) fun v O' Z' y s' ex hp hy R'=>Sd.stand (Sd.ret R' hy)))) fun v O' Z' y s' ex hp hy R'=>?_;refine Sd.bind (Sd.holding (ih_ (names:=names) e2 h1 h2' R' (V.mono hp))) fun vs O'' Z'' ps s'' ex2 hp2 hq R''=>?_;refine az hq fun xs q1 q2 q3=>?_;clear hq;exact Sd.ret R'' (aH (y::xs) ⟨hy.mono hp2,q1⟩ (ao (strKind_is prog w _ _) rfl q2) (by simp [q3]))
    exact main hb
theorem wf{names:List Nm}{vs:List AV}{xs:List Value}(h:RL (VR Z) vs xs):RL (uC Z) (names.zip vs) ((names.map Nm.str).zip xs):=by
 induction names generalizing vs xs with
 | nil=>trivial
 | cons x names ih=>
  induction vs using List.casesOn with
  | nil=>induction xs using List.casesOn with | nil=>trivial | cons _ _=>exact h.elim
  | cons v vs=>
   induction xs using List.casesOn with
   | nil=>exact h.elim
   | cons y xs=>exact⟨⟨rfl,h.1⟩,ih h.2⟩
theorem lp{names:List Nm}{xs:List Value}(h:names.length=xs.length):((names.map Nm.str).zip xs).map (·.1)=names.map Nm.str:=by
 rw [List.map_fst_zip];simp [h]
theorem pi{names:List Nm}(h:names.Nodup):(names.map Nm.str).Nodup:=by
 induction names with
 | nil=>exact List.nodup_nil
 | cons x l ih=>
  refine aq (List.nodup_cons.mp h) fun h1 h2=>?_;refine List.nodup_cons.mpr ⟨fun q=>?_,ih h2⟩;refine af (List.mem_map.mp q) fun y hy e=>?_;exact h1 (eu e▸hy)
theorem rZ{α β:Type}:∀ {l:List α} {r:List β} {z:List (α×β)},zipS l r=some z->l.length=r.length/\z.map (·.1)=l/\z.map (·.2)=r:=by
 intro l_
 induction l_ with
 | nil=>
  intro r z h
  refine aq (iD h) fun z0 z1=>?_;subst z0;subst z1;exact(ao rfl rfl rfl)
 | cons a l ih_=>
  intro r z h
  refine ar (ez h) fun b r' z' z3 h' z5=>?_;subst z3;subst z5;refine aM (ih_ h') fun e1 e2 e3=>?_;exact(ao (by simp [e1]) (by simp [e2]) (by simp [e3]))
theorem kE{α β:Type}{f:α->Option β}:∀ {l:List α} {r:List β},allS f l=some r->l.length=r.length:=by
 intro l_
 induction l_ with
 | nil=>
  intro r h
  obtain rfl:=Option.some.inj h;rfl
 | cons a l ih_=>
  intro r h
  refine ai (aJ h) fun b r' e1 e2 z4=>?_;subst z4;simp [ih_ e2]
theorem mz{o:Obj}(h:o.IsDictOf (intKind prog w) []):o.IsDictOf (strKind prog w) []:=by
 refine aV h fun es ep h1 h2 h3 h4 h5=>?_;clear h;have:es.toList=[]:=by
  induction h4':es.toList using List.casesOn with
  | nil=>rfl
  | cons x xs=>rw [h4'] at h4;cases h4
 have he:es=#[]:=Array.toList_inj.mp (by exact this)
 subst he;exact(cJ #[] ep h1 h2 (fun U he=>(nomatch (Array.not_mem_empty _ he))) .nil List.nodup_nil)
set_option backward.match.sparseCases false in
noncomputable def iW(d:AV)(kvs:List (Nm×RE))(vs:List AV)(s:St):Res AV:=match d,kvs,s.at d with
 | d,[],_=>.ok d s
 | .obj i,kvs,some (.idd [])=>.ok (.obj i) (s.set i (.sd ((kvs.map (·.1)).zip vs)))
 | _,_,_=>.bad
theorem vD(I:IE F kk n)(Ro:Room c kk n){ks:List (Option Expr)}{es:List Expr}{names:List Nm}{rs:List RE}{z:List (Nm×RE)}{pos:Pos}
  (h1:allS nK ks=some names)(h2:allS (trE m k) es=some rs)(hz:zipS names rs=some z)(R:Rep c Z O s)(V:EnvR k a env c Z) :
  Sd c Z VR (if z.length<=15/\(z.map (·.1)).Nodup then (O.new (.idd [])).bind fun d s=>(bx (F.E a) (z.map (·.2)) s).bind fun vs s=>iW d z vs s else .bad) (eval (.Dict ks es pos) env) s:=by
 by_cases hc:z.length<=15/\(z.map (·.1)).Nodup
 rotate_left
 ·exact ac (if_neg hc ..) Sd.bad
 refine ac (if_pos hc ..) ?_;refine aM (rZ hz) fun z1 z2 z3=>?_;have l1:=kE h1;have l2:=kE h2;refine aS (h_ (kvs:=z) (env:=env) (pos:=pos) h1 h2 (by lia)) fun pairs a1 a2 a3 a4=>?_;have hρ:(Z++[s.heap.objs.size])[O.n]?=some s.heap.objs.size:=by
  rw [List.getElem?_append_right (ac (R.len ..) (Nat.le_refl _)),R.len,Nat.sub_self];rfl
 have R0:Rep c (Z++[s.heap.objs.size]) (O.push (.idd [])) { s with heap:=s.heap.push { cls:=.type "dict",data:=.dict #[] } }:=
  R.push (t':=s.toks) rfl (ag [] (cJ #[] 0 (ao rfl rfl rfl) rfl (fun U he=>(nomatch (Array.not_mem_empty _ he))) .nil List.nodup_nil) trivial)
 have hp0:Z<+:Z++[s.heap.objs.size]:=List.prefix_append ..
 refine ac (arm_eval_Dict ..) (ac (a1 ..) ?_);induction z using List.casesOn with
 | nil=>
  have hn:names=[]:=by exact z2.symm
  have hr:rs=[]:=by exact z3.symm
  subst hn hr;have:pairs=[]:=List.eq_nil_of_length_eq_zero (by rw [a2];have:=l2;exact this);subst this;refine Sd.stand (Sd.leaf fun U=>?_);show wpAny _ _ newDict _ _ _;refine wpAny_newObj_type ?_ (by first | exact Nat.zero_le _ | trivial);exact okP.mk' hp0 R0 (ag _ hρ rfl)
 | cons p z=>
  have hne:pairs≠[]:=fun q=>by
   subst q;have:es=[]:=List.eq_nil_of_length_eq_zero a2.symm;subst this;injection h2 with z0_;subst z0_
   exact wl z3.symm
  have hpl:pairs.length<=15:=by
   have e1:=congrArg List.length z2
   have e2:=hc.1
   simp at e1 e2
   lia
  refine Sd.stand ?_;intro hb;refine ac (dictDisplay_pairs pairs hne (by lia) ..) ?_;rw [z3] at hb ⊢;refine ae ?_;refine ae (al (wpAny_alloc ?_));refine ae (au ?_);refine ac (if_pos hpl ..) ?_;have V0:EnvR k a env c (Z++[s.heap.objs.size]):=V.mono hp0;have hb':bx (F.E a) rs (O.push (.idd []))≠.bad:=fun q=>hb (by show (Res.bind (bx (F.E a) rs (O.push (.idd []))) _)=.bad;rw [q];rfl);refine ae (am (tR I Ro (names:=names) h2 a3 a4 R0 V0 hb') (fun ps s1 g1=>?_) fun e s1 g1=>?_)
  ·induction q:bx (F.E a) rs (O.push (.idd [])) with
   | bad=>rw [q] at g1;exact g1.elim
   | exc C O1=>rw [q] at g1;exact g1.elim
   | ok vs O1=>
    rw [q] at g1;refine az g1 fun Z1 q1 z2 R1=>?_;clear g1;refine az z2 fun xs q2 q3 q4=>?_;clear z2;have hb2:(iW (.obj O.n) (p::z) vs O1)≠.bad:=fun r=>hb (by
      show (Res.bind (bx (F.E a) rs (O.push (.idd []))) _)=.bad;exact ac (q ..) (r))
    have hat:O1.H O.n=some (.idd []):=by
     unfold iW at hb2;have e:O1.at (.obj O.n)=O1.H O.n:=rfl;rw [e] at hb2;induction q2:O1.H O.n with
     | none=>rw [q2] at hb2;exact absurd rfl hb2
     | some o=>
      rw [q2] at hb2;induction o with
      | idd l=>induction l using List.casesOn with | nil=>rfl | cons _ _=>exact absurd rfl hb2
      | _=>exact absurd rfl hb2
    refine aK (R1.idd hat) fun a1' o kvs r1 ho hd hk=>?_;have:kvs=[]:=by induction kvs using List.casesOn with | nil=>rfl | cons _ _=>exact hk.elim
    subst this;have e1:=bt q1 hρ;rw [e1] at r1;obtain rfl:=Option.some.inj r1;refine au (ae (al (wpAny_storeAll (knd:=strKind prog w) ps _ [] s1 _ q3 (Heap.dictOf_iff.mpr (ag o ho (mz hd))) ?_ fun h' hm hs=>?_)))
    ·refine ac (sizeLine_eq ..) ?_;have e2:=hc.1;have e1:=congrArg List.length z2;simp at e1 e2 ⊢;lia
    ·refine ah (ah (ah ?_));have hres:(iW (.obj O.n) (p::z) vs O1)=.ok (.obj O.n) (O1.set O.n (.sd (((p::z).map (·.1)).zip vs))):=by
      unfold iW;exact ac (show O1.at (.obj O.n)=some (.idd []) from hat ..) rfl
     have hm':h'.DictOf (strKind prog w) s.heap.objs.size ((names.map Nm.str).zip xs):=by
      rw [mM _ _ (by
       refine ac (lp q4 ..) ?_;exact pi (bo (z2 ..) hc.2))] at hm
      exact hm
     have R2:=R1.setSd (t':=s1.toks+ps.length) (cV hat rfl) e1 hm' hs (wf (names:=names) q2)
     have fin:okP c Z VR (.ok (.obj O.n) (O1.set O.n (.sd (((p::z).map (·.1)).zip vs)))) (.ref s.heap.objs.size) { s1 with heap:=h',toks:=s1.toks+ps.length }:=by
      refine ac (z2 ..) ?_;exact okP.mk' (hp0.trans q1) R2 (ag _ e1 rfl)
     show okP c Z VR (Res.bind (bx (F.E a) rs (O.push (.idd []))) _) _ _;refine ac (q ..) ?_;show okP c Z VR (iW (.obj O.n) (p::z) vs O1) _ _;refine ac (hres ..) ?_;exact fin
  ·show oV c Z (Res.bind (bx (F.E a) rs (O.push (.idd []))) _) _ _;induction q:bx (F.E a) rs (O.push (.idd [])) with
   | bad=>rw [q] at g1;exact g1.elim
   | ok vs O1=>rw [q] at g1;exact g1.elim
   | exc C O1=>rw [q] at g1;exact g1.pre hp0
end
abbrev UR:List Addr->Unit->Unit->Prop:=fun U U U=>True
section
variable {C:b9}{F:Fns}{kk n m:Nat}{k:Kd}{a:AEnv}{env:Env}
theorem po{t:Expr}{r:RT1}(h:trT1 m k t=some r)(p:Pos)(e:Expr):t≠.Starred e p:=by
 intro q;subst q;exact aA h
theorem cS{t:Expr}{r:RT1}(h:trT1 m k t=some r)(rest:List Expr)(env:Env):assignEach (t::rest) env=(false,assign t env)::assignEach rest env:=by
 cases t <;> first | rfl | exact absurd rfl (po h _ _)
theorem ke(B:Bse w h₀)(I:IE F kk n)(Ro:Room c kk n){t:Expr}{r:RT1}{v:AV}{y:Value}(h:trT1 m k t=some r)(hv:VR Z v y)(R:Rep c Z O s)(V:EnvR k a env c Z) :
  Sd c Z UR (asg1 F a r v O) (assign t env y) s:=by
 induction trT1_i h with
 | loc hx hk=>
  obtain rfl:=aB hx;refine ac (arm_assign_Name ..) ?_;exact Sd.stand (rD R V hk hv)
 | cel hx hk=>
  obtain rfl:=aB hx;refine ac (arm_assign_Name ..) ?_;exact Sd.stand (vP R V hk hv)
 | attr h1 h2=>
  refine ac (arm_assign_Attribute ..) ?_;refine Sd.bind (Sd.holding (I _ _ _ _ _ _ _ _ _ _ h1 R V Ro)) fun v2 O' Z' z s' ex hp hz R'=>?_;refine Sd.stand ?_;refine bo (aB h2 ..) ?_;refine Sd.eqr (Res.bind_ok _).symm ?_;refine Sd.bind (Sd.holding (rz (C:=0) (d:=0) (i:=0) (l:=[]) B R' hz (hv.mono hp))) fun U O'' Z'' U s'' ex2 hp2 U R''=>?_;exact Sd.leaf fun U=>wpAny_release (okP.mk R'' trivial)
 | slc h1 h2 h3=>
  refine ac (arm_assign_Subscript ..) ?_;refine Sd.bind (Sd.holding (I _ _ _ _ _ _ _ _ _ _ h1 R V Ro)) fun v2 O' Z' z s' ex hp hz R'=>?_;refine Sd.holdbind ?_;refine n9 I Ro h2 h3 R' (V.mono hp) (g:=fun x z s=>ki v2 x z v s) fun x u O'' Z'' vl vu s'' ad hp2 hx hu hs R''=>?_;refine Sd.stand ?_;refine Sd.eqr (Res.bind_ok _).symm ?_;refine Sd.bind (Sd.holding (vM R'' (hz.mono hp2) ((hv.mono hp).mono hp2) hx hu hs)) fun U O3 Z3 U s3 ex2 hp3 U R3=>?_;exact Sd.leaf fun U=>wpAny_release (okP.mk R3 trivial)
 | sub h1 h2=>
  refine ac (arm_assign_Subscript ..) ?_;refine Sd.bind (Sd.holding (I _ _ _ _ _ _ _ _ _ _ h1 R V Ro)) fun v2 O' Z' z s' ex hp hz R'=>?_;refine Sd.bind (Sd.holding (I _ _ _ _ _ _ _ _ _ _ h2 R' (V.mono hp) Ro)) fun v3 O'' Z'' u s'' ex2 hp2 hu R''=>?_;refine Sd.stand ?_;refine Sd.eqr (Res.bind_ok _).symm ?_;refine Sd.bind (Sd.holding (rA R'' (hz.mono hp2) hu ((hv.mono hp).mono hp2))) fun U O3 Z3 U s3 ex3 hp3 U R3=>?_;exact Sd.leaf fun U=>wpAny_release (okP.mk R3 trivial)
theorem rc(B:Bse w h₀)(I:IE F kk n)(Ro:Room c kk n):∀ {ts:List Expr} {rs:List RT1} {vs:List AV} {ys:List Value} {Z:List Addr} {O:St} {s:Shared},allS (trT1 m k) ts=some rs->RL (VR Z) vs ys->Rep c Z O s->EnvR k a env c Z->
  Sd c Z UR (asgL F a rs vs O) (assignInOrder ((assignEach ts env).map (·.2)) ys) s:=by
 intro l_
 induction l_ with
 | nil=>
  intro c1_ vs ys c4_ c5_ c6_ h hv R V
  obtain rfl:=Option.some.inj h;induction vs using List.casesOn with
  | nil=>exact Sd.ret R trivial
  | cons _ _=>exact Sd.bad
 | cons t ts ih_=>
  intro c1_ vs ys Z O s h hv R V
  refine ai (aJ h) fun r rs e1 e2 z4=>?_;subst z4;induction vs using List.casesOn with
  | nil=>exact Sd.bad
  | cons v vs=>
   induction ys using List.casesOn with
   | nil=>exact hv.elim
   | cons y ys=>
    refine ac (cS e1 ..) ?_;refine Sd.bind (Sd.holding (ke B I Ro e1 hv.1 R V)) fun U O' Z' U s' ex hp U R'=>?_;exact ih_ e2 (hv.2.mono fun U U z=>z.mono hp) R' (V.mono hp)
theorem gV:∀ {ts:List Expr} {rs:List RT1},allS (trT1 m k) ts=some rs->(assignEach ts env).length=rs.length/\(assignEach ts env).findIdx? (·.1)=none:=by
 intro l_
 induction l_ with
 | nil=>
  intro c1_ h
  obtain rfl:=Option.some.inj h;exact⟨rfl,rfl⟩
 | cons t ts ih_=>
  intro c1_ h
  refine ai (aJ h) fun r rs e1 e2 z4=>?_;subst z4;refine ac (cS e1 ..) ?_;refine aq (ih_ e2) fun h1 h2=>?_;refine⟨by simp [h1],?_⟩;refine ac (List.findIdx?_cons ..) ?_;simp [h2]
theorem f8{h h':Heap}(hx:Heap.ExtBut h.objs.size h h'):∀ b o,h.get? b=some o->h'.get? b=some o:=fun b o e=>hx b o (Nat.ne_of_lt (Heap.lt_size e)) e
theorem lE{rel:List Addr->α->Unit->Prop}{ts:List Expr}{rs:List RT1}{x1:Nat}{pos:Pos}{T:Addr}{ys:List Value}{r:Res α}(hh:c.A.handled=none)(ht:s.heap.IsTuple T ys.toArray)(h:allS (trT1 m k) ts=some rs)(hl:rs.length=ys.length)
  (R:Rep c Z O s)(hk:∀ h',(∀ b o,s.heap.get? b=some o->h'.get? b=some o)->Rep c Z O { s with heap:=h' }->Sd c Z rel r (assignInOrder ((assignEach ts env).map (·.2)) ys) { s with heap:=h' }) :
  Sd c Z rel r (assign (.Tuple ts x1 pos) env (.ref T)) s:=by
 refine ac (arm_assign_Tuple ..) ?_;refine Sd.stand ?_;intro hb;refine aq (gV (env:=env) h) fun h1 h2=>?_;unfold unpack;refine ac h1 (ac h2 ?_);refine ac (show rs.length=ys.toArray.size by simp [hl]) ?_;refine ae (al (wpAny_holding (wpAny_unpackItems_tuple hh ht fun h' hx=>?_)));exact hk h' (f8 hx) (R.keeps (t':=s.toks) (f8 hx)) hb
end
theorem Rep.freeX{X:List Addr}{t':Nat}(R:Rep c Z O s)(hX:∀ b∈X,Fre h₀ s.heap b/\b∉c.own++Z)(hx:∀ b o,b∉X->s.heap.get? b=some o->h'.get? b=some o):Rep c Z O { s with heap:=h',toks:=t' }:=by
 have hne:∀ b∈c.own++Z,b∉X:=fun b hb q=>(hX b q).2 hb
 have ktab:∀ b o,Pt s.heap b->s.heap.get? b=some o->h'.get? b=some o:=fun b o hb e=>hx b o (fun q=>(hX b q).1.2 hb) e
 have kps:∀ b o,b∈bn->s.heap.get? b=some o->h'.get? b=some o:=fun b o hb e=>ktab b o (.inl hb) e
 have hPt:∀ b,Pt s.heap b->Pt h' b/\∀ o,s.heap.get? b=some o->h'.get? b=some o:=fun b hb=>⟨d7 kps hb,fun o e=>ktab b o hb e⟩
 exact {
  sh:=by have:=R.sh;exact ac this rfl
  base:=fun b o e=>hx b o (fun q=>by have:=(hX b q).1.1;rw [e] at this;exact aA this.symm) (R.base b o e)
  len:=R.len
  hn:=R.hn
  own:=fun i o e=>by
   refine ai (R.own i o e) fun b ob x y z=>?_;exact⟨b,ob,x,hx b ob (hne b (List.mem_append_right _ (List.mem_of_getElem? x))) y,z.mono (List.prefix_refl _) hPt⟩
  nd:=R.nd
  fre:=fun b hb=>⟨⟨(R.fre b hb).1.1,fun p=>(R.fre b hb).1.2 (bQ R.tabs kps p)⟩,aj (R.fre b hb).2 fun o e=>⟨o,hx b o (hne b hb) e⟩⟩
  tabs:=dM R.tabs ktab
  hid:=R.hid
  low:=R.low
  ff:=FunFrames.keep' R.ff fun b o hb e hn=>(ag o (hx b o (hne b (List.mem_append_left _ (R.fr_own hb))) e) hn)
  fu:=R.fu
  vars:=af R.vars fun mm x y=>aU x fun o es ep e r=>(ag mm ⟨o,es,ep,hx _ o (hne _ Rep.L_own) e,r⟩ y)
  kept:=fun k hk=>by
   have:=R.kept k hk
   have hk':k.addr∉X:=hne _ (List.mem_append_left _ (List.mem_cons_of_mem _ (List.mem_map_of_mem (f:=Keep.addr) hk)))
   induction k with
   | ns L m=>refine af this fun mm z1 y=>?_;clear this;refine aU z1 fun o es ep e r=>?_;clear z1;exact(ag mm ⟨o,es,ep,hx _ o hk' e,r⟩ y)
   | ob b o=>exact hx _ o hk' this
  lks:=fun p hp=>by
   refine ai (R.lks p hp) fun l b x y z=>?_;exact⟨l,b,x,y,hx _ _ (hne b (List.mem_append_right _ (List.mem_of_getElem? y))) z⟩ }
theorem Rep.free{a:Addr}{t':Nat}(R:Rep c Z O s)(hF:Fre h₀ s.heap a)(hno:a∉c.own++Z)(hx:Heap.ExtBut a s.heap h'):Rep c Z O { s with heap:=h',toks:=t' }:=
 R.freeX (X:=[a]) (fun b hb=>by refine ac (List.mem_singleton.mp hb ..) ?_;exact⟨hF,hno⟩) fun b o hb e=>hx b o (fun q=>hb (by refine ac q ?_;exact List.mem_singleton.mpr rfl)) e
theorem Rep.notPin{a:Addr}{o:Obj}{kp:List Keep}(R:Rep { c with kp:=.ob a o::kp } Z O s):Fre h₀ s.heap a/\a∉Cx.own { c with kp:=kp }++Z:=by
 have hin:a∈Cx.own { c with kp:=.ob a o::kp }++Z:=List.mem_append_left _ (List.mem_cons_of_mem _ (List.mem_cons_self ..))
 refine⟨(R.fre a hin).1,fun q=>?_⟩;have h1:=R.nd;have e:(c.L::a::kp.map Keep.addr)++Z=c.L::a::(kp.map Keep.addr++Z):=rfl;rw [show (Cx.own { c with kp:=.ob a o::kp }++Z)=_ from e] at h1;have q:a∈c.L::(kp.map Keep.addr++Z):=q;simp only [List.nodup_cons,List.mem_cons,not_or] at h1;rcases List.mem_cons.mp q with q | q
 ·exact h1.1.1 q.symm
 ·exact h1.2.1 q
theorem Rep.drop{a:Addr}{o:Obj}{kp:List Keep}{t':Nat}(R:Rep { c with kp:=.ob a o::kp } Z O s)(hx:Heap.ExtBut a s.heap h'):Rep { c with kp:=kp } Z O { s with heap:=h',toks:=t' }:=
 R.unpin.free R.notPin.1 R.notPin.2 hx
abbrev nH(cls:String)(vs:Array Value)(o:Obj):Prop:=o.cls=.type cls/\o.data=.fields vs
inductive ItR(Z:List Addr)(lk:List (Nat×Obj)):Itk->Nat->Addr->List Keep->Prop
 | list {i j:Nat} {a it:Addr} {o:Obj} (h:Z[i]?=some a) (ho:nH "list_iterator" #[.ref a,.int j 0] o):ItR Z lk (.list i) j it [.ob it o]
 | keys {i j:Nat} {a it:Addr} {o od:Obj} {es:Array DictEntry} {kvs:List (Int×Value)} {ep:Nat} (h:Z[i]?=some a) (hl:(i,od)∈lk) (hd:od.ExactDict/\od.data=.dict es ep/\KeysOf (intKind prog w) es/\Pairs (intKind prog w) es.toList kvs/\(kvs.map (·.1)).Nodup)
   (ho:nH "dict_keyiterator" #[.ref a,.int j 0,.int kvs.length 0,.int ep 0] o):ItR Z lk (.keys i) j it [.ob it o]
 | range {n j:Nat} {it:Addr}:ItR Z lk (.range n) j it [.ob it { cls:=.type "range_iterator",dict:=none,data:=.fields #[rawInt j,rawInt ((n:Int) - j),rawInt 1],slots:=#[] }]
 | enum {i j:Nat} {a e it:Addr} {o:Obj} {old:Value} (h:Z[i]?=some a) (ho:nH "list_iterator" #[.ref a,.int j 0] o) :
   ItR Z lk (.enum i) j e [.ob e { cls:=.type "enumerate",dict:=none,data:=.fields #[.none,.bool false,.ref it,rawInt j,.none,old],slots:=#[] },.ob it o]
 | rev {b:List UInt8} {j:Nat} {it:Addr} {t:Tok} (hj:j<=b.length) (hz:b.length<=1000):ItR Z lk (.rev b) j it [.ob it { cls:=.type "reversed",dict:=none,data:=.fields #[.bytes b.toArray t,rawInt ((b.length:Int) - 1 - j)],slots:=#[] }]
theorem ItR.mono{Z Z':List Addr}{lk:List (Nat×Obj)}{k:Itk}{j:Nat}{it:Addr}{kps:List Keep}(hp:Z<+:Z')(h:ItR Z lk k j it kps):ItR Z' lk k j it kps:=by
 induction h with
 | list h ho=>exact .list (bt hp h) ho
 | keys h hl hd ho=>exact .keys (bt hp h) hl hd ho
 | range=>exact .range
 | enum h ho=>exact .enum (bt hp h) ho
 | rev hj hz=>exact .rev hj hz
inductive Item(Z:List Addr)(lk:List (Nat×Obj))(k:Itk)(j:Nat)(it:Addr):List AV->Value->List Keep->Prop
 | one {v:AV} {x:Value} {kps:List Keep} (hv:VR Z v x) (h:ItR Z lk k (j+1) it kps) (hne:∀ i,k≠.enum i):Item Z lk k j it [v] x kps
 | pair {i:Nat} {v:AV} {y:Value} {T itl a:Addr} {o:Obj} {tk:Tok} (hk:k=.enum i) (hv:VR Z v y) (h:Z[i]?=some a) (ho:nH "list_iterator" #[.ref a,.int (j+1:Nat) 0] o) :
   Item Z lk k j it [.int j,v] (.ref T) [.ob T (ko [.int j tk,y] 0),.ob it { cls:=.type "enumerate",dict:=none,data:=.fields #[rawInt T,.bool false,.ref itl,rawInt ((j:Int)+1),.none,y],slots:=#[] },.ob itl o]
theorem kc:Slot "reversed" "__init__" "object.__init__":=
 .of (owner:="object") (n:="__init__") (by kernel_rfl) (by decide +kernel) (by decide +kernel) (by decide +kernel)
  (by first | exact .inl (by decide +kernel) | exact .inr (by decide +kernel)) (by kernel_rfl)
theorem fN:Slot "reversed" "__iter__" "reversed.__iter__":=
 .of (owner:="reversed") (n:="__iter__") (by kernel_rfl) (by decide +kernel) (by decide +kernel) (by decide +kernel)
  (by first | exact .inl (by decide +kernel) | exact .inr (by decide +kernel)) (by kernel_rfl)
theorem cA:Slot "reversed" "__next__" "reversed.__next__":=
 .of (owner:="reversed") (n:="__next__") (by kernel_rfl) (by decide +kernel) (by decide +kernel) (by decide +kernel)
  (by first | exact .inl (by decide +kernel) | exact .inr (by decide +kernel)) (by kernel_rfl)
theorem gf:TypeCalled "reversed" "reversed.__new__" "object.__init__":=
 ⟨by decide +kernel,by decide +kernel,eY _ _ PySem.F.mro_reversed,PySem.F.made_reversed,by decide +kernel,by rw [isSubtype_type];kernel_rfl,kc⟩
theorem eI:entryFor table "reversed.__next__"=some Builtin.«reversed.__next__»:=entryFor_of_tree (by kernel_rfl)
theorem iN:entryFor table "reversed.__iter__"=some Builtin.«dict_keyiterator.__iter__»:=entryFor_alias (id':="dict_keyiterator.__iter__") (by kernel_rfl) (by kernel_rfl) (by kernel_rfl) (by kernel_rfl)
theorem fM(a:Value):argsOk "reversed.__next__" ⟨[a],[]⟩:=by unfold argsOk;kernel_rfl
theorem kb(a:Value):argsOk "reversed.__iter__" ⟨[a],[]⟩:=by unfold argsOk;kernel_rfl
theorem pV:typeLookup (.type "bytes") "__reversed__"=pure none:=by rw [typeLookup_type,builtinLookup_eq_fast];kernel_rfl
theorem lD(a:Value):checkTypeCall "reversed" ⟨[a],[]⟩=pure ():=by kernel_rfl
section
variable {A:Around}{E:Value->Shared->Prop}{b:List UInt8}{t:Tok}
noncomputable abbrev gz(b:List UInt8)(t:Tok)(i:Int):Obj:={ cls:=.type "reversed",dict:=none,data:=.fields #[.bytes b.toArray t,rawInt i],slots:=#[] }
theorem tI{Q:Value->Shared->Prop}(hb:b.length<=1000)(h:∀ tk,Q (.ref s.heap.objs.size) { s with heap:=s.heap.push (gz b t ((b.length:Int) - 1)),toks:=tk }) :
  wpAny (model prog w) A (call (.type "reversed") [.bytes b.toArray t]) Q E s:=by
 refine callType_codes (Q₁:=fun obj s₁=>s₁.TypeIs obj "reversed"/\Q obj s₁) gf (lD _) PySem.F.entry_object_init ?_ fun obj s₁ h₁=>?_
 ·refine codeAny_of_tree ?_;refine wpAny_bind (wpAny_of_eq (PySem.F.newCall_reversed_1 _) (wpAny_pure ⟨plainId_quiet PySem.F.plain_reversed_new _,codeAny_builtin PySem.F.entry_reversed_new ?_⟩));refine ac (Around.under_plainId PySem.F.plain_reversed_new _ ..) ?_;have hT:s.TypeIs (.bytes b.toArray t) "bytes":=PySem.W.typeIs_bytes _ _ _;refine wpAny_bind (m:=Builtin.SmallTypes.newClass "reversed" _) ?_;refine wpAny_bind (wpAny_of_eq (a:=true) rfl ?_);refine ac (if_neg (by decide) ..) ?_;refine wpAny_bind (wpAny_of_eq PySem.F.sub_reversed_self ?_);refine ac (if_neg (by decide) ..) ?_;refine wpAny_pure ?_;refine wpAny_bind (wpAny_of_eq (a:=()) rfl ?_);refine wpAny_bind (wpAny_of_eq (a:=()) rfl ?_);refine wpAny_bind (wpAny_specialOf hT pV ?_);refine wpAny_bind ?_;refine wpAny_bind (wpAny_isInstance (T:="bytes") (b:=false) hT (by kernel_rfl) ?_);refine ac (if_neg (by decide) ..) ?_;refine wpAny_bind (wpAny_specialOf hT FB.slot_bytes_getitem.lookup ?_);refine wpAny_ite_true (by decide +kernel) (wpAny_pure ?_);refine ac (if_neg (by decide) ..) ?_;refine wpAny_bind (len_bytes (by simp;lia) ?_);refine wpAny_bind (wpAny_of_eq (a:=some (b.toArray.size:Int)) rfl ?_);refine wpAny_bind ?_;show wpAny _ _ (newObj (.type "reversed") (.fields #[.bytes b.toArray t,rawInt ((b.toArray.size:Int) - 1)])) _ _ _;refine wpAny_newObj_type (wpAny_pure ?_);refine⟨ag _ (Heap.get?_push_size _ rfl) rfl,?_⟩;have:=h (s.toks+1+1);exact this
 ·exact(ao h₁.1 (PySem.F.args_object_init_2 obj _) (object_init_meets gf.init.lookup gf.made rfl prog w A.in1 _ s₁ (ao h₁.1 rfl h₁.2)))
theorem nX{it:Addr}{i:Int}{Q:Value->Shared->Prop}(hit:s.heap.get? it=some (gz b t i))(h:Q (.ref it) s):wpAny (model prog w) A (pyIter (.ref it)) Q E s:=by
 have hT:s.TypeIs (.ref it) "reversed":=(ag _ hit rfl)
 refine wpAny_pyIter_slot hT fN (wpAny_call_entry fN hT iN ?_ (kb _));exact wpAny_pure ⟨_,rfl,"reversed",_,hT,cA.lookup,h⟩
theorem tJ{it:Addr}{i:Nat}{c:UInt8}{Q:Option Value->Shared->Prop}(hz:b.length<=1000)(hit:s.heap.get? it=some (gz b t i))(hc:b[i]?=some c)
  (hQ:∀ h' tk u,h'.get? it=some (gz b t ((i:Int) - 1))->Heap.SameBut it s.heap h'->Q (some (.int (c.toNat:Int) u)) { s with heap:=h',toks:=tk }):wpAny (model prog w) A (pyNext (.ref it)) Q E s:=by
 have hT:s.TypeIs (.ref it) "reversed":=(ag _ hit rfl)
 refine wpAny_bind (wpAny_attempt (wpAny_callSpecial?_slot (name:=PySem.Str.ofString "__next__") hT cA
  (wpAny_call_entry cA hT eI ?_ (fM _))))
 show wpAny _ _ (field (.ref it) 0>>=_) _ _ s;refine wpAny_bind (wpAny_field hit rfl (x:=.bytes b.toArray t) rfl ?_);show wpAny _ _ (field (.ref it) 1>>=_) _ _ s;refine wpAny_bind (wpAny_field hit rfl (x:=rawInt i) rfl ?_);dsimp only [rawInt];refine ac (if_neg (by lia) ..) ?_;refine wpAny_bind (wpAny_specialOf (PySem.W.typeIs_bytes _ _ _) FB.slot_bytes_getitem.lookup ?_);refine ac (if_neg (by decide) ..) ?_;refine wpAny_bind (wpAny_mkInt ?_);have hi:i<b.length:=(List.getElem?_eq_some_iff.mp hc).1;have hg:b.getD i 0=c:=by simp [List.getD,hc]
 refine wpAny_bind (wpAny_attempt (getItem_bytes (by lia) (by lia) (by lia) ?_));dsimp only;refine wpAny_bind (wpAny_field (s:={ s with toks:=_ }) hit rfl (x:=rawInt i) rfl ?_);dsimp only [rawInt];refine wpAny_bind (wpAny_setField (s:={ s with toks:=_ }) hit rfl (by simp) ?_);refine wpAny_pure (ag _ rfl (wpAny_pure ?_));refine ac (show (Int.toNat (i:Int))=i from rfl) (ac hg ?_);exact hQ _ _ _ (by refine ac (Heap.get?_update_self _ hit rfl ..) ?_;rfl) (Heap.SameBut.update ..)
theorem vr{it:Addr}{i:Int}{Q:Option Value->Shared->Prop}(hh:A.handled=none)(hi:i<0)(hit:s.heap.get? it=some (gz b t i))
  (hQ:∀ h',Heap.ExtBut it s.heap h'->Q none { s with heap:=h' }):wpAny (model prog w) A (pyNext (.ref it)) Q E s:=by
 have hT:s.TypeIs (.ref it) "reversed":=(ag _ hit rfl)
 refine wpAny_bind (wpAny_attempt (wpAny_callSpecial?_slot (name:=PySem.Str.ofString "__next__") hT cA
  (wpAny_call_entry cA hT eI ?_ (fM _))))
 show wpAny _ _ (field (.ref it) 0>>=_) _ _ s;refine wpAny_bind (wpAny_field hit rfl (x:=.bytes b.toArray t) rfl ?_);show wpAny _ _ (field (.ref it) 1>>=_) _ _ s;refine wpAny_bind (wpAny_field hit rfl (x:=rawInt i) rfl ?_);dsimp only [rawInt];refine ac (if_pos hi ..) ?_;refine wpAny_bind (wpAny_rule ?_);refine wpAny_bind (wpAny_bind (wpAny_setField hit rfl (by simp) ?_));have h2:=Heap.get?_update_self (h:=s.heap) (a:=it) (Obj.mapFields (·.setIfInBounds 1 (rawInt (-1)))) hit rfl;refine wpAny_setField (s:={ s with heap:=_ }) h2 rfl (by simp) ?_;refine wpAny_bind ?_;refine wpAny_bind ?_;refine wpAny_bind (wpAny_newObj_type ?_ (by size_fits));refine wpAny_bind (m:=firstArgMember _ _) (wpAny_of_eq (a:=Value.none) (by first | rfl | (simp only [firstArgMember];rfl)) ?_);refine wpAny_newObj_type ?_ (by size_fits)
 delta raiseNew
 refine wpAny_bind (wpAny_handled ?_)
 first | refine ac (show A.in1.handled=none from hh) ?_ | refine ac hh ?_
 refine wpAny_bind (wpAny_pure (wpAny_throw ?_));refine wpAny_bind (wpAny_isInstance (T:="StopIteration") (b:=true) (ag _ (Heap.get?_push_size _ rfl) rfl) isSubtype_stop ?_);exact wpAny_pure (hQ _ (((((Heap.SameBut.update ..).trans (Heap.SameBut.update ..)).extBut).push _).push _))
end
theorem Rep.at_pin{a:Addr}{o:Obj}{kp:List Keep}(R:Rep { c with kp:=.ob a o::kp } Z O s):s.heap.get? a=some o:=R.kept (.ob a o) (List.mem_cons_self ..)
theorem Rep.swap{x y:Keep}{kp:List Keep}(R:Rep { c with kp:=x::y::kp } Z O s):Rep { c with kp:=y::x::kp } Z O s:={ R with
 nd:=by
  have h1:(c.L::x.addr::y.addr::(kp.map Keep.addr++Z)).Nodup:=R.nd
  show (c.L::y.addr::x.addr::(kp.map Keep.addr++Z)).Nodup;simp only [List.nodup_cons,List.mem_cons,not_or] at h1 ⊢;exact(bY (ao h1.1.2.1 h1.1.1 h1.1.2.2) ⟨fun q=>h1.2.1.1 q.symm,h1.2.2.1⟩ h1.2.1.2 h1.2.2.2)
 fre:=fun b hb=>R.fre b (by
  have hb:b∈c.L::y.addr::x.addr::(kp.map Keep.addr++Z):=hb
  show b∈c.L::x.addr::y.addr::(kp.map Keep.addr++Z);simp only [List.mem_cons] at hb ⊢;rcases hb with h | h | h | h
  ·exact .inl h
  ·exact .inr (.inr (.inl h))
  ·exact .inr (.inl h)
  ·exact .inr (.inr (.inr h)))
 fu:=fun b hb=>(R.fu b hb).imp id fun z0_=>aj z0_ fun m h=>⟨m,by
  simp only [List.mem_cons] at h ⊢;rcases h with h | h | h
  ·exact .inr (.inl h)
  ·exact .inl h
  ·exact .inr (.inr h)⟩
 kept:=fun k hk=>R.kept k (by
  simp only [List.mem_cons] at hk ⊢;rcases hk with h | h | h
  ·exact .inr (.inl h)
  ·exact .inl h
  ·exact .inr (.inr h)) }
theorem mS{es:List DictEntry}{kvs kvs':List (Int×Value)}(h:Pairs (intKind prog w) es kvs)(h':Pairs (intKind prog w) es kvs'):kvs'=kvs:=by
 induction h generalizing kvs' with
 | nil=>cases h';rfl
 | @cons e kv es kvs h1 h2 h3 ih=>
  cases h' with
  | @cons _ kv' _ kvs' g1 g2 g3=>
   refine ac (ih g3 ..) ?_;have:kv'=kv:=Prod.ext (Value.isInt_inj _ _ _ g1 h1) (g2.symm.trans h2);exact ac this rfl
section
variable {A:Around}{E:Value->Shared->Prop}{Q:Option Value->Shared->Prop}{k:Itk}{j:Nat}{it:Addr}{kps:List Keep}
set_option tactic.hygienic true in
theorem iw(I:ItR Z c.lk k j it kps)(R:Rep { c with kp:=kps++c.kp } Z O s)(hh:A.handled=none)(e:ga k j O=.ok none O')
  (h:∀ h' tk,Rep c Z O { s with heap:=h',toks:=tk }->Q none { s with heap:=h',toks:=tk }):wpAny (model prog w) A (pyNext (.ref it)) Q E s:=by
 have R':=R
 cases I with
 | list hi ho=>
  rename_i i a o
  refine cC (el e) fun U l q e=>?_;refine ar (R.li q) fun a1 xs m r1 L1 h1=>?_;rw [hi] at r1;obtain rfl:=Option.some.inj r1;have hat:=R.at_pin;have hl:=h1.length;have hx:xs.toArray[j]?=none:=by
   have:l[j]?=none:=by cases q2:l[j]? with | none=>rfl | some v=>rw [q2] at e;exact aA e.symm
   simp at this ⊢;lia
  exact wpAny_pyNext_list_end hh (ag o hat ho) L1.isList hx fun h' hx=>h h' s.toks (R.drop hx)
 | keys hi hl hd ho=>
  rename_i i a o od es kvs ep
  refine cC (io e) fun U l q e=>?_;refine aK (R.frz q) fun a1 ob kvs' r1 hob hdo h1=>?_;rw [hi] at r1;obtain rfl:=Option.some.inj r1;refine ai (R.lks _ hl) fun l' a2 x1 x2 x3=>?_;rw [hi] at x2;obtain rfl:=Option.some.inj x2;have hat:=R.at_pin;have hk:kvs'.length=kvs.length:=by
   rw [hob] at x3;obtain rfl:=Option.some.inj x3;refine aV hdo fun es' ep' U y1 U y2 U=>?_;clear hdo;rw [hd.2.1] at y1;injection y1 with z0_ z1_;subst z0_;subst z1_
   have:=hd.2.2.2.1.length;have:=y2.length;lia
  have hl':=h1.length
  have hx:kvs[j]?=none:=by
   have:l[j]?=none:=by cases q2:l[j]? with | none=>rfl | some v=>rw [q2] at e;exact aA e.symm
   simp at this ⊢;lia
  exact wpAny_pyNext_dict_end (knd:=intKind prog w) hh (ag o hat ho) (aw od es x3 hd) hx fun h' hx=>h h' s.toks (R.drop hx)
 | range=>
  rename_i n
  simp only [ga] at e;injection e with e _
  have hj:¬ j<n:=by intro q;rw [if_pos q] at e;exact aA e.symm
  exact wpAny_pyNext_range_end hh R.at_pin (by lia) fun h' hx=>h h' s.toks (R.drop hx)
 | enum hi ho=>
  rename_i i a itl o old
  refine cC (el e) fun U l q e=>?_;refine ar (R.li q) fun a1 xs m r1 L1 h1=>?_;rw [hi] at r1;obtain rfl:=Option.some.inj r1;have hl:=h1.length;have hx:xs.toArray[j]?=none:=by
   have:l[j]?=none:=by cases q2:l[j]? with | none=>rfl | some v=>rw [q2] at e;exact aA e.symm
   simp at this ⊢;lia
  have R2:Rep { c with kp:=.ob it _::.ob itl o::c.kp } Z O s:=R
  have hat2:s.heap.get? itl=some o:=R2.swap.at_pin
  refine wpAny_pyNext_enum_end hh R2.at_pin (ag o hat2 ho) L1.isList hx fun h' hx=>?_;exact h h' s.toks (R2.unpin.drop hx)
 | rev hj hz=>
  rename_i b t
  simp only [ga] at e;injection e with e _
  have hx:b.reverse[j]?=none:=by cases q2:b.reverse[j]? with | none=>rfl | some v=>rw [q2] at e;exact aA e.symm
  have hlen:b.length<=j:=by simpa using hx
  exact vr hh (by lia) R.at_pin fun h' hx=>h h' s.toks (R.drop hx)
set_option tactic.hygienic true in
theorem s_next_item(I:ItR Z c.lk k j it kps)(R:Rep { c with kp:=kps++c.kp } Z O s){vs:List AV}(e:ga k j O=.ok (some vs) O')
  (h:∀ x h' tk kps',Rep { c with kp:=kps'++c.kp } Z O { s with heap:=h',toks:=tk }->Item Z c.lk k j it vs x kps'->Q (some x) { s with heap:=h',toks:=tk }):wpAny (model prog w) A (pyNext (.ref it)) Q E s:=by
 cases I with
 | list hi ho=>
  rename_i i a o
  refine cC (el e) fun U l q e=>?_;refine ar (R.li q) fun a1 xs m r1 L1 h1=>?_;rw [hi] at r1;obtain rfl:=Option.some.inj r1;refine af (Option.map_eq_some_iff.mp e) fun v q2 z2=>?_;subst z2;refine af (s9 h1 q2) fun y hy hv=>?_;refine wpAny_pyNext_list_item (x:=y) (ag o R.at_pin ho) L1.isList (by simpa using hy) fun h' hit hs=>?_;refine af hit fun o' ho' hd'=>?_;clear hit;exact h y h' s.toks [.ob it o'] (R.repin hs.extBut ho' ⟨_,ho.2⟩) (.one hv (.list hi hd') (by nofun))
 | keys hi hl hd ho=>
  rename_i i a o od es kvs ep
  refine cC (io e) fun U l q e=>?_;refine aK (R.frz q) fun a1 ob kvs' r1 hob hdo h1=>?_;rw [hi] at r1;obtain rfl:=Option.some.inj r1;refine ai (R.lks _ hl) fun l' a2 x1 x2 x3=>?_;rw [hi] at x2;obtain rfl:=Option.some.inj x2;refine af (Option.map_eq_some_iff.mp e) fun p q2 z2=>?_;subst z2;have hk:kvs'=kvs:=by
   rw [hob] at x3;obtain rfl:=Option.some.inj x3;refine aV hdo fun es' ep' U y1 U y2 U=>?_;clear hdo;rw [hd.2.1] at y1;injection y1 with z0_ z1_;subst z0_;subst z1_
   exact mS hd.2.2.2.1 y2
  subst hk;refine af (RL.get h1 j q2) fun z0 hy hv=>?_;obtain ⟨k1,v1⟩:=z0;refine wpAny_pyNext_dict_item (knd:=intKind prog w) (ag o R.at_pin ho) (aw od es x3 hd) hy fun key h' hkey hit hs=>?_;refine af hit fun o' ho' hd'=>?_;clear hit;have hkv:VR Z (.int p.1) key:=by
   have e1:k1=p.1:=hv.1
   subst e1;have:Value.isInt p.1 key=true:=hkey
   cases key <;> first | exact(Bool.false_ne_true this).elim | exact⟨_,by exact ac (beq_iff_eq.mp this ..) rfl⟩
  exact h key h' s.toks [.ob it o'] (R.repin hs.extBut ho' ⟨_,ho.2⟩) (.one hkv (.keys hi hl hd hd') (by nofun))
 | range=>
  rename_i n
  simp only [ga] at e;injection e with e _
  have hj:j<n:=Decidable.byContradiction fun q=>by rw [if_neg q] at e;exact aA e
  rw [if_pos hj] at e;obtain rfl:=Option.some.inj e;refine wpAny_pyNext_range_item R.at_pin (by lia) fun h' hit hs=>?_;have e1:(j:Int)+1=((j+1:Nat):Int):=by push_cast;rfl
  have e2:((n:Int) - j) - 1=(n:Int) - ((j+1:Nat):Int):=by push_cast;lia
  rw [e1,e2] at hit;exact h _ h' _ [.ob it _] (R.repin hs.extBut hit ⟨_,rfl⟩) (.one ⟨s.toks,rfl⟩ .range (by nofun))
 | enum hi ho=>
  rename_i i a itl o old
  refine cC (el e) fun U l q e=>?_;refine ar (R.li q) fun a1 xs m r1 L1 h1=>?_;rw [hi] at r1;obtain rfl:=Option.some.inj r1;refine af (Option.map_eq_some_iff.mp e) fun v q2 z2=>?_;subst z2;refine af (s9 h1 q2) fun y hy hv=>?_;have R2:Rep { c with kp:=.ob it _::.ob itl o::c.kp } Z O s:=R;have hat2:s.heap.get? itl=some o:=R2.swap.at_pin;have hne:it≠itl:=fun q=>by
   have:=R2.nd
   have this:(c.L::it::itl::(c.kp.map Keep.addr++Z)).Nodup:=this
   simp only [List.nodup_cons,List.mem_cons,not_or] at this;exact this.2.1.1 q
  refine wpAny_pyNext_enum_item R2.at_pin (ag o hat2 ho) L1.isList (by simpa using hy) hne fun h' he hit ht hsz hk=>?_;refine af hit fun o' ho' hd'=>?_;clear hit;have n1:=R2.notPin;have n2:=R2.unpin.notPin;have R0:Rep c Z O s:=R2.unpin.unpin;have n1':it∉c.own++Z:=fun q=>n1.2 (by
   rcases List.mem_append.mp q with q | q
   ·rcases List.mem_cons.mp q with q | q
    ·exact List.mem_append_left _ (q▸List.mem_cons_self ..)
    ·exact List.mem_append_left _ (List.mem_cons_of_mem _ (List.mem_cons_of_mem _ q))
   ·exact List.mem_append_right _ q)
  have hX:∀ b∈[it,itl],Fre h₀ s.heap b/\b∉c.own++Z:=fun b hb=>by
   simp only [List.mem_cons,List.not_mem_nil,or_false] at hb;rcases hb with rfl | rfl
   ·exact⟨n1.1,n1'⟩
   ·exact n2
  have hxk:∀ b o,b∉[it,itl]->s.heap.get? b=some o->h'.get? b=some o:=fun b o hb e=>hk b o (fun q=>hb (by simp [q])) (fun q=>hb (by simp [q])) e
  have R1:Rep c Z O { s with heap:=h',toks:=s.toks+1 }:=R0.freeX hX hxk
  have kps:∀ b o,b∈bn->s.heap.get? b=some o->h'.get? b=some o:=fun b o hb e=>hxk b o (fun q=>(hX b q).1.2 (.inl hb)) e
  have fr:∀ b,Fre h₀ s.heap b->Fre h₀ h' b:=fun b x=>⟨x.1,fun p=>x.2 (bQ R0.tabs kps p)⟩
  have R3:=R1.pin (fr _ n2.1) n2.2 ho'
  have R4:=R3.pin (fr _ n1.1) n1.2 he
  have hT:=R2.fresh (get?_size s.heap)
  have R5:=R4.pin (fr _ hT.1) hT.2 ht
  exact h _ h' _ [_,_,_] R5 (.pair rfl hv hi hd')
 | rev hj hz=>
  rename_i b t
  simp only [ga] at e;injection e with e _
  refine af (Option.map_eq_some_iff.mp e) fun v q2 z2=>?_;subst z2;have hlt:j<b.length:=by have:=(List.getElem?_eq_some_iff.mp q2).1;simpa using this
  have hr:b[b.length - 1 - j]?=some v:=by rw [List.getElem?_reverse hlt] at q2;exact q2
  have e1:(b.length:Int) - 1 - j=((b.length - 1 - j:Nat):Int):=by lia
  have hat:=R.at_pin
  rw [e1] at hat;refine tJ hz hat hr fun h' tk u hit hs=>?_;have e2:((b.length - 1 - j:Nat):Int) - 1=(b.length:Int) - 1 - ((j+1:Nat):Int):=by lia
  rw [e2] at hit;exact h _ h' tk [.ob it _] (R.repin hs.extBut hit ⟨_,rfl⟩) (.one ⟨u,rfl⟩ (.rev hlt hz) (by nofun))
end
noncomputable def xJ(s:St)(i:Nat)(o:Option AO):Option St:=match o with | some o=>(match o with | .idd l=>some (s.set i (.frz l)) | _=>none) | none=>none
noncomputable def yI(s:St)(i:Nat)(o:Option AO):Option St:=match o with | some o=>(match o with | .frz l=>some (s.set i (.idd l)) | _=>none) | none=>none
noncomputable def lockS(k:Itk)(s:St):Option St:=match k with
 | .keys i=>xJ s i (s.H i)
 | _=>some s
noncomputable def unlockS(k:Itk)(s:St):Option St:=match k with
 | .keys i=>yI s i (s.H i)
 | _=>some s
theorem nN{i:Nat}{s:St}{l:List (Int×AV)}(e:s.H i=some (.idd l)):lockS (.keys i) s=some (s.set i (.frz l)):=congrArg (xJ s i) e
theorem pq{i:Nat}{s:St}{l:List (Int×AV)}(e:s.H i=some (.frz l)):unlockS (.keys i) s=some (s.set i (.idd l)):=congrArg (yI s i) e
def yL(k:Itk)(l l':List (Nat×Obj)):Prop:=match k with
 | .keys i=>∃ od,l'=(i,od)::l/\∀ p∈l,p.1≠i
 | _=>l'=l
theorem gv{k:Itk}{body:List AV->St->Res Flow}:∀ {f j:Nat} {O:St} {C:Nat} {O':St},loopR k body f j O≠.exc C O':=by
 intro l_
 induction l_ with
 | zero=>
  intro c1_ c2_ c3_ c4_
  nofun
 | succ f ih_=>
  intro j O C O'
  intro e
  have e:(ga k j O).bind (xK body (loopR k body f (j+1)))=.exc C O':=e
  induction q:ga k j O with
  | bad=>rw [q] at e;injection e
  | exc C s=>exact gb q
  | ok o s=>
   rw [q] at e;induction o with
   | none=>injection e
   | some vs=>
    have e:r7 (loopR k body f (j+1)) (body vs s)=.exc C O':=e
    generalize body vs s=r at e
    induction r with
    | bad=>injection e
    | exc=>injection e
    | ok fl s=>induction fl with
     | next=>exact ih_ e
     | ret=>injection e
theorem ln{k:Itk}{body:List AV->St->Res Flow}{r:Res Flow}(e:loopK k body O=r)(hb:r≠.bad):∃ fl O1 O2 O3,r=.ok fl O3/\lockS k O=some O1/\loopR k body 100 0 O1=.ok fl O2/\unlockS k O2=some O3:=by
 subst e;have other:∀ k',loopK k' body O=loopR k' body 100 0 O->lockS k' O=some O->(∀ s,unlockS k' s=some s)->loopK k' body O≠.bad->∃ fl O1 O2 O3,loopK k' body O=.ok fl O3/\lockS k' O=some O1/\loopR k' body 100 0 O1=.ok fl O2/\unlockS k' O2=some O3:=fun k' h1 h2 h3 hb=>by
  rw [h1] at hb ⊢;induction q:loopR k' body 100 0 O with
  | bad=>exact absurd q hb
  | exc C s=>exact absurd q gv
  | ok fl s=>exact(cu fl O s s rfl h2 q (h3 s))
 induction k with
 | keys i=>
  unfold loopK at hb ⊢;dsimp only at hb ⊢;induction q:O.H i with
  | none=>rw [q] at hb;exact absurd rfl hb
  | some o=>
   induction o with
   | idd l=>
    rw [q] at hb;dsimp only at hb ⊢;induction q2:loopR (.keys i) body 100 0 (O.set i (.frz l)) with
    | bad=>rw [q2] at hb;exact absurd rfl hb
    | exc C s=>exact absurd q2 gv
    | ok fl s=>
     rw [q2] at hb;dsimp only at hb ⊢;induction q3:s.H i with
     | none=>rw [q3] at hb;exact absurd rfl hb
     | some o=>
      induction o with
      | frz l'=>exact(cu fl _ s _ rfl (nN q) q2 (pq q3))
      | _=>rw [q3] at hb;exact absurd rfl hb
   | _=>rw [q] at hb;exact absurd rfl hb
 | list i=>exact other _ rfl rfl (fun U=>rfl) hb
 | range n=>exact other _ rfl rfl (fun U=>rfl) hb
 | enum i=>exact other _ rfl rfl (fun U=>rfl) hb
 | rev b=>exact other _ rfl rfl (fun U=>rfl) hb
theorem Rep.lock{i:Nat}{a:Addr}{od:Obj}{l:List (Int×AV)}(R:Rep c Z O s)(e:O.H i=some (.idd l))(hi:Z[i]?=some a)(ho:s.heap.get? a=some od) :
  Rep { c with lk:=(i,od)::c.lk } Z (O.set i (.frz l)) s/\∀ p∈c.lk,p.1≠i:=by
 have hne:∀ p∈c.lk,p.1≠i:=fun p hp q=>by
  refine aI (R.lks p hp) fun l' b x U=>?_;rw [q,e] at x;have h2:=l'.2;rw [<- Option.some.inj x] at h2;exact gw h2
 have hin:i<O.n:=Decidable.byContradiction fun q=>by rw [R.hn i (by lia)] at e;exact aA e
 exact⟨{ R with
  hn:=fun j hj=>by
   have:j≠i:=by have:O.n<=j:=hj;lia
   simp only [St.set,if_neg this];exact R.hn j hj
  own:=fun j o e'=>by
   by_cases q:j=i
   ·subst q;simp only [St.set,if_true] at e';obtain rfl:=Option.some.inj e';refine ai (R.own j _ e) fun b ob x y z=>?_;exact(ax b ob x y z)
   ·simp only [St.set,if_neg q] at e';exact R.own j o e'
  lks:=fun p hp=>by
   rcases List.mem_cons.mp hp with rfl | hp
   ·exact(ax ⟨.frz l,rfl⟩ a (by simp only [St.set,if_true]) hi ho)
   ·refine ai (R.lks p hp) fun l' b x y z=>?_;exact(ax l' b (by simp only [St.set,if_neg (hne p hp)];exact x) y z) },hne⟩
theorem Rep.unlock{i:Nat}{od:Obj}{l:List (Int×AV)}{lk:List (Nat×Obj)}(R:Rep { c with lk:=(i,od)::lk } Z O s)(e:O.H i=some (.frz l))(hne:∀ p∈lk,p.1≠i):Rep { c with lk:=lk } Z (O.set i (.idd l)) s:=by
 have hin:i<O.n:=Decidable.byContradiction fun q=>by rw [R.hn i (by lia)] at e;exact aA e
 exact { R with
  hn:=fun j hj=>by
   have:j≠i:=by have:O.n<=j:=hj;lia
   simp only [St.set,if_neg this];exact R.hn j hj
  own:=fun j o e'=>by
   by_cases q:j=i
   ·subst q;simp only [St.set,if_true] at e';obtain rfl:=Option.some.inj e';refine ai (R.own j _ e) fun b ob x y z=>?_;exact(ax b ob x y z)
   ·simp only [St.set,if_neg q] at e';exact R.own j o e'
  lks:=fun p hp=>by
   refine ai (R.lks p (List.mem_cons_of_mem _ hp)) fun l' b x y z=>?_;exact(ax l' b (by simp only [St.set,if_neg (hne p hp)];exact x) y z) }
set_option tactic.hygienic true in
theorem Rep.close{k:Itk}{O3:St}{lk lk':List (Nat×Obj)}(R:Rep { c with lk:=lk' } Z O s)(hl:yL k lk lk')(hu:unlockS k O=some O3):Rep { c with lk:=lk } Z O3 s:=by
 have other:lk'=lk->some O=some O3->Rep { c with lk:=lk } Z O3 s:=fun e1 e2=>by subst e1;obtain rfl:=Option.some.inj e2;exact R
 induction k with
 | keys i=>
  refine af hl fun od z1 hne=>?_;clear hl;subst z1;have hu:yI O i (O.H i)=some O3:=hu;induction e:O.H i with
  | none=>rw [e] at hu;exact aA hu
  | some o=>
   rw [e] at hu;induction o with
   | frz l=>obtain rfl:=Option.some.inj hu;exact R.unlock e hne
   | _=>exact aA hu
 | _=>exact other hl hu
theorem vZ{k:Itk}{j:Nat}{it:Addr}{kps:List Keep}{lk:List (Nat×Obj)}(I:ItR Z lk k j it kps)(R:Rep { c with kp:=kps++c.kp } Z' O s):Rep c Z' O s:=by
 cases I with
 | enum _ _=>
  have R2:Rep { c with kp:=.ob it _::.ob _ _::c.kp } Z' O s:=R
  exact R2.unpin.unpin
 | _=>exact R.unpin
inductive PreIt(h₀:Heap)(c:Cx)(Z:List Addr)(O:St)(h:Heap):Itk->Value->Prop
 | list {i:Nat} {a:Addr} {l:List AV} (hi:Z[i]?=some a) (e:O.H i=some (.li l)):PreIt h₀ c Z O h (.list i) (.ref a)
 | keys {i:Nat} {a:Addr} {l:List (Int×AV)} (hi:Z[i]?=some a) (e:O.H i=some (.idd l)):PreIt h₀ c Z O h (.keys i) (.ref a)
 | range {n:Nat} {r:Addr} {t u v:Tok} (hn:n<1000) (hr:IsRange h r 0 n 1 t u v):PreIt h₀ c Z O h (.range n) (.ref r)
 | enum {i:Nat} {a e it:Addr} {l:List AV} (hi:Z[i]?=some a) (hl:O.H i=some (.li l)) (he:IsEnum h e it 0 .none) (hit:h.IsListIter it a 0) (hne:e≠it) (f1:Fre h₀ h e/\e∉c.own++Z) (f2:Fre h₀ h it/\it∉c.own++Z):PreIt h₀ c Z O h (.enum i) (.ref e)
 | rev {b:List UInt8} {t:Tok} {it:Addr} (hr:h.get? it=some (gz b t ((b.length:Int) - 1))) (f1:Fre h₀ h it/\it∉c.own++Z) (hz:b.length<=1000):PreIt h₀ c Z O h (.rev b) (.ref it)
set_option tactic.hygienic true in
theorem s_pyIter{A:Around}{E:Value->Shared->Prop}{Q:Value->Shared->Prop}{k:Itk}{x:Value}(R:Rep c Z O s)(P:PreIt h₀ c Z O s.heap k x)
  (h:∀ it kps lk' O1 h' tk,lockS k O=some O1->yL k c.lk lk'->Rep { c with kp:=kps++c.kp,lk:=lk' } Z O1 { s with heap:=h',toks:=tk }->ItR Z lk' k 0 it kps->Q (.ref it) { s with heap:=h',toks:=tk }) :
  wpAny (model prog w) A (pyIter x) Q E s:=by
 induction P with
 | list hi e=>
  rename_i i a l
  refine ar (R.li e) fun a1 xs m r1 L1 h1=>?_;rw [hi] at r1;obtain rfl:=Option.some.inj r1;refine wpAny_pyIter_list L1.isList ?_;exact h _ [_] c.lk O _ s.toks rfl rfl (R.pushPin rfl) (.list hi ⟨rfl,rfl⟩)
 | keys hi e=>
  rename_i i a l
  refine aK (R.idd e) fun a1 od kvs r1 ho hd h1=>?_;rw [hi] at r1;obtain rfl:=Option.some.inj r1;refine aV (id hd) fun es ep d1 d2 d3 d4 d5=>?_;refine wpAny_pyIter_dict (knd:=intKind prog w) (ii R hi) (lV od es ho d1 d2 d3 d4 d5) ?_;refine aq (R.lock e hi ho) fun RL hne=>?_;refine h _ [_] ((i,od)::c.lk) (O.set i (.frz l)) _ s.toks (nN e) (ag od rfl hne) (RL.pushPin rfl) (.keys hi (List.mem_cons_self ..) (lU d1 d2 d3 d4 d5) ⟨rfl,rfl⟩)
 | range hn hr=>
  rename_i n r t u v
  have hs:Builtin.Range.rangeSize 0 n 1=n:=by
   refine ac (rangeSize_one ..) ?_;split <;> lia
  have hsm:Builtin.Range.small 0 n 1=true:=by
   unfold Builtin.Range.small;refine ac hs ?_;have f:∀ i:Int,0<=i->i<=1000->Builtin.Range.rangeFitsLong i=true:=fun i h1 h2=>by
    simp only [Builtin.Range.rangeFitsLong,Bool.and_eq_true,decide_eq_true_eq];lia
   rw [f 0 (by lia) (by lia),f n (by lia) (by lia),f 1 (by lia) (by lia),if_pos (by decide),f ((n:Int)+(1 - 1)) (by lia) (by lia)];simp
  refine wpAny_pyIter_range hr hsm ?_;refine ac hs ?_;exact h _ [_] c.lk O _ s.toks rfl rfl (R.pushPin rfl) .range
 | enum hi hl he hit' hne f1 f2=>
  rename_i i a e it l
  refine wpAny_pyIter_enum he ?_;refine af hit' fun oi ho hd=>?_;clear hit';have R1:=R.pin f2.1 f2.2 ho;have R2:=R1.pin f1.1 (fun q=>by
   rcases List.mem_append.mp q with q | q
   ·have q:e∈c.L::it::c.kp.map Keep.addr:=q
    simp only [List.mem_cons] at q;rcases q with q | q | q
    ·exact f1.2 (List.mem_append_left _ (q▸List.mem_cons_self ..))
    ·exact hne q
    ·exact f1.2 (List.mem_append_left _ (List.mem_cons_of_mem _ q))
   ·exact f1.2 (List.mem_append_right _ q)) he
  exact h _ [_,_] c.lk O s.heap s.toks rfl rfl R2 (.enum hi hd)
 | rev hr f1 hz=>
  rename_i b t it
  refine nX hr ?_;have hr':s.heap.get? it=some (gz b t ((b.length:Int) - 1 - ((0:Nat):Int))):=by simpa using hr
  exact h _ [_] c.lk O s.heap s.toks rfl rfl (R.pin f1.1 f1.2 hr') (.rev (Nat.zero_le _) hz)
theorem pS(w:World):nsIn (KF w) mainGlobals "range"=some none/\bootBuiltins "range"=some (.type "range"):=⟨beq_iff_eq.mp (dS (Bool.and_eq_true_iff.mp (jD w)).1).1,by kernel_rfl⟩
theorem jE(w:World):nsIn (KF w) mainGlobals "enumerate"=some none/\bootBuiltins "enumerate"=some (.type "enumerate"):=⟨beq_iff_eq.mp (dS (Bool.and_eq_true_iff.mp (jD w)).1).2.1,by kernel_rfl⟩
theorem kR(w:World):nsIn (KF w) mainGlobals "reversed"=some none/\bootBuiltins "reversed"=some (.type "reversed"):=⟨beq_iff_eq.mp (dS (Bool.and_eq_true_iff.mp (jD w)).1).2.2,by kernel_rfl⟩
theorem sG{k:Kd}{a:AEnv}{env:Env}{f:Str}{T:String}{p:Pos}{A:Around}{E:Value->Shared->Prop}{Q:Value->Shared->Prop}(B:Bse w h₀)(R:Rep c Z O s)(V:EnvR k a env c Z)(hk:k f=some .globalImplicit)(hc:nsIn (KF w) mainGlobals f=some none/\bootBuiltins f=some (.type T))
  (hn:f≠"__name__")(hd:(f==("__debug__":Str))=false)(h:Q (.type T) s):wpAny (model prog w) A (eval (.Name f p) env) Q E s:=by
 refine bM B.top fun mg mb g b bb U=>?_;have hl:env.kindOf f=some .globalImplicit:=by
  rcases V.kd _ _ hk with q | ⟨q,_⟩
  ·exact q
  ·injection q
 exact Name_function_global V.kind hl (loadGlobal_builtin (by refine ac (V.glob.1 ..) ?_;exact g.keeps R.base) (mg_none_of B.K g hc.1) (by refine ac (V.glob.2 ..) ?_;exact b.keeps R.base) ((bb _ hn).trans hc.2) h) hd
section
variable {C:b9}{F:Fns}{kk n m:Nat}{k:Kd}{a:AEnv}{env:Env}
theorem kg(B:Bse w h₀)(I:IE F kk n)(Ro:Room c kk n){rel:List Addr->γ->δ->Prop}{G:AV->St->Res γ}{t:Value->Sem δ}{f:Str}{T:String}{p p2:Pos}{e:Expr}{r:RE}(h:trE m k e=some r)(hk:k f=some .globalImplicit)(hc:nsIn (KF w) mainGlobals f=some none/\bootBuiltins f=some (.type T))
  (hn:f≠"__name__")(hd:(f==("__debug__":Str))=false)(he:eval (.Call (.Name f p) [e] [] p2) env=(do callWith p2 (<- eval (.Name f p) env) [] (backTo p2 (starEach [e] env)) []))
  (R:Rep c Z O s)(V:EnvR k a env c Z)
  (hG:∀ v O' Z' x s',Z<+:Z'->VR Z' v x->Rep c Z' O' s'->G v O'≠.bad->wpAny (model prog w) c.A (call (.type T) [x]) (fun y s''=>wpD (model prog w) c.A (t y) (okP c Z' rel (G v O')) (oV c Z' (G v O')) s'') (fun U U=>False) s') :
  Sd c Z rel ((F.E a r O).bind G) (eval (.Call (.Name f p) [e] [] p2) env>>=t) s:=by
 intro hb
 refine ac he ?_;refine ae (ae (al (sG B R V hk hc hn hd ?_)));have hargs:allS (trE m k) [e]=some [r]:=by show (trE m k e).bind _=_;refine ac h ?_;rfl
 have A1:=iv (f:=.type T) (pos:=p2) (env:=env) ⟨_,hargs⟩ (gj I Ro (pos:=p2) hargs R V)
 have hb':bx (F.E a) [r] O≠.bad:=fun q=>by
  have:((F.E a r O).bind fun b s=>.ok [b] s)=.bad:=q
  induction z:F.E a r O with
  | ok v s=>rw [z] at this;injection this
  | exc C s=>rw [z] at this;injection this
  | bad=>exact hb (by refine ac z ?_;rfl)
 refine ae (au (am (A1 hb') (fun x s1 g1=>?_) fun e1 s1 g1=>?_))
 ·induction z:F.E a r O with
  | bad=>exact absurd (by refine ac z ?_;rfl) hb
  | exc C O1=>
   have q:bx (F.E a) [r] O=.exc C O1:=by show ((F.E a r O).bind fun b s=>_)=_;refine ac z ?_;rfl
   rw [q] at g1;exact g1.elim
  | ok v O1=>
   have q:bx (F.E a) [r] O=.ok [v] O1:=by show ((F.E a r O).bind fun b s=>_)=_;refine ac z ?_;rfl
   rw [q] at g1;refine az g1 fun Z1 hp z2 R1=>?_;clear g1;refine aq z2 fun hkw hxs=>?_;clear z2;obtain ⟨xs,kw⟩:=x;dsimp only at hkw hxs;subst hkw;induction xs using List.casesOn with
   | nil=>exact hxs.elim
   | cons x xs=>
    induction xs using List.casesOn with
    | cons _ _=>exact hxs.2.elim
    | nil=>
     refine ae (bq ?_);have hpl:(backTo p2 (starEach [e] env)).any (·.1)=false:=dB hargs;refine ac (hpl ..) ?_;refine ae (ah ?_);refine ae (al (wpAny_mono (hG v O1 Z1 x s1 hp hxs.1 R1 (fun q=>hb (by refine ac z ?_;exact q))) (fun y s2 h2=>?_) fun U U x=>x.elim));refine ae (au (dw (ah (am h2 (fun d s3 h3=>h3.pre hp) fun d s3 h3=>h3.pre hp))))
 ·induction z:F.E a r O with
  | bad=>exact absurd (by refine ac z ?_;rfl) hb
  | exc C O1=>
   have q:bx (F.E a) [r] O=.exc C O1:=by show ((F.E a r O).bind fun b s=>_)=_;refine ac z ?_;rfl
   rw [q] at g1;exact g1
  | ok v O1=>
   have q:bx (F.E a) [r] O=.ok [v] O1:=by show ((F.E a r O).bind fun b s=>_)=_;refine ac z ?_;rfl
   rw [q] at g1;exact g1.elim
noncomputable def iterR(kd:Nat)(G:Itk->St->Res γ)(v:AV)(s:St):Res γ:=match itkOf kd v s with | some k=>G k s | none=>.bad
theorem mF{f:Str}{n:Nat}(h:ti f=n+1):(n+1=1/\f="range")∨(n+1=2/\f="enumerate")∨(n+1=3/\f="reversed"):=by
 unfold ti at h;by_cases a:(f==("range":Str))=true
 ·rw [if_pos a] at h;exact .inl ⟨h.symm,beq_iff_eq.mp a⟩
 rw [if_neg a] at h;by_cases b:(f==("enumerate":Str))=true
 ·rw [if_pos b] at h;exact .inr (.inl ⟨h.symm,beq_iff_eq.mp b⟩)
 rw [if_neg b] at h;by_cases c:(f==("reversed":Str))=true
 ·rw [if_pos c] at h;exact .inr (.inr ⟨h.symm,beq_iff_eq.mp c⟩)
 rw [if_neg c] at h;exact nomatch h
theorem iterS_cases{tr:Expr->Option RE}{iter:Expr}{kd:Nat}{r:RE}(h:fC tr k iter=some (kd,r)) :
   (kd=0/\tr iter=some r)∨(∃ f p e p2,iter=.Call (.Name f p) [e] [] p2/\k f=some .globalImplicit/\tr e=some r/\((kd=1/\f="range")∨(kd=2/\f="enumerate")∨(kd=3/\f="reversed"))):=by
 cases vl_inv (p:=InvI tr k iter) h with
 | one h1 h2 h3=>exact .inr (cu _ _ _ _ rfl h1 h3 (mF h2))
 | dflt h1=>exact .inl ⟨rfl,h1⟩
theorem Rep.freshAt(R:Rep c Z O s)(hk:∀ b o,s.heap.get? b=some o->h'.get? b=some o){b:Addr}(hb:s.heap.get? b=none):Fre h₀ h' b/\b∉c.own++Z:=
 ⟨⟨(R.fresh hb).1.1,fun p=>(R.fresh hb).1.2 (bQ R.tabs (fun b o U e=>hk b o e) p)⟩,(R.fresh hb).2⟩
theorem n8(B:Bse w h₀)(I:IE F kk n)(Ro:Room c kk n){rel:List Addr->γ->δ->Prop}{G:Itk->St->Res γ}{t:Value->Sem δ}{iter:Expr}{kd:Nat}{r:RE}(hi:fC (trE m k) k iter=some (kd,r))(R:Rep c Z O s)(V:EnvR k a env c Z)
  (h:∀ kI x O' Z' s',Z<+:Z'->Rep c Z' O' s'->PreIt h₀ c Z' O' s'.heap kI x->Sd c Z' rel (G kI O') (t x) s') :
  Sd c Z rel ((F.E a r O).bind (iterR kd G)) (eval iter env>>=t) s:=by
 rcases iterS_cases hi with ⟨rfl,hr⟩ | ⟨f,p,e,p2,rfl,hk,hr,hc⟩
 ·refine Sd.bind (I _ _ _ _ _ _ _ _ _ _ hr R V Ro) fun v O' Z' y s' ex hp hy R'=>?_;unfold iterR itkOf;induction v with
  | obj i=>
   dsimp only;induction e:O'.H i with
   | none=>exact Sd.bad
   | some o=>
    induction o with
    | li l=>
     refine ar (R'.li e) fun a1 xs mm r1 L1 h1=>?_;obtain rfl:=VR.obj hy r1;exact h _ _ _ _ _ hp R' (.list r1 e)
    | idd l=>
     refine aK (R'.idd e) fun a1 o kvs r1 ho hd h1=>?_;obtain rfl:=VR.obj hy r1;exact h _ _ _ _ _ hp R' (.keys r1 e)
    | _=>exact Sd.bad
  | _=>exact Sd.bad
 ·rcases hc with ⟨rfl,rfl⟩ | ⟨rfl,rfl⟩ | ⟨rfl,rfl⟩
  ·refine kg B I Ro hr hk (pS w) (by decide) rfl rfl R V fun v O' Z' x s' hp hv R' hb=>?_;unfold iterR at hb ⊢;induction v with
   | int i=>
    refine aj hv fun tk z1=>?_;clear hv;subst z1;by_cases hn:0<=i/\i<1000
    ·have e1:itkOf 1 (.int i) O'=some (.range i.toNat):=if_pos hn
     rw [e1] at hb ⊢;refine call_range_1 ?_;have hh:=h (.range i.toNat) (.ref s'.heap.objs.size) O' Z' { s' with heap:=s'.heap.push { cls:=.type "range",data:=.fields #[.int 0 s'.toks,.int i tk,.int 1 (s'.toks+1)] },toks:=s'.toks+1+1 } hp
      (R'.keeps fun U U e=>Heap.get?_push_of_some _ e) (.range (t:=s'.toks) (u:=tk) (v:=s'.toks+1) (by lia) (by
       have:((i.toNat:Nat):Int)=i:=by lia
       refine ac this ?_;exact Heap.get?_push_size _ rfl))
     exact hh hb
    ·have e1:itkOf 1 (.int i) O'=none:=if_neg hn
     rw [e1] at hb;exact absurd rfl hb
   | _=>exact absurd rfl hb
  ·refine kg B I Ro hr hk (jE w) (by decide) rfl rfl R V fun v O' Z' x s' hp hv R' hb=>?_;unfold iterR itkOf at hb ⊢;induction v with
   | obj i=>
    dsimp only at hb ⊢;induction e:O'.H i with
    | none=>rw [e] at hb;exact absurd rfl hb
    | some o=>
     induction o with
     | li l=>
      rw [e] at hb;refine ar (R'.li e) fun a1 xs mm r1 L1 h1=>?_;obtain rfl:=VR.obj hv r1;refine call_enumerate_1 L1 fun h' he hit hsz hkeep=>?_;have nsz:∀ d,s'.heap.get? (s'.heap.objs.size+d)=none:=fun d=>Heap.get?_none_of_le (Nat.le_add_right _ _);refine h _ _ _ _ _ hp (R'.keeps (t':=s'.toks) hkeep) (.enum r1 e he hit (Nat.succ_ne_self _) (R'.freshAt hkeep (nsz 1)) (R'.freshAt hkeep (nsz 0))) hb
     | _=>rw [e] at hb;exact absurd rfl hb
   | _=>exact absurd rfl hb
  ·refine kg B I Ro hr hk (kR w) (by decide) rfl rfl R V fun v O' Z' x s' hp hv R' hb=>?_;unfold iterR at hb ⊢;induction v with
   | bytes b=>
    refine aj hv fun tk z1=>?_;clear hv;subst z1;by_cases hn:bg b=true
    ·have e1:itkOf 3 (.bytes b) O'=some (.rev b):=if_pos hn
     rw [e1] at hb ⊢;have hz:=of_decide_eq_true hn;refine tI hz fun tk'=>?_;have hkeep:∀ c o,s'.heap.get? c=some o->(s'.heap.push (gz b tk ((b.length:Int) - 1))).get? c=some o:=fun U U e=>Heap.get?_push_of_some _ e;exact h _ _ _ _ _ hp (R'.keeps hkeep) (.rev (Heap.get?_push_size _ rfl) (R'.freshAt hkeep (get?_size _)) hz) hb
    ·have e1:itkOf 3 (.bytes b) O'=none:=if_neg hn
     rw [e1] at hb;exact absurd rfl hb
   | _=>exact absurd rfl hb
end
def FR(Z:List Addr)(fl:Flow)(f:PySem.Flow):Prop:=match fl with | .next=>f=.next | .ret v=>∃ y,f=.ret y/\VR Z v y
def IS(F:Fns)(kk n:Nat):Prop:=∀ m k b r a env c Z O s,allS (trS m k) b=some r->Rep c Z O s->EnvR k a env c Z->Room c kk n->Sd c Z FR (F.S a r O) (execs b env) s
theorem EnvR.ctx{k:Kd}{a:AEnv}{env:Env}{c':Cx}(V:EnvR k a env c Z)(h1:c'.L=c.L)(h2:c'.fs=c.fs):EnvR k a env c' Z:={ V with
 L:=V.L.trans h1.symm
 frame:=by refine ac h2 ?_;exact V.frame }
theorem Room.ctx{c':Cx}{k n:Nat}(Ro:Room c k n)(h1:c'.A=c.A)(h2:c'.fs=c.fs):Room c' k n:=⟨by refine ac h1 (ac h2 ?_);exact Ro.frames,by refine ac h1 ?_;exact Ro.depth,by refine ac h1 ?_;exact Ro.units,by refine ac h1 ?_;exact Ro.handled⟩
theorem trT_cases{m:Nat}{k:Kd}{t:Expr}{rt:RT}(h:m4 m k t=some rt):(∃ es x p ts,t=.Tuple es x p/\allS (trT1 m k) es=some ts/\rt=.tup ts)∨(∃ r,trT1 m k t=some r/\rt=.one r):=by
 induction xA h with
 | tup h1=>exact .inl (nh _ _ _ _ rfl h1 rfl)
 | one h1=>exact .inr (ag _ h1 rfl)
theorem jU{m:Nat}{k:Kd}{t:Expr}{r:RT1}(h:trT1 m k t=some r)(x y:Value):letOwnedTupleGo t x y=pure ():=by
 cases t <;> first | rfl | exact aA h
set_option tactic.hygienic true in
theorem Sd.run{rel:List Addr->α->β->Prop}{r:Res α}{t:Sem β}{a:α}(h:Sd c Z rel r t s)(e:r=.ok a O') :
  wpD (model prog w) c.A t (fun v s'=>∃ Z',Z<+:Z'/\rel Z' a v/\Rep c Z' O' s') (fun U U=>False) s:=by
 subst e;exact am (h w_) (fun U U x=>x) fun U U x=>x
section
variable {C:b9}{F:Fns}{kk n m:Nat}{k:Kd}{a:AEnv}{env:Env}
set_option tactic.hygienic true in
theorem iu(B:Bse w h₀)(I:IE F kk n)(Ro:Room c kk n){target:Expr}{rt:RT}(hT:m4 m k target=some rt){kI:Itk}{j:Nat}{it:Addr}{kps:List Keep}{vs:List AV}{x:Value}(It:Item Z c.lk kI j it vs x kps)
  (R:Rep { c with kp:=kps++c.kp } Z O s)(V:EnvR k a env c Z)(e:dT F a rt vs O=.ok () O') :
  wpD (model prog w) c.A (letOwnedTupleGo target (.ref it) x>>=fun z_=>assign target env x) (fun z_ s'=>∃ Z' kps',Z<+:Z'/\ItR Z' c.lk kI (j+1) it kps'/\Rep { c with kp:=kps'++c.kp } Z' O' s') (fun z_ z_=>False) s:=by
 cases It with
 | one hv hI hne=>
  rename_i v
  rcases trT_cases hT with ⟨es,x1,p,ts,rfl,hts,rfl⟩ | ⟨r,hr,rfl⟩
  ·injection e
  ·refine ac (jU hr ..) ?_;refine ae (ah ?_);have e':asg1 F a r v O=.ok () O':=by
    have:((asg1 F a r v O).bind fun z_ s=>asgL F a [] [] s)=.ok () O':=e
    cases z:asg1 F a r v O with
    | ok u s=>rw [z] at this;injection this with z0_ z1_;subst z1_;rfl
    | exc C s=>rw [z] at this;injection this
    | bad=>rw [z] at this;injection this
   refine am ((ke (c:={ c with kp:=kps++c.kp }) B I (Ro.ctx rfl rfl) hr hv R (V.ctx rfl rfl)).run e') (fun z_ s' z0_=>az z0_ fun Z' hp z_ R'=>?_) fun z_ z_ x=>x;exact(ax Z' kps hp (hI.mono hp) R')
 | pair hk hv hi ho=>
  rename_i i v y T itl a1 o tk
  subst hk;rcases trT_cases hT with ⟨es,x1,p,ts,rfl,hts,rfl⟩ | ⟨r,hr,rfl⟩
  ·have hl:ts.length=2:=by
    by_cases q:ts.length=2
    ·exact q
    ·exfalso
     have:(if ts.length=2 then asgL F a ts [.int j,v] O else .bad:Res Unit)=.ok () O':=e
     rw [if_neg q] at this;injection this
   have e':asgL F a ts [.int j,v] O=.ok () O':=by
    have:(if ts.length=2 then asgL F a ts [.int j,v] O else .bad:Res Unit)=.ok () O':=e
    rw [if_pos hl] at this;exact this
   have R2:Rep { c with kp:=.ob T (ko [.int j tk,y] 0)::.ob it { cls:=.type "enumerate",dict:=none,data:=.fields #[rawInt T,.bool false,.ref itl,rawInt ((j:Int)+1),.none,y],slots:=#[] }::.ob itl o::c.kp } Z O s:=R
   refine ae (al (wpAny_letOwnedTupleGo_enum R2.swap.at_pin fun h' he hs=>?_));have R3:=(R2.swap.repin (t':=s.toks) hs.extBut he ⟨_,rfl⟩).swap;have hT':h'.get? T=some (ko [.int j tk,y] 0):=R3.at_pin;have R4:=R3.unpin;have e1:rawInt ((j:Int)+1)=rawInt ((j+1:Nat):Int):=by congr 1
   rw [e1] at R4;have U:=lE (c:={ c with kp:=.ob it { cls:=.type "enumerate",dict:=none,data:=.fields #[.none,.bool false,.ref itl,rawInt ((j+1:Nat):Int),.none,y],slots:=#[] }::.ob itl o::c.kp }) (rel:=UR) (x1:=x1) (pos:=p) (r:=asgL F a ts [.int j,v] O) Ro.handled (T:=T) (ys:=[.int j tk,y]) ⟨_,hT',rfl,_,rfl⟩ hts (by simp [hl]) R4 fun h2 hk2 R5=>
    rc (c:={ c with kp:=.ob it { cls:=.type "enumerate",dict:=none,data:=.fields #[.none,.bool false,.ref itl,rawInt ((j+1:Nat):Int),.none,y],slots:=#[] }::.ob itl o::c.kp }) B I (Ro.ctx rfl rfl) hts (show RL (VR Z) [.int j,v] [.int j tk,y] from (ao ⟨tk,rfl⟩ hv trivial)) R5 (V.ctx rfl rfl)
   refine am (U.run e') (fun z_ s' z0_=>az z0_ fun Z' hp z_ R'=>?_) fun z_ z_ x=>x;exact(ax Z' ([_,_]) hp ((ItR.enum hi ho).mono hp) R')
  ·exfalso
   have:((asg1 F a r (.int j) O).bind fun z_ s=>asgL F a [] [v] s)=.ok () O':=e
   induction z:asg1 F a r (.int j) O with
   | ok u s=>rw [z] at this;injection this
   | exc C s=>rw [z] at this;injection this
   | bad=>rw [z] at this;injection this
theorem k8{R:Result->Shared->Prop}{A:Around}(h:R (.ok .next) s):bk (model prog w) A (.block [] env) R s:=by
 refine aT ?_;refine ac (Around.under_of_weight (by rfl) ..) ?_;exact ae (bF (ah (ah h)))
theorem jr{M:Model}{A:Around}{E:Value->Shared->Prop}{m:Sem α}{f:α->Sem β}{g:β->Sem γ}{Q:γ->Shared->Prop}(h:wpD M A (m>>=f) (fun b s'=>wpD M A (g b) Q E s') E s):wpD M A (m>>=fun a=>f a>>=g) Q E s:=by
 have:=ae h
 rwa [bind_assoc] at this
set_option backward.match.sparseCases false in
theorem pe(B:Bse w h₀)(I:IE F kk n)(S:IS F kk n)(Ro:Room c kk n){target:Expr}{rt:RT}(hT:m4 m k target=some rt){bd:List Stmt}{rb:List RS}(hB:allS (trS m k) bd=some rb){kI:Itk}{it:Addr}:    ∀ (f j:Nat) {Z:List Addr} {O O2:St} {s:Shared} {kps:List Keep} {fl:Flow},ItR Z c.lk kI j it kps->Rep { c with kp:=kps++c.kp } Z O s->EnvR k a env c Z->loopR kI (fun vs s=>(dT F a rt vs s).bind fun U s=>F.S a rb s) f j O=.ok fl O2->
  bk (model prog w) c.A (.forLoop target (.ref it) bd [] env) (fun r s'=>match r with | .ok f=>∃ Z',Z<+:Z'/\FR Z' fl f/\Rep c Z' O2 s' | .error _=>False) s:=by
 intro l_
 induction l_ with
 | zero=>
  intro c1_ c2_ c3_ c4_ c5_ c6_ c7_ c8_ c9_ c10_ e
  injection e
 | succ f ih_=>
  intro j Z O O2 s kps fl It R V e
  have e:(ga kI j O).bind (xK (fun vs s=>(dT F a rt vs s).bind fun U s=>F.S a rb s) (loopR kI (fun vs s=>(dT F a rt vs s).bind fun U s=>F.S a rb s) f (j+1)))=.ok fl O2:=e
  have hrec:∀ {Z:List Addr} {O:St} {s:Shared} {kps:List Keep},ItR Z c.lk kI (j+1) it kps->Rep { c with kp:=kps++c.kp } Z O s->EnvR k a env c Z->loopR kI (fun vs s=>(dT F a rt vs s).bind fun U s=>F.S a rb s) f (j+1) O=.ok fl O2->bk (model prog w) c.A (.forLoop target (.ref it) bd [] env) (fun r s'=>match r with | .ok f=>∃ Z',Z<+:Z'/\FR Z' fl f/\Rep c Z' O2 s' | .error _=>False) s:=fun It R V e=>ih_ (j+1) It R V e
  generalize loopR kI (fun vs s=>(dT F a rt vs s).bind fun U s=>F.S a rb s) f (j+1)=K at e hrec
  refine aT ?_;refine ac (Around.under_of_weight (by rfl) ..) ?_;refine bF ?_;refine am (E:=fun U U=>False) ?_ (fun U U x=>x) fun U U x=>x.elim;refine ae (bq ?_);induction z:ga kI j O with
  | bad=>rw [z] at e;injection e
  | exc C s=>exact absurd z gb
  | ok o O1=>
   obtain rfl:=lx z;rw [z] at e;induction o with
   | none=>
    injection e with z0_ z1_;subst z0_;subst z1_
    refine ae (bF (al (iw It R Ro.handled z fun h' tk R'=>?_)));exact ah (ao rfl rfl (k8 (aH Z (List.prefix_refl _) rfl R')))
   | some vs=>
    have e:r7 K ((dT F a rt vs O1).bind fun U s=>F.S a rb s)=.ok fl O2:=e
    induction z2:dT F a rt vs O1 with
    | bad=>rw [z2] at e;injection e
    | exc C s=>rw [z2] at e;injection e
    | ok u O3=>
     rw [z2] at e;have e:r7 K (F.S a rb O3)=.ok fl O2:=e;refine ae (bF (al (s_next_item It R z fun x h' tk kps' R' Im=>?_)));refine jr (am (iu B I Ro hT Im R' V z2) (fun U s3 z0_=>ai z0_ fun Z3 kps3 hp3 It3 R3=>?_) fun U U x=>x.elim);have V3:=V.mono hp3;have S3:=S m k bd rb a env { c with kp:=kps3++c.kp } Z3 O3 s3 hB R3 (V3.ctx rfl rfl) (Ro.ctx rfl rfl);induction z3:F.S a rb O3 with
     | bad=>rw [z3] at e;injection e
     | exc C s=>rw [z3] at e;injection e
     | ok fl' O4=>
      rw [z3] at e;refine ae (am (S3.run z3) (fun f4 s4 z0_=>az z0_ fun Z4 hp4 hf4 R4=>?_) fun U U x=>x.elim);induction fl' with
      | next=>
       cases hf4
       refine ah (ao rfl rfl (codeD_mono (hrec (It3.mono hp4) R4 (V3.mono hp4) e) fun r s5 h5=>?_));induction r with
       | error e=>exact h5
       | ok f5=>
        refine az h5 fun Z5 hp5 q1 q2=>?_;clear h5;exact(aH Z5 ((hp3.trans hp4).trans hp5) q1 q2)
      | ret v=>
       injection e with z0_ z1_;subst z0_;subst z1_
       refine af hf4 fun y z1 hy=>?_;clear hf4;subst z1;exact ah (aH Z4 (hp3.trans hp4) (ag y rfl hy) (vZ (It3.mono hp4) R4))
theorem fx{iter:Expr}{kd:Nat}{r:RE}(h:fC (trE m k) k iter=some (kd,r))(x:Value):foldedSetIterable iter env x=pure x:=by
 cases iter <;> first
  | rfl
  | (exfalso;rcases iterS_cases h with ⟨_,h⟩ | ⟨_,_,_,_,h,_⟩ <;> first | (cases h;done) | (induction m <;> exact aA h))
theorem xj(B:Bse w h₀)(I:IE F kk n)(S:IS F kk n)(Ro:Room c kk n){target iter:Expr}{rt:RT}(hT:m4 m k target=some rt){bd:List Stmt}{rb:List RS}(hB:allS (trS m k) bd=some rb){kd:Nat}{r:RE}(hi:fC (trE m k) k iter=some (kd,r)){pos:Pos}
  (R:Rep c Z O s)(V:EnvR k a env c Z) :
  Sd c Z FR ((F.E a r O).bind (iterR kd fun kI s=>loopK kI (fun vs s=>(dT F a rt vs s).bind fun U s=>F.S a rb s) s)) (exec (.For target iter bd [] pos) env) s:=by
 refine ac (arm_exec_For ..) ?_;refine Sd.stand ?_;refine n8 B I Ro hi R V fun kI x O' Z' s' hp R' P=>?_;refine ac (fx hi ..) ?_;intro hb;refine bZ (ln rfl hb) fun fl O1 O2 O3 e1 e2 e3 e4=>?_;refine ac e1 ?_;refine ae (ah (ae (bq (ae (au (al (s_pyIter R' P fun it kps lk' O1' h' tk g1 g2 R1 It=>?_)))))));rw [e2] at g1;obtain rfl:=Option.some.inj g1;refine bF (oo ?_ rfl (fun h=>aA h));have hA:c.A.mark none=c.A:=rfl;refine ac hA ?_;refine codeD_mono (pe (c:={ c with lk:=lk' }) B I S (Ro.ctx rfl rfl) hT hB 100 0 It R1 ((V.mono hp).ctx rfl rfl) e3) fun r s5 h5=>?_;induction r with
 | error e=>exact h5.elim
 | ok f5=>
  refine az h5 fun Z5 hp5 q1 q2=>?_;clear h5;exact(aH Z5 hp5 q1 (q2.close g2 e4))
end
theorem Rep.perm{kp kp':List Keep}(R:Rep { c with kp:=kp } Z O s)(h:kp'.Perm kp):Rep { c with kp:=kp' } Z O s:={ R with
 nd:=by
  have h1:((c.L::kp.map Keep.addr)++Z).Nodup:=R.nd
  exact(((h.map Keep.addr).cons c.L).append_right Z).nodup_iff.mpr h1
 fre:=fun b hb=>R.fre b (by
  have e:=((h.map Keep.addr).cons c.L).append_right Z
  exact e.mem_iff.mp hb)
 fu:=fun b hb=>(R.fu b hb).imp id fun z0_=>aj z0_ fun m x=>⟨m,h.mem_iff.mpr x⟩
 kept:=fun k hk=>R.kept k (h.mem_iff.mp hk) }
theorem mU{x:Keep}(l r:List Keep):(l++x::r).Perm (x::(l++r)):=List.perm_middle
theorem pg{A:Around}{E:Value->Shared->Prop}{Q:Value->Shared->Prop}{k:Itk}{j:Nat}{it:Addr}{kps:List Keep}(I:ItR Z c.lk k j it kps)(R:Rep { c with kp:=kps++c.kp } Z O s)(h:Q (.ref it) s):wpAny (model prog w) A (pyIter (.ref it)) Q E s:=by
 cases I with
 | list hi ho=>exact wpAny_pyIter_listiter (ag _ R.at_pin ho) h
 | keys hi hl hd ho=>exact wpAny_pyIter_keyiter (ag _ R.at_pin ho) h
 | range=>exact wpAny_pyIter_rangeiter R.at_pin h
 | enum hi ho=>
  have R2:Rep { c with kp:=.ob it _::.ob _ _::c.kp } Z O s:=R
  exact wpAny_pyIter_enum R2.at_pin h
 | rev hj hz=>exact nX R.at_pin h
theorem mJ{f:Str->Option Addr}:∀ {cl:List (Str×Addr)} {n:Str},(∀ p∈cl,f p.1=some p.2)->n∈cl.map (·.1)->cl.lookup n=f n:=by
 intro l_
 induction l_ with
 | nil=>
  intro c1_ c2_ h
  simp at h
 | cons p_ cl ih_=>
  intro n hf h
  refine ac (List.lookup_cons ..) ?_;induction hb:n==p_.1 with
  | true=>refine ac (beq_iff_eq.mp hb ..) ?_;exact(hf (p_.1,p_.2) (List.mem_cons_self ..)).symm
  | false=>
   rw [List.map_cons,List.mem_cons] at h;rcases h with h | h
   ·rw [h] at hb;simp at hb
   ·exact ih_ (fun p hp=>hf p (List.mem_cons_of_mem _ hp)) h
theorem uV{env:Env}:∀ (ns:List (Str×NameKind)) (cs:List (Str×Addr)),(∀ p∈ns,p.2=.free->∃ ad,env.cells.lookup p.1=some ad)->(∀ p∈cs,env.cells.lookup p.1=some p.2)->
  ∃ cl,(forIn ns cs (fun x r=>if (x.2==NameKind.free)=true then cellOf env x.1>>=fun a=>pure (ForInStep.yield ((x.1,a)::r)) else pure (ForInStep.yield r)):Sem (List (Str×Addr)))=pure cl/\(∀ p∈cl,env.cells.lookup p.1=some p.2)/\(∀ p∈ns,p.2=.free->p.1∈cl.map (·.1))/\(∀ n∈cs.map (·.1),n∈cl.map (·.1)):=by
 intro l_
 induction l_ with
 | nil=>
  intro cs c2_ hc
  exact(bR cs rfl hc (fun U h=>(absurd h List.not_mem_nil)) (fun U h=>h))
 | cons p_ ns ih_=>
  intro cs hn hc
  obtain ⟨x,q⟩:=p_
  refine ac (List.forIn_cons ..) ?_;by_cases hq:q=.free
  ·subst hq;refine aj (hn (x,.free) (List.mem_cons_self ..) rfl) fun ad had=>?_;refine aS (ih_ ((x,ad)::cs) (fun p hp=>hn p (List.mem_cons_of_mem _ hp)) (fun p hp=>by
    rcases List.mem_cons.mp hp with rfl | hp
    ·exact had
    ·exact hc p hp)) fun cl e h1 h2 h3=>?_
   refine(bR cl ?_ h1 (fun p hp hf=>?_) (fun n hn'=>h3 n (by simp only [List.map_cons];exact List.mem_cons_of_mem _ hn')))
   ·have e1:cellOf env x=pure ad:=by unfold cellOf;exact ac had rfl
    simp only [beq_self_eq_true,if_true,e1,pure_bind];exact e
   ·rcases List.mem_cons.mp hp with rfl | hp
    ·exact h3 x (by simp)
    ·exact h2 p hp hf
  ·refine aS (ih_ cs (fun p hp=>hn p (List.mem_cons_of_mem _ hp)) hc) fun cl e h1 h2 h3=>?_;refine(bR cl ?_ h1 (fun p hp hf=>?_) h3)
   ·have:(q==NameKind.free)=false:=by simpa using hq
    simp only [this,Bool.false_eq_true,if_false,pure_bind];exact e
   ·rcases List.mem_cons.mp hp with rfl | hp
    ·exact absurd hf hq
    ·exact h2 p hp hf
set_option tactic.hygienic true in
theorem mw{a:AEnv}:∀ {l:List Nm} {cells:List (Nm×Nat)},closeC a l=some cells->(∀ x∈l,∃ i,lk a.cells x=some i)/\(∀ x i,lk cells x=some i->x∈l/\lk a.cells x=some i):=by
 intro l_
 induction l_ with
 | nil=>
  intro cells h
  obtain rfl:=Option.some.inj h;exact⟨fun U h=>(absurd h List.not_mem_nil),fun U U h=>by exact aA h⟩
 | cons x l ih_=>
  intro cells h
  refine ai (fo h) fun i r e1 e2 z=>?_
  ·subst z;refine aq (ih_ e2) fun h1 h2=>?_;refine⟨fun y hy=>?_,fun y j hj=>?_⟩
   ·rcases List.mem_cons.mp hy with rfl | hy
    ·exact⟨i,e1⟩
    ·exact h1 y hy
   ·simp only [br,aP] at hj;split at hj
    ·rename_i hxy
     subst hxy;obtain rfl:=Option.some.inj hj;exact⟨List.mem_cons_self ..,e1⟩
    ·exact⟨List.mem_cons_of_mem _ (h2 y j hj).1,(h2 y j hj).2⟩
theorem gS{α β:Type}{f:α->Option β}:∀ {l:List α} {r:List β},allS f l=some r->∀ x∈l,∃ y∈r,f x=some y:=by
 intro l_
 induction l_ with
 | nil=>
  intro c1_ c2_ c3_ h
  exact absurd h List.not_mem_nil
 | cons a l ih_=>
  intro c1_ h x hx
  refine ai (aJ h) fun b r' e1 e2 z4=>?_;subst z4;rcases List.mem_cons.mp hx with rfl | hx
  ·exact(ag b (List.mem_cons_self ..) e1)
  ·refine af (ih_ e2 x hx) fun y hy e=>?_;exact(ag y (List.mem_cons_of_mem _ hy) e)
theorem iT{α β:Type}{f:α->Option β}:∀ {l:List α} {r:List β},allS f l=some r->∀ y∈r,∃ x∈l,f x=some y:=by
 intro l_
 induction l_ with
 | nil=>
  intro c1_ h c3_ hy
  obtain rfl:=Option.some.inj h;cases hy
 | cons a l ih_=>
  intro c1_ h y hy
  refine ai (aJ h) fun b r' e1 e2 z4=>?_;subst z4;rcases List.mem_cons.mp hy with rfl | hy
  ·exact(ag a (List.mem_cons_self ..) e1)
  ·refine af (ih_ e2 y hy) fun x hx e=>?_;exact(ag x (List.mem_cons_of_mem _ hx) e)
theorem k7{k:Kd}{a:AEnv}{env:Env}{sc:Scope}{frees:List Nm}{cells:List (Nm×Nat)}(V:EnvR k a env c Z)(hf:dF sc=some frees)(hc:closeC a frees=some cells):∃ cl,closureFor sc env=pure cl/\CR Z cells cl:=by
 refine aq (mw hc) fun h1 h2=>?_;refine aS (uV (env:=env) sc.names [] (fun p hp hq=>by
  refine af (gS hf p (List.mem_filter.mpr ⟨hp,by refine ac hq ?_;rfl⟩)) fun x hx e=>?_;refine aj (h1 x hx) fun i hi=>?_;refine af (V.cells x i hi) fun ad r1 U=>?_;rw [aB e] at r1;exact⟨ad,r1⟩) (fun U h=>(absurd h List.not_mem_nil))) fun cl e q1 q2 U=>?_
 refine(ag cl ?_ (fun x i hi=>?_))
 ·unfold closureFor;refine Eq.trans ?_ (congrArg (·>>=pure) e |>.trans rfl);simp
 ·refine aq (h2 x i hi) fun hx hi'=>?_;refine af (V.cells x i hi') fun ad r1 r2=>?_;refine af (iT hf x hx) fun p hp ep=>?_;have hpf:=List.mem_filter.mp hp;have:=q2 p hpf.1 (by simpa using hpf.2);rw [<- aB ep] at this;exact(ag ad ((mJ (f:=fun n=>env.cells.lookup n) q1 this).trans r1) r2)
theorem ip{env:Env}:∀ {names:List (Str×NameKind)} {x:Str} {q:NameKind},names.lookup x=some q->
   ((names.map fun (n,k)=>if (k==NameKind.free&&env.scope.kind==.function&&env.kindOf n==some .cell) then (n,NameKind.cell) else (n,k)).lookup x=some q∨(q=.free/\
   (names.map fun (n,k)=>if (k==NameKind.free&&env.scope.kind==.function&&env.kindOf n==some .cell) then (n,NameKind.cell) else (n,k)).lookup x=some .cell)):=by
 intro l_
 induction l_ with
 | nil=>
  intro c1_ c2_ h
  simp at h
 | cons p_ r ih_=>
  intro x q h
  obtain ⟨n,k⟩:=p_
  have ih:=ih_ (x:=x) (q:=q)
  show List.lookup x ((if (k==NameKind.free&&env.scope.kind==.function&&env.kindOf n==some .cell)=true then (n,NameKind.cell) else (n,k))::_)=_∨(_/\List.lookup x ((if (k==NameKind.free&&env.scope.kind==.function&&env.kindOf n==some .cell)=true then (n,NameKind.cell) else (n,k))::_)=_);induction hx:x==n with
  | true=>
   simp only [List.lookup_cons,hx] at h;obtain rfl:=Option.some.inj h;by_cases hc:(k==NameKind.free&&env.scope.kind==.function&&env.kindOf n==some .cell)=true
   ·refine ac (if_pos hc ..) ?_;refine .inr ⟨?_,by simp only [List.lookup_cons,hx]⟩;simp only [Bool.and_eq_true,beq_iff_eq] at hc;exact hc.1.1
   ·refine ac (if_neg hc ..) ?_;exact .inl (by simp only [List.lookup_cons,hx])
  | false=>
   simp only [List.lookup_cons,hx] at h;by_cases hc:(k==NameKind.free&&env.scope.kind==.function&&env.kindOf n==some .cell)=true
   ·refine ac (if_pos hc ..) ?_;simp only [List.lookup_cons,hx];exact ih h
   ·refine ac (if_neg hc ..) ?_;simp only [List.lookup_cons,hx];exact ih h
theorem im{sc:Scope}(h:lz sc=true):sc.kind=.function/\sc.isGenerator=false/\sc.isCoroutine=false/\(∀ x∈sc.names,x.2≠.cell)/\∀ x∈sc.names,x.2=.local->sc.names.lookup x.1=some .local:=by
 simp only [lz,Bool.and_eq_true,beq_iff_eq,List.all_eq_true,Bool.not_eq_true',bne_iff_ne,ne_eq,Bool.or_eq_true] at h;exact(lU h.1.1.1.1 h.1.1.1.2 h.1.1.2 h.1.2 (fun x hx hl=>(h.2 x hx).resolve_left (fun q=>q hl)))
theorem qk{k:Kd}{a:AEnv}{env:Env}{sc:Scope}{cells:List (Nm×Nat)}{cl:List (Str×Addr)}{L:Addr}{kp:List Keep}{A:Around}{lk:List (Nat×Obj)}(V:EnvR k a env c Z)(hs:sc.kind=.function)(hcr:CR Z' cells cl) :
  EnvR (fun x=>sc.names.lookup x) ⟨cells,a.tab⟩ (compEnvC sc cl L env) ⟨c.fs,kp,L,A,lk⟩ Z' where
 L:=rfl
 kind:=hs
 kd:=fun x q h=>ip h
 cells:=hcr
 glob:=V.glob
 frame:=V.frame
 tab:=V.tab
theorem qW{M:Model}{A:Around}{E:Value->Shared->Prop}{scope:Scope}{g:Addr}{cl:List (Str×Addr)}{qual:Str}{env:Env}{Q:Env->Shared->Prop}(hc:∀ x∈scope.names,x.2≠.cell)
  (hQ:Q (newEnv scope s.heap.objs.size g cl qual none .none (some env) builtinsNs) { s with heap:=s.heap.push { cls:=.type "dict",data:=.dict #[] } }) :
  wpAny M A (newFunctionEnv scope g cl [] qual none .none (some env)) Q E s:=by
 delta newFunctionEnv
 dsimp only;refine wpAny_bind (wpAny_alloc ?_);rw [forIn_yield_id cl (fun x hx c=>by
   obtain ⟨name,kind⟩:=x
   have:(kind==NameKind.cell)=false:=by simpa using hc _ hx
   simp only [this,Bool.false_eq_true,if_false])]
 refine wpAny_bind (wpAny_pure (wpAny_bind ?_));exact wpAny_pure (wpAny_pure hQ)
end Mine.Lake
end
section
set_option backward.match.sparseCases false
open PySem PySem.W PySem.Calls PyProof.Rows PySem.SeqAt PySem.MeetsSeq
open PySem.Sem (wp)
namespace Mine.Lake
variable {c:Cx}{Z Z':List Addr}{O O':St}{s s':Shared}{h':Heap}{α β γ δ:Type}
noncomputable def oY(env:Env):Expr->Bool->Sem (ForInStep Bool):=fun c r=>if r=true then do let ok <- isTrue c env (eval c env);pure (ForInStep.yield ok) else pure (ForInStep.yield r)
theorem iZ(env:Env):∀ ifs:List Expr,(forIn ifs false (oY env):Sem Bool)=pure false
 | []=>rfl
 | e::es=>by
  refine ac (List.forIn_cons ..) ?_;simp only [oY,Bool.false_eq_true,if_false,pure_bind];exact iZ env es
section
variable {C:b9}{F:Fns}{kk n m:Nat}{k:Kd}{a:AEnv}{env:Env}
theorem xl(IT':IT F kk n)(Ro:Room c kk n):∀ {es:List Expr} {rs:List RE} {Z:List Addr} {O:St} {s:Shared},allS (trE m k) es=some rs->Rep c Z O s->EnvR k a env c Z->
  Sd c Z (fun _ (b:Bool) (x:Bool)=>x=b) (dP F a .And rs O) (forIn es true (oY env)) s:=by
 intro l_
 induction l_ with
 | nil=>
  intro c1_ c2_ c3_ c4_ h R V
  obtain rfl:=Option.some.inj h;exact Sd.ret R rfl
 | cons e es ih_=>
  intro c1_ Z O s h R V
  refine ai (aJ h) fun b r' e1 e2 z4=>?_;subst z4;have e0:(forIn (e::es) true (oY env):Sem Bool)=(isTrue e env (eval e env)>>=fun b=>forIn es b (oY env)):=by refine ac (List.forIn_cons ..) ?_;simp [oY]
  refine Sd.eq e0 ?_;refine Sd.bind (IT' _ _ _ _ _ _ _ _ _ _ e1 R V Ro) fun v O' Z' y s' ex hp hy R'=>?_;subst hy;induction y
  ·exact ac (iZ ..) (Sd.ret R' rfl)
  ·exact ih_ e2 R' (V.mono hp)
def dq(F:Fns)(a:AEnv)(x:Nm)(ifs:List RE)(elt:RE)(i:Nat):List AV->St->Res Flow:=fun vs s=>(asgL F a [.loc x] vs s).bind fun U s=>(dP F a .And ifs s).bind fun b s=>
 if b then (F.E a elt s).bind fun v s=>apB i v s
 else .ok .next s
theorem ra{A:Around}{E:Value->Shared->Prop}{Q:Value->Shared->Prop}{i:Nat}{l:List AV}{v:AV}{x:Value}{acc:Addr}(R:Rep c Z O s)(e:O.H i=some (.li l))(hl:l.length<1000)(hi:Z[i]?=some acc)(hv:VR Z v x)
  (h:∀ h',Rep c Z (O.set i (.li (l++[v]))) { s with heap:=h' }->Q .none { s with heap:=h' }):wpAny (model prog w) A (call (.builtin "list.append") [.ref acc,x]) Q E s:=by
 refine ar (R.li e) fun a1 ys m r1 L1 h1=>?_;rw [hi] at r1;obtain rfl:=Option.some.inj r1;have hlen:=h1.length;refine call_meets PySem.F.slot_list_append (ag _ L1 rfl) PySem.F.entry_list_append (PySem.F.args_list_append_2 _ _) (list_append acc ys.toArray m x (by refine ac sizeLine_eq ?_;simp;lia)) ⟨L1,?_⟩;exact h _ (R.setList (cV e rfl) hi L1 (xs':=ys++[x]) (by simp) (h1.append ⟨hv,trivial⟩))
theorem mW(B:Bse w h₀)(I:IE F kk n)(IT':IT F kk n)(Ro:Room c kk n){xs:Str}{x:Nm}{px:Pos}(hx:nmOf xs=some x)(hk:k xs=some .local){ifs:List Expr}{rifs:List RE}(hifs:allS (trE m k) ifs=some rifs){elt:Expr}{relt:RE}(helt:trE m k elt=some relt)
  {iter:Expr}{scope:Scope}{pos:Pos}{kI:Itk}{it acc:Addr}{i:Nat}:    ∀ (f j:Nat) {Z:List Addr} {O O2:St} {s:Shared} {kps:List Keep} {fl:Flow},ItR Z c.lk kI j it kps->Rep { c with kp:=kps++c.kp } Z O s->EnvR k a env c Z->Z[i]?=some acc->loopR kI (dq F a x rifs relt i) f j O=.ok fl O2->
  bk (model prog w) c.A (.compLoop (.ListComp elt [⟨.Name xs px,iter,ifs,0⟩] scope pos) 0 (.ref it) (.ref acc) env) (fun r s'=>match r with | .ok _=>fl=.next/\∃ Z',Z<+:Z'/\Rep c Z' O2 s' | .error _=>False) s:=by
 intro l_
 induction l_ with
 | zero=>
  intro c1_ c2_ c3_ c4_ c5_ c6_ c7_ c8_ c9_ c10_ c11_ e
  injection e
 | succ f ih_=>
  intro j Z O O2 s kps fl It R V hacc e
  have e:(ga kI j O).bind (xK (dq F a x rifs relt i) (loopR kI (dq F a x rifs relt i) f (j+1)))=.ok fl O2:=e
  have hrec:∀ {Z:List Addr} {O:St} {s:Shared} {kps:List Keep},ItR Z c.lk kI (j+1) it kps->Rep { c with kp:=kps++c.kp } Z O s->EnvR k a env c Z->Z[i]?=some acc->loopR kI (dq F a x rifs relt i) f (j+1) O=.ok fl O2->bk (model prog w) c.A (.compLoop (.ListComp elt [⟨.Name xs px,iter,ifs,0⟩] scope pos) 0 (.ref it) (.ref acc) env) (fun r s'=>match r with | .ok _=>fl=.next/\∃ Z',Z<+:Z'/\Rep c Z' O2 s' | .error _=>False) s:=fun It R V h e=>ih_ (j+1) It R V h e
  generalize loopR kI (dq F a x rifs relt i) f (j+1)=K at e hrec
  refine aT ?_;refine ac (Around.under_of_weight (by rfl) ..) ?_;refine bF ?_;refine am (E:=fun U U=>False) ?_ (fun U U x=>x) fun U U x=>x.elim;refine ac (compTurn_list ..) ?_;refine ae (bq ?_);induction z:ga kI j O with
  | bad=>rw [z] at e;injection e
  | exc C s=>exact absurd z gb
  | ok o O1=>
   obtain rfl:=lx z;rw [z] at e;induction o with
   | none=>
    injection e with z0_ z1_;subst z0_;subst z1_
    refine ae (al (iw It R Ro.handled z fun h' tk R'=>?_));exact ah ⟨rfl,Z,List.prefix_refl _,R'⟩
   | some vs=>
    have e:r7 K (dq F a x rifs relt i vs O1)=.ok fl O2:=e
    have hT:m4 m k (.Name xs px)=some (.one (.loc x)):=ub hx hk
    refine ae (al (s_next_item It R z fun xv h' tk kps' R' Im=>?_));induction z1:asgL F a [.loc x] vs O1 with
    | bad=>unfold dq at e;rw [z1] at e;injection e
    | exc C s=>unfold dq at e;rw [z1] at e;injection e
    | ok u O3=>
     have eB:dq F a x rifs relt i vs O1=((dP F a .And rifs O3).bind fun b s=>
      (if b then (F.E a relt s).bind fun v s=>(apB i v s:Res Flow)
      else .ok .next s:Res Flow)):=by unfold dq;refine ac z1 ?_;rfl
     rw [eB] at e;refine jr (am (iu B I Ro hT Im R' V (show dT F a (.one (.loc x)) vs O1=.ok () O3 from z1)) (fun U s3 z0_=>ai z0_ fun Z3 kps3 hp3 It3 R3=>?_) fun U U x=>x.elim);have V3:=V.mono hp3;have T3:=xl (c:={ c with kp:=kps3++c.kp }) IT' (Ro.ctx rfl rfl) hifs R3 (V3.ctx rfl rfl);induction z3:dP F a .And rifs O3 with
     | bad=>rw [z3] at e;injection e
     | exc C s=>rw [z3] at e;injection e
     | ok b O4=>
      rw [z3] at e;refine ae (am (T3.run z3) (fun ok s4 z0_=>az z0_ fun Z4 hp4 hb4 R4=>?_) fun U U x=>x.elim);subst hb4;have next:∀ {Z5:List Addr} {O5:St} {s5:Shared},Z4<+:Z5->Rep { c with kp:=kps3++c.kp } Z5 O5 s5->K O5=.ok fl O2->
        bk (model prog w) c.A (.compLoop (.ListComp elt [⟨.Name xs px,iter,ifs,0⟩] scope pos) 0 (.ref it) (.ref acc) env) (fun r s'=>match r with | .ok _=>fl=.next/\∃ Z',Z<+:Z'/\Rep c Z' O2 s' | .error _=>False) s5:=fun {Z5 O5 s5} hp5 R5 e5=>by
       have hp:=(hp3.trans hp4).trans hp5
       refine codeD_mono (hrec (It3.mono (hp4.trans hp5)) R5 (V.mono hp) (bt hp hacc) e5) fun r s6 h6=>?_;induction r with
       | error e=>exact h6
       | ok f5=>
        refine cC h6 fun q0 Z6 hp6 q1=>?_;clear h6;exact⟨q0,Z6,hp.trans hp6,q1⟩
      induction ok with
      | false=>exact ah (ao rfl rfl (next (List.prefix_refl _) R4 e))
      | true=>
       have e:r7 K ((F.E a relt O4).bind (apB i))=.ok fl O2:=e
       have E4:=I m k elt relt a env { c with kp:=kps3++c.kp } Z4 O4 s4 helt R4 ((V3.mono hp4).ctx rfl rfl) (Ro.ctx rfl rfl)
       induction z4:F.E a relt O4 with
       | bad=>rw [z4] at e;injection e
       | exc C s=>rw [z4] at e;injection e
       | ok v O5=>
        rw [z4] at e;have e:r7 K (fK (O5.H i) (yN i v O5) .bad)=.ok fl O2:=e;refine ae (ae (am (E4.run z4) (fun y s5 z0_=>az z0_ fun Z5 hp5 hv5 R5=>?_) fun U U x=>x.elim));induction z5:O5.H i with
        | none=>rw [z5] at e;injection e
        | some o=>
         induction o with
         | li l=>
          rw [z5] at e;by_cases hl:l.length<1000
          ·have e:r7 K (ite _ (.ok .next (O5.set i (.li (l++[v])))) .bad)=.ok fl O2:=e
           rw [if_pos hl] at e;refine ae (al (ra R5 z5 hl (bt ((hp3.trans hp4).trans hp5) hacc) hv5 fun h6 R6=>?_));refine ah ?_;exact ah (ao rfl rfl (next hp5 R6 e))
          ·have e:r7 K (ite _ (.ok .next (O5.set i (.li (l++[v])))) .bad)=.ok fl O2:=e
           rw [if_neg hl] at e;injection e
         | _=>rw [z5] at e;injection e
end
end Mine.Lake
end
section
open PySem PySem.W PySem.Calls PyProof.Rows PySem.SeqAt PySem.MeetsSeq
open PySem.Sem (wp)
namespace Mine.Lake
variable {c:Cx}{Z Z':List Addr}{O O':St}{s s':Shared}{h':Heap}{α β γ δ:Type}
theorem Res.assoc(x:Res α)(f:α->St->Res β)(g:β->St->Res γ):(x.bind f).bind g=x.bind fun a s=>(f a s).bind g:=by induction x <;> rfl
theorem mE(kd:Nat)(K:Itk->St->Res α)(G:α->St->Res γ)(v:AV)(s:St):(iterR kd K v s).bind G=iterR kd (fun kI s=>(K kI s).bind G) v s:=by
 unfold iterR;cases itkOf kd v s <;> rfl
def hZ(F:Fns)(a:AEnv)(x:Nm)(ifs:List RE)(elt:RE)(frees:List Nm)(kI:Itk)(O:St):Res AV:=match closeC a frees with
 | some cells=>(loopK kI (dq F ⟨cells,a.tab⟩ x ifs elt O.n) { O.push (.li []) with m:=[] }).bind fun fl s=>match fl with | .next=>.ok (.obj O.n) { s with m:=O.m } | .ret _=>.bad
 | none=>.bad
theorem iy(C:b9)(F:Fns)(a:AEnv)(elt:RE)(x:Nm)(kd:Nat)(it:RE)(ifs:List RE)(frees:List Nm)(O:St) :
  stepE C F a (.comp elt x kd it ifs frees) O=(F.E a it O).bind (iterR kd (hZ F a x ifs elt frees)):=by
 show ((F.E a it O).bind fun v s=>_)=_
 congr 1
 funext v s
 unfold iterR;induction e1:itkOf kd v s with
 | none=>rfl
 | some k=>
  unfold hZ;induction e2:closeC a frees with
  | none=>rfl
  | some cells=>rfl
theorem lM{M:Model}{A:Around}{E:Value->Shared->Prop}{p:Prop}[Decidable p]{pos:Pos}{k:PUnit->Sem α}{Q:α->Shared->Prop}(h:wpD M A (k ()) Q E s):wpD M A (if p then (standAt pos>>=k) else k ()) Q E s:=by
 split
 ·exact ae (bq h)
 ·exact h
theorem o6{kI:Itk}{O1 O1':St}{o:AO}(h:O.H O.n=none)(e:lockS kI { O.push o with m:=[] }=some O1)(g:lockS kI O=some O1'):O1={ O1'.push o with m:=[] }/\O1'.n=O.n/\O1'.m=O.m:=by
 have other:some { O.push o with m:=[] }=some O1->some O=some O1'->O1={ O1'.push o with m:=[] }/\O1'.n=O.n/\O1'.m=O.m:=fun e g=>by
  obtain rfl:=Option.some.inj e;obtain rfl:=Option.some.inj g;exact(ao rfl rfl rfl)
 induction kI with
 | keys i=>
  have e:xJ { O.push o with m:=[] } i ((O.push o).H i)=some O1:=e
  have g:xJ O i (O.H i)=some O1':=g
  induction q:O.H i with
  | none=>rw [q] at g;exact aA g
  | some ob=>
   have hne:i≠O.n:=fun z=>by rw [z,h] at q;exact aA q
   have q2:(O.push o).H i=some ob:=by simp only [St.push,if_neg hne];exact q
   rw [q] at g;rw [q2] at e;induction ob with
   | idd l=>
    obtain rfl:=Option.some.inj e;obtain rfl:=Option.some.inj g;refine(ao ?_ rfl rfl);simp only [St.push,St.set,St.mk.injEq,and_true]
    funext j
    by_cases h1:j=i
    ·subst h1;simp only [if_true,if_neg hne]
    ·simp only [if_neg h1]
   | _=>exact aA g
 | _=>exact other e g
section
variable {C:b9}{F:Fns}{kk n m:Nat}{k:Kd}{a:AEnv}{env:Env}
theorem gD{R:Result->Shared->Prop}{A:Around}{elt target iter:Expr}{ifs:List Expr}{scope:Scope}{pos:Pos}{it acc:Value}
  (h0:bk (model prog w) A (.compLoop (.ListComp elt [⟨target,iter,ifs,0⟩] scope pos) 0 it acc env) R s)
  (h:wpAny (model prog w) A (pyIter it) (fun it' s'=>bk (model prog w) A (.compLoop (.ListComp elt [⟨target,iter,ifs,0⟩] scope pos) 0 it' acc env) R s') (fun U U=>False) s) :
  bk (model prog w) A (.compStart (.ListComp elt [⟨target,iter,ifs,0⟩] scope pos) 0 it acc env) R s:=by
 refine aT ?_;refine ac (Around.under_of_weight (by rfl) ..) ?_;refine bF ?_;refine am (E:=fun U U=>False) ?_ (fun U U x=>x) fun U U x=>x.elim;refine ae (al (wpAny_askSetting ?_));split
 ·exact ae (ah (ah (ao rfl rfl h0)))
 ·refine ae (dy ?_);refine ae (bq (ae (al (wpAny_mono h (fun it' s' h'=>ah (ao rfl rfl h')) fun U U x=>x.elim))))
theorem vb{α:Type}{P:α->Prop}{a:α}(h:∀ x,x=a->P x):P a:=h a rfl
theorem re(B:Bse w h₀)(I:IE F kk n)(IT':IT F kk n)(Ro:Room c kk n){xs:Str}{x:Nm}{px:Pos}{sc:Scope}(hx:nmOf xs=some x)(hk:sc.names.lookup xs=some .local){ifs:List Expr}{rifs:List RE}(hifs:allS (trE m fun z=>sc.names.lookup z) ifs=some rifs){elt:Expr}{relt:RE}(helt:trE m (fun z=>sc.names.lookup z) elt=some relt)
  {iter:Expr}{kd:Nat}{r:RE}(hi:fC (trE m k) k iter=some (kd,r)){frees:List Nm}(hf:dF sc=some frees)(hsc:lz sc=true){pos p2:Pos}(R:Rep c Z O s)(V:EnvR k a env c Z)
  {use:Option (Value->Sem Unit)}{G:AV->St->Res γ}{rel:List Addr->γ->Value->Prop}
   (hu:∀ v O' Z' y s' C o,Z<+:Z'->VR Z' v y->Rep { c with kp:=.ob C o::c.kp } Z' O' s'->G v O'≠.bad->wpD (model prog w) c.A (match use with | none=>pure () | some u=>u y)
   (fun z_ s''=>∃ Z'' O'' g,G v O'=.ok g O''/\Z'<+:Z''/\rel Z'' g (match use with | none=>y | some _=>.none)/\Rep { c with kp:=.ob C o::c.kp } Z'' O'' s'') (fun z_ z_=>False) s') :
  Sd c Z rel (((F.E a r O).bind (iterR kd (hZ F a x rifs relt frees))).bind G) (comprehension (.ListComp elt [⟨.Name xs px,iter,ifs,0⟩] sc pos) sc env p2 (newList []) false (eval iter env) use) s:=by
 refine dz (im hsc) fun hkind z_ z_ hcell hnames=>?_;refine ac (Res.assoc ..) ?_;refine Sd.eqr (r':=(F.E a r O).bind (iterR kd fun kI s=>(hZ F a x rifs relt frees kI s).bind G)) (by congr 1;funext v s;exact mE ..) ?_;refine n8 B I Ro hi R V fun kI xv O' Z' s' hp R' P=>?_;refine vb (P:=fun t=>Sd c Z' rel _ t s') fun T hT=>?_;intro hb;induction cc:closeC a frees with
 | none=>unfold hZ at hb;rw [cc] at hb;exact absurd rfl hb
 | some cells=>
  have hK:hZ F a x rifs relt frees kI O'=(loopK kI (dq F ⟨cells,a.tab⟩ x rifs relt O'.n) { O'.push (.li []) with m:=[] }).bind fun fl s=>match fl with | .next=>.ok (.obj O'.n) { s with m:=O'.m } | .ret _=>.bad:=by
   unfold hZ;exact ac cc rfl
  rw [hK] at hb ⊢;refine af (k7 (V.mono hp) hf cc) fun cl hcl hcr=>?_;refine bZ (ln (O:={ O'.push (.li []) with m:=[] }) (k:=kI) (body:=dq F ⟨cells,a.tab⟩ x rifs relt O'.n) rfl (fun q=>by rw [q] at hb;exact hb rfl)) fun fl O1 O2 O3 e1 e2 e3 e4=>?_;rw [e1] at hb ⊢;induction fl with
  | ret v=>exact absurd rfl hb
  | next=>
   have hb:G (.obj O'.n) { O3 with m:=O'.m }≠.bad:=hb
   show wpD _ _ _ (okP c Z' rel (G (.obj O'.n) { O3 with m:=O'.m })) (oV c Z' (G (.obj O'.n) { O3 with m:=O'.m })) _;subst hT;refine ac hcl ?_;refine ae (bq (ae (m8 (fx hi xv) (ah ?_))));refine ae (au (al (s_pyIter R' P fun it kps lk' O1' h' tk g1 g2 R1 It=>?_)));refine aM (o6 (R'.hn _ (Nat.le_refl _)) e2 g1) fun z0 gn gm=>?_;subst z0;refine lM (ae (am ((jn (c:={ c with kp:=kps++c.kp,lk:=lk' }) (l:=[]) (xs:=[]) R1 trivial rfl).run rfl) (fun acc s2 z0_=>az z0_ fun Z2 hp2 hacc R2=>?_) fun z_ z_ x=>x.elim));refine af hacc fun aa haa z2=>?_;clear hacc;subst z2;refine ae (ah (ae (al (qW hcell ?_))));have R3:=R2.enter (o:={ cls:=.type "dict",data:=.dict #[] }) (A:=c.A) (t':=s2.toks) rfl rfl;have hCf:s2.heap.objs.size∉({ c with kp:=kps++c.kp,lk:=lk' }:Cx).own++Z2:=(R2.fresh (get?_size s2.heap)).2;have hCfr:∀ b∈gJ c.fs,b≠s2.heap.objs.size:=fun b hb' q=>hCf (q▸List.mem_append_left _ (R2.fr_own hb'));generalize s2.heap.objs.size=CC at R3 hCf hCfr ⊢;have R4:Rep { (⟨c.fs,.ns c.L O1'.m::c.kp,CC,c.A,lk'⟩:Cx) with kp:=kps++(.ns c.L O1'.m::c.kp) } Z2 { O1'.push (.li []) with m:=[] } { s2 with heap:=s2.heap.push { cls:=.type "dict",data:=.dict #[] } }:=
    Rep.perm (c:=⟨c.fs,[],CC,c.A,lk'⟩) R3 (mU kps c.kp)
   have V4:EnvR (fun x=>sc.names.lookup x) ⟨cells,a.tab⟩ (compEnvC sc cl CC env) ⟨c.fs,.ns c.L O1'.m::c.kp,CC,c.A,lk'⟩ Z2:=qk (V.mono hp) hkind (hcr.mono hp2)
   have haa':Z2[O'.n]?=some aa:=gn▸haa
   have hloop:=mW (c:=⟨c.fs,.ns c.L O1'.m::c.kp,CC,c.A,lk'⟩) (env:=compEnvC sc cl CC env) (px:=px) (iter:=iter) (scope:=sc) (pos:=pos) (acc:=aa) (i:=O'.n) B I IT' (Ro.ctx rfl rfl) hx hk hifs helt 100 0 (It.mono hp2) R4 V4 haa' e3
   have hcode:bk (model prog w) c.A (.compStart (.ListComp elt [⟨.Name xs px,iter,ifs,0⟩] sc pos) 0 (.ref it) (.ref aa) (compEnvC sc cl CC env)) _ { s2 with heap:=s2.heap.push { cls:=.type "dict",data:=.dict #[] } }:=gD hloop (pg (c:=⟨c.fs,.ns c.L O1'.m::c.kp,CC,c.A,lk'⟩) (It.mono hp2) R4 hloop)
   have hv:∀ x∈(sc.names.filter fun x=>(x.2==.local||x.2==.cell)&&x.1 != (".0":Str)).reverse,x.2=.local->Env.kindOf (compEnvC sc cl CC env) x.1=some .local:=fun x hx hl=>lookup_relabel_local (hnames x (List.mem_filter.mp (List.mem_reverse.mp hx)).1 hl)
   have hv':∀ x∈(sc.names.filter fun x=>(x.2==.local||x.2==.cell)&&x.1 != (".0":Str)).reverse.drop 1++(sc.names.filter fun x=>(x.2==.local||x.2==.cell)&&x.1 != (".0":Str)).reverse.take 1,
     x.2=.local->Env.kindOf (compEnvC sc cl CC env) x.1=some .local:=fun x hx hl=>by
    rcases List.mem_append.mp hx with h1 | h1
    ·exact hv x (List.mem_of_mem_drop h1) hl
    ·exact hv x (List.mem_of_mem_take h1) hl
   refine au (ae (d9 (au (oo (codeD_mono hcode fun r5 s5 h5=>?_) rfl (fun h=>aA h)))));induction r5 with
   | error e=>exact h5.elim
   | ok f5=>
    refine cC h5 fun z_ Z5 hp5 R5=>?_;clear h5;have R5':Rep ⟨c.fs,.ns c.L O1'.m::c.kp,CC,c.A,c.lk⟩ Z5 O3 s5:=Rep.close (c:=⟨c.fs,.ns c.L O1'.m::c.kp,CC,c.A,lk'⟩) R5 g2 e4;refine af R5'.vars fun mm z1 hmm=>?_;refine ar z1 fun o es ep ho hd hr=>?_;clear z1;have R6:Rep ⟨c.fs,c.kp,c.L,c.A,c.lk⟩ Z5 { O3 with m:=O1'.m } s5:=R5'.leave R5'.ff (fun z_ h=>h) hCfr;rw [gm] at R6;have hno:CC∉c.own++Z5:=by
     have h1:(CC::(c.L::c.kp.map Keep.addr++Z5)).Nodup:=R5'.nd
     exact(List.nodup_cons.mp h1).1
    have R7:=Rep.pin (c:=c) R6 (R5'.fre CC Rep.L_own).1 hno ho
    have U:=hu (.obj O'.n) { O3 with m:=O'.m } Z5 (.ref aa) s5 CC o ((hp.trans hp2).trans hp5) (ag aa (bt hp5 haa') rfl) R7 hb
    induction use with
    | none=>
     refine m8 (t':=(pure ():Sem Unit)>>=fun z_=>_) rfl (ae (am U (fun z_ s6 z0_=>aK z0_ fun Z6 O6 g q1 q2 q3 R8=>?_) fun z_ z_ x=>x.elim));refine ae (au (al (wpAny_comp_letGo (cenv:=compEnvC sc cl CC env) hkind _ s6 mm hv (aY o es ep R8.at_pin hd hr) fun h7 m7 z_ hs7=>?_)));refine ah ?_;refine ac q1 ?_;exact(aH Z6 ((hp2.trans hp5).trans q2) q3 (R8.drop (t':=s6.toks) hs7.extBut))
    | some u=>
     refine ae (dy (ae (au (am U (fun z_ s6 z0_=>aK z0_ fun Z6 O6 g q1 q2 q3 R8=>?_) fun z_ z_ x=>x.elim))));refine ae (al (wpAny_comp_letGo (cenv:=compEnvC sc cl CC env) hkind _ s6 mm hv' (aY o es ep R8.at_pin hd hr) fun h7 m7 z_ hs7=>?_));refine ah ?_;refine ac q1 ?_;exact(aH Z6 ((hp2.trans hp5).trans q2) q3 (R8.drop (t':=s6.toks) hs7.extBut))
end
theorem uq{α:Type}{p P:Prop}[Decidable p]{x a b v:α}(h:ite p x a=v)(f:a=v->b=v∨P):ite p x b=v∨P:=by
 by_cases q:p
 ·rw [if_pos q] at h;exact .inl ((if_pos q).trans h)
 ·rw [if_neg q] at h;exact(f h).elim (fun e=>.inl ((if_neg q).trans e)) .inr
theorem wX{α:Type}{p:Prop}[Decidable p]{x v:α}{a:Option α}(h:ite p (some x) a=some v):a=some v∨v=x:=by
 by_cases q:p
 ·rw [if_pos q] at h;exact .inr (Option.some.inj h).symm
 ·rw [if_neg q] at h;exact .inl h
theorem oE{pos:Pos}{v:Value}(l r:List Value)(ht:TriplesOk l)(h:codeAmong pos l=some v):codeAmong pos (l++r)=some v:=by
 fun_induction TriplesOk l with
 | case1=>exact aA h
 | case2 a' t b' u x rest ih=>
  have h:ite _ (some x) (codeAmong pos rest)=some v:=h
  exact(uq (b:=codeAmong pos (rest++r)) (P:=False) h fun e=>.inl (ih ht e)).elim id False.elim
 | case3=>exact ht.elim
theorem among_snoc{pos:Pos}{v c:Value}{a b:Int}(l:List Value)(ht:TriplesOk l)(h:codeAmong pos (l++[rawInt a,rawInt b,c])=some v):codeAmong pos l=some v∨v=c:=by
 fun_induction TriplesOk l with
 | case1=>
  have h:ite _ (some c) (codeAmong pos [])=some v:=h
  exact wX h
 | case2 a' t b' u x rest ih=>
  have h:ite _ (some x) (codeAmong pos (rest++[rawInt a,rawInt b,c]))=some v:=h
  exact uq h (ih ht)
 | case3 l h1 h2=>exact ht.elim
theorem vp{h:Heap}{b P:Addr}{ps:Array Value}{q:Str}(x:h.CodeRec (.ref b) q)(e:h.get? P=some (tabObj ps))(ht:TriplesOk ps.toList):b≠P:=fun eq=>by
 refine bZ x fun c₂ o vs t e₂ g d r=>?_;clear x;injection e₂ with z0_;subst z0_
 rw [eq,e] at g;obtain rfl:=Option.some.inj g;injection d with z0_;subst z0_
 exact triples_no_str ht q t (by simpa using r)
theorem Rep.table{P c':Addr}{ps:Array Value}{a b:Int}{qual:Str}{t':Nat}(R:Rep c Z O s)(hP:P∈bn)(hps:s.heap.get? P=some (tabObj ps))(ht:TriplesOk ps.toList)(hx:Heap.ExtBut P s.heap h')(hc':s.heap.objs.size<=c')(hrec:h'.CodeRec (.ref c') qual)
  (hn:h'.get? P=some (tabObj (ps++#[rawInt a,rawInt b,.ref c']))):Rep c Z O { s with heap:=h',toks:=t' }:=by
 have list_eq:(ps++#[rawInt a,rawInt b,.ref c']).toList=ps.toList++[rawInt a,rawInt b,.ref c']:=by simp
 have neP:∀ x∈c.own++Z,x≠P:=fun x hxm q=>(R.fre x hxm).1.2 (.inl (q▸hP))
 have hPt:∀ x,Pt s.heap x->Pt h' x:=fun x hxp=>by
  rcases hxp with hxp | ⟨P',ps',pos',hP',e,q⟩
  ·exact .inl hxp
  ·by_cases hPP:P'=P
   ·subst hPP;rw [hps] at e;cases e;exact .inr (aY P' _ pos' hP' hn (by refine ac list_eq ?_;exact oE _ _ ht q))
   ·exact .inr (aY P' ps' pos' hP' (hx _ _ hPP e) q)
 have hPt':∀ x,Pt h' x->Pt s.heap x∨x=c':=fun x hxp=>by
  rcases hxp with hxp | ⟨P',ps',pos',hP',e,q⟩
  ·exact .inl (.inl hxp)
  ·by_cases hPP:P'=P
   ·subst hPP;rw [hn] at e;cases e;rw [list_eq] at q;rcases among_snoc _ ht q with q | q
    ·exact .inl (.inr (aY P' ps pos' hP' hps q))
    ·injection q with z0_;subst z0_;exact .inr rfl
   ·refine af (fL hP') fun t htl z2=>?_;subst z2;refine af ((R.tabs t htl).tab) fun ps2 e2 U=>?_;have e3:=hx _ _ hPP e2;rw [e] at e3;cases e3;exact .inl (.inr (aY _ ps' pos' hP' e2 q))
 have hRec:∀ {x:Addr} {q:Str},s.heap.CodeRec (.ref x) q->h'.CodeRec (.ref x) q:=fun {x q} hxr=>by
  have ne:=vp hxr hps ht
  refine bZ hxr fun c₂ o vs t e₂ g d r=>?_;clear hxr;injection e₂ with z0_;subst z0_
  exact(cu _ o vs t rfl (hx _ _ ne g) d r)
 have lt_c:∀ x∈c.own++Z,x≠c':=fun x hxm q=>by
  have:=R.lt hxm
  rw [q] at this;exact Nat.lt_irrefl _ (Nat.lt_of_lt_of_le this hc')
 have mean:∀ {d:AO} {o:Obj},Means Z s.heap d o->Means Z h' d o:=fun {d o} q=>by
  induction d with
  | lam b cs=>
   refine af q fun fd e L=>?_;clear q;exact(ag fd e ({ L with code:=ai L.code fun b q x y z=>(ax b q x (hPt _ y) (hRec z)) }))
  | ce v=>exact q
  | inst C d=>exact q
  | sd l=>exact q
  | idd l=>exact q
  | frz l=>exact q
  | fl l=>exact q
  | li l=>exact q
  | tu l=>exact q
  | ba b=>exact q
 exact {
  sh:=by have:=R.sh;exact ac this rfl
  base:=fun b o e=>hx b o (fun q=>by have:=R.hid P hP;rw [<- q,e] at this;exact aA this.symm) (R.base b o e)
  len:=R.len
  hn:=R.hn
  own:=fun i o e=>by
   refine ai (R.own i o e) fun x ob x1 x2 x3=>?_;exact(ax x ob x1 (hx _ _ (neP x (List.mem_append_right _ (List.mem_of_getElem? x1))) x2) (mean x3))
  nd:=R.nd
  fre:=fun x hxm=>⟨⟨(R.fre x hxm).1.1,fun p=>by
   rcases hPt' x p with p | p
   ·exact(R.fre x hxm).1.2 p
   ·exact lt_c x hxm p⟩,aj (R.fre x hxm).2 fun o e=>⟨o,hx _ _ (neP x hxm) e⟩⟩
  tabs:=fun t htl=>by
   by_cases q:t.1=P
   ·refine⟨_,q▸hn,by refine ac list_eq ?_;exact TriplesOk_snoc _ _ _ _ ht,fun pos v hv=>?_⟩;rw [list_eq] at hv;rcases among_snoc _ ht hv with hv | hv
    ·refine az ((R.tabs t htl).tab) fun ps2 e2 U h2=>?_;rw [q,hps] at e2;cases e2;refine aj (h2 pos v hv) fun qq hq=>?_;refine dA (id hq) fun x o vs u z4 z=>?_;subst z4;exact⟨qq,hRec hq⟩
    ·subst hv;exact⟨qual,hrec⟩
   ·refine az ((R.tabs t htl).tab) fun ps2 e2 t2 h2=>?_;refine⟨ps2,hx _ _ q e2,t2,fun pos v hv=>?_⟩;refine aj (h2 pos v hv) fun qq hq=>?_;refine dA (id hq) fun x o vs u z4 z=>?_;subst z4;exact⟨qq,hRec hq⟩
  hid:=R.hid
  low:=R.low
  ff:=FunFrames.keep' R.ff fun b o hb e hnn=>(ag o (hx b o (neP b (List.mem_append_left _ (R.fr_own hb))) e) hnn)
  fu:=R.fu
  vars:=af R.vars fun mm x y=>aU x fun o es ep e r=>(ag mm (aD o es ep (hx _ o (neP _ Rep.L_own) e) r) y)
  kept:=fun k hk=>by
   have:=R.kept k hk
   have hk':k.addr≠P:=neP _ (List.mem_append_left _ (List.mem_cons_of_mem _ (List.mem_map_of_mem (f:=Keep.addr) hk)))
   induction k with
   | ns L m=>refine af this fun mm z1 y=>?_;clear this;refine aU z1 fun o es ep e r=>?_;clear z1;exact(ag mm (aD o es ep (hx _ o hk' e) r) y)
   | ob b o=>exact hx _ o hk' this
  lks:=fun p hp=>by
   refine ai (R.lks p hp) fun l b x y z=>?_;exact(ax l b x y (hx _ _ (neP b (List.mem_append_right _ (List.mem_of_getElem? y))) z)) }
theorem Bse.code(B:Bse w h₀){t:Addr×Addr}(h:t∈fR):CodeHd h₀ t.2 t.1:=by
 simp only [fR,List.mem_cons,List.not_mem_nil,or_false] at h;rcases h with rfl | rfl | rfl
 ·exact B.codes.1
 ·exact B.codes.2.1
 ·exact B.codes.2.2
section
variable {C:b9}{F:Fns}{kk n m:Nat}{k:Kd}{a:AEnv}{env:Env}
set_option backward.match.sparseCases false in
theorem xn(B:Bse w h₀){body:Expr}{sc:Scope}{pos:Pos}{b:RE}{fr:List Nm}{nn:Nat}(hb:trE nn (fun z=>sc.names.lookup z) body=some b)(hf:dF sc=some fr)(hsc:lz sc=true)(R:Rep c Z O s)(V:EnvR k a env c Z) :
  Sd c Z VR (match closeC a fr,a.tab with | some cells,_+1=>O.new (.lam b cells) | _,_=>.bad) (eval (.Lambda ⟨[],[],none,[],[],none,[]⟩ body sc pos) env) s:=by
 refine dz (im hsc) fun hkind hgen hco hcell hnames=>?_;intro hbad;induction cc:closeC a fr with
 | none=>rw [cc] at hbad;exact absurd rfl hbad
 | some cells=>
  induction tt:a.tab using Nat.casesOn with
  | zero=>rw [cc,tt] at hbad;exact absurd rfl hbad
  | succ z=>
   refine af (k7 V hf cc) fun cl hcl hcr=>?_;refine az (V.tab (by refine ac tt ?_;exact Nat.succ_ne_zero _)) fun t htl ht1 hcode=>?_;obtain ⟨mg,mb,g,bb,hbb,bm,ob,h1,h2,h3,h4,h5,h6⟩:=B.top;refine az ((R.tabs t htl).tab) fun ps e1 e2 e3=>?_;have hg:=g.keeps R.base;have hC:=(B.code htl).keeps R.base;have hP:=gQ htl;have hb1:bm≠mainGlobals:=fun q=>by
    refine ar g fun o es ep ho hd U=>?_;clear g;rw [q,ho] at h3;obtain rfl:=Option.some.inj h3;rw [hd] at h6;injection h6
   have hb2:bm≠t.1:=fun q=>by
    have:=R.hid t.1 hP;rw [<- q,h3] at this;exact aA this.symm
   have hBA:s.heap.BuiltinsAt mg t.1:=(iR bm ob h1 h2 hb1 hb2 (R.base _ _ h3) h4 h5 h6)
   have hgP:mainGlobals≠t.1:=fun q=>by
    refine ar g fun o es ep ho hd U=>?_;clear g;have:=R.hid t.1 hP;rw [<- q,ho] at this;exact aA this.symm
   show wpD _ _ _ (okP c Z VR (O.new (.lam b cells))) (oV c Z (O.new (.lam b cells))) s;refine al (kla_eval rfl ?_);have fin:∀ {h':Heap} {tk:Tok} {pm ctv:Value} {c':Addr} {name q qq:Str},Rep c Z O { s with heap:=h',toks:=tk }->Pt h' c'->h'.CodeRec (.ref c') qq->
     okP c Z VR (O.new (.lam b cells)) (.ref h'.objs.size) { s with heap:=h'.push (kla_obj name q ⟨[],[],none,[],[],none,[]⟩ body sc cl pm c' ctv),toks:=tk }:=fun {h' tk pm ctv c' name q qq} R' hp hr=>by
    have hk:∀ b' o,h'.get? b'=some o->(h'.push (kla_obj name q ⟨[],[],none,[],[],none,[]⟩ body sc cl pm c' ctv)).get? b'=some o:=fun b' o e=>Heap.get?_push_of_some _ e
    have R2:=R'.push (d:=.lam b cells) (o:=kla_obj name q ⟨[],[],none,[],[],none,[]⟩ body sc cl pm c' ctv) (t':=tk) rfl ⟨_,rfl,{
     params:=rfl
     body:=(aw nn body rfl hb)
     scope:=(bY hkind hgen hco hcell)
     globals:=rfl
     builtins:=rfl
     cells:=hcr.mono (List.prefix_append ..)
     code:=(ax c' qq rfl (d7 (fun b' o U e=>hk b' o e) hp) (hr.keeps hk))
     dflt:=⟨rfl,rfl⟩ }⟩
    refine(aH (Z++[h'.objs.size]) (List.prefix_append ..) (ag h'.objs.size ?_ rfl) R2);rw [List.getElem?_append_right (by refine ac (R.len ..) ?_;exact Nat.le_refl _),R.len,Nat.sub_self];rfl
   induction hca:codeAmong pos ps.toList with
   | none=>
    refine kla_makeFunction hcl V.glob.1 hg hcode hC e1 e2 hca hgP hBA fun c' ctv h' tk hx hge hlt hrec htab=>?_;refine fin (R.table hP e1 e2 hx hge hrec htab) (.inr (aY t.1 _ pos hP htab ?_)) hrec
    simpa using codeAmong_snoc _ e2 hca
   | some cv=>
    refine aj (e3 pos cv hca) fun qq hq=>?_;refine dA (id hq) fun x o vs u z4 z=>?_;subst z4;refine kla_makeFunctionHit hcl V.glob.1 hg hcode hC e1 e2 hca hBA fun ctv h' tk hk U=>?_;exact fin (R.keeps hk) (.inr (aY t.1 ps pos hP (hk _ _ e1) hca)) (hq.keeps hk)
end
def IU(F:Fns)(kk n:Nat):Prop:=∀ m k elt gens sc pos r a env c Z O s,trE m k (.ListComp elt gens sc pos)=some r->Rep c Z O s->EnvR k a env c Z->Room c kk n->
 ∀ (γ:Type) (G:AV->St->Res γ) (rel:List Addr->γ->Value->Prop) (use:Option (Value->Sem Unit)) (p2:Pos),
  (∀ v O' Z' y s' C o,Z<+:Z'->VR Z' v y->Rep { c with kp:=.ob C o::c.kp } Z' O' s'->G v O'≠.bad->wpD (model prog w) c.A (match use with | none=>pure () | some u=>u y)
   (fun U s''=>∃ Z'' O'' g,G v O'=.ok g O''/\Z'<+:Z''/\rel Z'' g (match use with | none=>y | some _=>.none)/\Rep { c with kp:=.ob C o::c.kp } Z'' O'' s'') (fun U U=>False) s')->
  Sd c Z rel ((F.E a r O).bind G) (comprehension (.ListComp elt gens sc pos) sc env p2 (newList []) (firstAsync gens) (firstIter gens env) use) s
section
variable {C:b9}{F:Fns}{kk n m:Nat}{k:Kd}{a:AEnv}{env:Env}
theorem Rep.remap{m':List (Nm×AV)}(R:Rep c Z O s)(h:∀ x,lk m' x=lk O.m x):Rep c Z { O with m:=m' } s:={ R with
 vars:=af R.vars fun mm x y=>(ag mm x (fun z v q=>y z v (by refine bo (h z ..) ?_;exact q))) }
def vQ(m:List (Nm×AV)):List Nm->List AV->List (Nm×AV)
 | x::xs,v::vs=>vQ (st m x v) xs vs
 | _,_=>m
theorem pJ:∀ {xs:List Nm} {vs:List AV} {O:St},xs.length=vs.length->asgL F a (xs.map .loc) vs O=.ok () { O with m:=vQ O.m xs vs }:=by
 intro l_
 induction l_ with
 | nil=>
  intro c1_ c2_ h
  induction c1_ using List.casesOn with
  | nil=>
    exact rfl
  | cons y1_ y2_=>
    simp at h
 | cons x xs ih_=>
  intro c1_ O h
  induction c1_ using List.casesOn with
  | nil=>
    simp at h
  | cons v vs=>
    have:=ih_ (vs:=vs) (O:=O.var x v) (by simpa using h)
    exact this
theorem tK:∀ {xs:List Nm} {vs:List AV} {ys:List Value} {Z:List Addr} {O:St} {s:Shared},(∀ x∈xs,k x.str=some .local)->RL (VR Z) vs ys->Rep c Z O s->EnvR k a env c Z->
  wpD (model prog w) c.A (assignInOrder ((xs.map Nm.str).map fun n=>bindName env n) ys) (fun U s'=>∃ Z',Z<+:Z'/\Rep c Z' { O with m:=vQ O.m xs vs } s') (fun U U=>False) s:=by
 intro l_
 induction l_ with
 | nil=>
  intro vs ys Z O s c6_ c7_ R V
  induction vs <;> exact ah (ag Z (List.prefix_refl _) R)
 | cons x xs ih_=>
  intro c1_ c2_ Z O s hx h R V
  induction c1_ using List.casesOn with
  | nil=>
    induction c2_ using List.casesOn with
    | nil=>
      exact ah (ag Z (List.prefix_refl _) R)
    | cons y1_ y2_=>
      exact h.elim
  | cons v vs=>
    induction c2_ using List.casesOn with
    | nil=>
      exact h.elim
    | cons y ys=>
      refine ae (au (am ((rD R V (hx x (List.mem_cons_self ..)) h.1).run rfl) (fun U s1 z0_=>az z0_ fun Z1 hp1 U R1=>?_) fun U U q=>q));refine am (ih_ (fun z hz=>hx z (List.mem_cons_of_mem _ hz)) (h.2.mono fun U U q=>q.mono hp1) R1 (V.mono hp1)) (fun U s2 z0_=>af z0_ fun Z2 hp2 R2=>(ag Z2 (hp1.trans hp2) R2)) fun U U q=>q
theorem lI{id:Str}{p:Pos}{r:RT1}(h:trT1 m k (.Name id p)=some r):∃ x,nmOf id=some x/\((k id=some .local/\r=.loc x)∨(k id=some .cell/\r=.cel x)):=by
 cases trT1_i h with
 | loc hx hk=>exact(ag _ hx (.inl ⟨hk,rfl⟩))
 | cel hx hk=>exact(ag _ hx (.inr ⟨hk,rfl⟩))
noncomputable def ux:Expr->Bool | .Starred ..=>true | _=>false
noncomputable def mP(env:Env)(line:Nat):Expr->Option Str | .Name id pos=>if env.kindOf id==some .local&&pos.line==line then some id else none | _=>none
theorem fQ(ts vs:List Expr)(x1 x2:Nat)(p1 p2:Pos)(env:Env):swappedStores [.Tuple ts x1 p1] (.Tuple vs x2 p2) env=(
  if (!(ts.length==2||ts.length==3)||vs.length != ts.length||env.blockKind != .function)=true then pure none else
  if vs.any ux=true then pure none else
  if ((ts.filterMap (mP env ((ts.head?.map (·.pos.line)).getD 0))).length != ts.length||(ts.filterMap (mP env ((ts.head?.map (·.pos.line)).getD 0))).eraseDups.length != (ts.filterMap (mP env ((ts.head?.map (·.pos.line)).getD 0))).length)=true then pure none else
  if vs.all (foldedForSure 8)=true then pure none else
  if vs.all (constantsAlone 8)=true then (do unsupported "assign.tuple-of-constant-expressions:order-of-the-stores";pure (some (ts.filterMap (mP env ((ts.head?.map (·.pos.line)).getD 0))))) else
  pure (some (ts.filterMap (mP env ((ts.head?.map (·.pos.line)).getD 0))))):=rfl
theorem qV(V:EnvR k a env c Z)(line:Nat):∀ {ts:List Expr} {rs:List RT1},allS (trT1 m k) ts=some rs->(ts.filterMap (mP env line)).length=ts.length->
  ∃ xs:List Nm,(ts.filterMap (mP env line))=xs.map Nm.str/\rs=xs.map .loc/\∀ x∈xs,k x.str=some .local:=by
 intro l_
 induction l_ with
 | nil=>
  intro c1_ h c3_
  obtain rfl:=Option.some.inj h;exact(aH [] rfl rfl (fun U h=>(absurd h List.not_mem_nil)))
 | cons t ts ih_=>
  intro c1_ h hl
  refine ai (aJ h) fun r rs e1 e2 z4=>?_;subst z4;rw [List.filterMap_cons] at hl ⊢;have bad:∀ (hz:(ts.filterMap (mP env line)).length=(t::ts).length),False:=fun hz=>by
   have:=List.length_filterMap_le (mP env line) ts
   rw [hz] at this;exact Nat.not_succ_le_self _ this
  induction t using Expr.casesOn with
  | Name id p=>
   by_cases hc:(env.kindOf id==some .local&&p.line==line)=true
   ·have e0:mP env line (.Name id p)=some id:=if_pos hc
    simp only [e0,List.length_cons,Nat.add_right_cancel_iff] at hl ⊢;refine az (ih_ e2 hl) fun xs q1 q2 q3=>?_;refine af (lI e1) fun x hx z2=>?_;obtain ⟨hk,rfl⟩ | ⟨hk,rfl⟩:=z2
    ·refine(aH (x::xs) (by exact ac q1 (ac (List.map_cons ..) (ac (aB hx ..) rfl))) (ac (q2 ..) rfl) (fun y hy=>?_));rcases List.mem_cons.mp hy with rfl | hy
     ·refine ac (aB hx ..) ?_;exact hk
     ·exact q3 y hy
    ·exfalso
     rw [Bool.and_eq_true,beq_iff_eq] at hc;rcases V.kd _ _ hk with q | ⟨q,_⟩
     ·rw [hc.1] at q;cases q
     ·injection q
   ·have e0:mP env line (.Name id p)=none:=if_neg hc
    simp only [e0] at hl;exact(bad hl).elim
  | _=>exact(bad hl).elim
theorem lu{es:List Expr}{rs:List RE}(h:allS (trE m k) es=some rs):(es.any ux)=false:=by
 rw [List.any_eq_false];intro e he;refine af (gS h e he) fun r U hr=>?_;induction e using Expr.casesOn <;> first | exact(lH hr).elim | exact Bool.false_ne_true
theorem gL{β:Type}{l:List β}(h:l.length=2):∃ x y,l=[x,y]:=by
 induction l using List.casesOn with
 | nil=>exact absurd h.symm (Nat.succ_ne_zero _)
 | cons x l=>induction l using List.casesOn with
  | nil=>exact absurd (Nat.succ.inj h).symm (Nat.succ_ne_zero _)
  | cons y l=>induction l using List.casesOn with
   | nil=>exact(eY x y rfl)
   | cons z l=>exact absurd (Nat.succ.inj (Nat.succ.inj h)) (Nat.succ_ne_zero _)
theorem f_{β:Type}{l:List β}(h:l.length=3):∃ x y z,l=[x,y,z]:=by
 induction l using List.casesOn with
 | nil=>exact absurd h.symm (Nat.succ_ne_zero _)
 | cons x l=>exact gk (gL (Nat.succ.inj h)) fun y z e=>(oz x y z (congrArg (x::·) e))
theorem qY{ss:List Str}(h:ss.eraseDups.length=ss.length)(h2:ss.length=2∨ss.length=3):ss.Nodup:=by
 rcases h2 with h2 | h2
 ·refine gk (gL h2) fun x y z0=>?_;subst z0;simp only [List.eraseDups_cons,List.eraseDups_nil,List.filter_cons,List.filter_nil] at h;by_cases q:x=y
  ·subst q;simp at h
  ·simp [q]
 ·refine fY (f_ h2) fun x y z z0=>?_;subst z0;by_cases q:x=y
  ·subst q;by_cases q2:x=z
   ·subst q2;simp [List.eraseDups_cons] at h
   ·simp [List.eraseDups_cons,Ne.symm q2] at h
  ·by_cases q2:x=z
   ·subst q2;simp [List.eraseDups_cons,Ne.symm q] at h
   ·by_cases q3:y=z
    ·subst q3;simp [List.eraseDups_cons,Ne.symm q] at h
    ·simp [q,q2,q3]
theorem qZ{f:α->β}:∀ {l:List α},(l.map f).Nodup->l.Nodup:=by
 intro l_
 induction l_ with
 | nil=>
  intro c1_
  exact List.nodup_nil
 | cons x l ih_=>
  intro h
  simp only [List.map_cons,List.nodup_cons] at h ⊢;exact⟨fun q=>h.1 (List.mem_map_of_mem q),ih_ h.2⟩
theorem s_swapped(V:EnvR k a env c Z){t value:Expr}{rt:RT}{r:RE}(hT:m4 m k t=some rt)(hv:trE m k value=some r)(hok:ly t value=true) :
  swappedStores [t] value env=pure none∨∃ xs:List Nm,rt=.tup (xs.map .loc)/\swappedStores [t] value env=pure (some (xs.map Nm.str))/\xs.Nodup/\(∀ x∈xs,k x.str=some .local)/\(xs.length=2∨xs.length=3):=by
 rcases trT_cases hT with ⟨es,x1,p,ts,rfl,hts,rfl⟩ | ⟨r1,hr1,rfl⟩
 ·by_cases hval:∃ vs x2 p2,value=.Tuple vs x2 p2
  ·refine fY hval fun vs x2 p2 z3=>?_;clear hval;subst z3;obtain ⟨m',rfl,rs,hrs,rfl⟩:=tZ hv;have hnc:vs.all (constantsAlone 8)=false:=by
    have hok:(!(vs.all (constantsAlone 8)))=true:=hok
    exact Bool.not_eq_true' _ |>.mp hok
   refine ac (fQ ..) ?_;generalize (es.head?.map (·.pos.line)).getD 0=line;by_cases c1:(!(es.length==2||es.length==3)||vs.length != es.length||env.blockKind != .function)=true
   ·left;rw [if_pos c1]
   refine ac (if_neg c1 ..) (ac (if_neg (by refine ac (lu hrs ..) ?_;decide) ..) ?_);by_cases c2:((es.filterMap (mP env line)).length != es.length||(es.filterMap (mP env line)).eraseDups.length != (es.filterMap (mP env line)).length)=true
   ·left;exact if_pos c2
   ·have c2':=c2
    simp only [Bool.or_eq_true,bne_iff_ne,ne_eq,not_or,Decidable.not_not] at c2';refine az (qV V line hts c2'.1) fun xs q1 q2 q3=>?_;by_cases c3:vs.all (foldedForSure 8)=true
    ·left;refine(if_neg c2).trans ?_;exact if_pos c3
    ·right
     have hlen:(es.filterMap (mP env line)).length=xs.length:=by rw [q1];simp
     have h23:xs.length=2∨xs.length=3:=by
      refine bo (hlen ..) (ac (c2'.1 ..) ?_);simp only [Bool.or_eq_true,Bool.not_eq_true',bne_iff_ne,ne_eq,not_or,Bool.or_eq_false_iff] at c1;by_cases z:es.length=2
      ·exact .inl z
      ·exact .inr (by simpa [z] using c1.1.1)
     refine(pz xs (ac (q2 ..) rfl) ?_ ?_ q3 h23)
     ·refine(if_neg c2).trans ((if_neg c3).trans ((if_neg (by refine ac (hnc ..) ?_;decide)).trans ?_));exact ac (q1 ..) rfl
     ·have:(xs.map Nm.str).Nodup:=qY (bo (q1 ..) c2'.2) (by simpa using h23)
      exact qZ this
  ·left
   cases value <;> first | rfl | exact absurd (oz _ _ _ rfl) hval
 ·left
  cases t <;> first | rfl | exact aA hr1
end
section
variable {C:b9}{F:Fns}{kk n m:Nat}{k:Kd}{a:AEnv}{env:Env}
theorem vx(B:Bse w h₀)(I:IE F kk n)(Ro:Room c kk n){t:Expr}{rt:RT}{v:AV}{y:Value}(hT:m4 m k t=some rt)(hv:VR Z v y)(R:Rep c Z O s)(V:EnvR k a env c Z) :
  Sd c Z UR (asgT F a rt v O) (assign t env y) s:=by
 rcases trT_cases hT with ⟨es,x1,p,ts,rfl,hts,rfl⟩ | ⟨r,hr,rfl⟩
 ·induction v with
  | obj i=>
   induction e:O.H i with
   | none=>exact Sd.eqr (r':=.bad) (congrArg (iE F a ts O) e) Sd.bad
   | some o=>
    induction o with
    | tu vs=>
     by_cases hl:ts.length=vs.length
     ·refine Sd.eqr (r':=asgL F a ts vs O) ((congrArg (iE F a ts O) e).trans (if_pos hl)) ?_;refine ai (R.tu e) fun T ys r1 ht h1=>?_;refine af hv fun a1 r2 z2=>?_;clear hv;subst z2;rw [r1] at r2;obtain rfl:=Option.some.inj r2;exact lE (rel:=UR) Ro.handled ht hts (by exact ac hl (ac (h1.length ..) rfl)) R fun h2 hk2 R5=>rc B I Ro hts h1 R5 V
     ·exact Sd.eqr (r':=.bad) ((congrArg (iE F a ts O) e).trans (if_neg hl)) Sd.bad
    | _=>exact Sd.eqr (r':=.bad) (congrArg (iE F a ts O) e) Sd.bad
  | _=>exact Sd.bad
 ·exact ke B I Ro hr hv R V
theorem no_swap{value:Expr}{t:Option Expr}{r:RE}{line:Nat}(hv:trE m k value=some r)(hl:∀ elt gens sc p,value≠.ListComp elt gens sc p):swapsWith value t line env=pure false:=by
 cases value <;> first | rfl | exact absurd rfl (hl _ _ _ _) | (exfalso;cases m <;> exact aA hv)
theorem tz{m:List (Nm×AV)}{x y:Nm}{u v:AV}(h:x≠y)(z:Nm):lk (st (st m y v) x u) z=lk (st (st m x u) y v) z:=by
 simp only [bw];by_cases h1:x=z
 ·subst h1;simp [Ne.symm h]
 ·simp [h1]
theorem tA{m:List (Nm×AV)}{x y z:Nm}{u v t:AV}(h1:x≠y)(h2:x≠z)(h3:y≠z)(q:Nm):lk (st (st (st m z t) y v) x u) q=lk (st (st (st m x u) y v) z t) q:=by
 simp only [bw];by_cases g1:x=q
 ·subst g1;simp [Ne.symm h1,Ne.symm h2]
 ·by_cases g2:y=q
  ·subst g2;simp [g1,Ne.symm h3]
  ·simp [g1,g2]
theorem vf{xs:List Nm}{vs:List AV}(hd:xs.Nodup)(hl:xs.length=2∨xs.length=3)(he:xs.length=vs.length)(mm:List (Nm×AV))(z:Nm):lk (vQ mm xs vs) z=lk (vQ mm xs.reverse vs.reverse) z:=by
 rcases hl with hl | hl
 ·refine gk (gL hl) fun x y z2=>?_;subst z2;refine gk (gL he.symm) fun u v z2=>?_;subst z2;exact(tz (fun q:x=y=>(List.nodup_cons.mp hd).1 (q▸.head _)) z).symm
 ·refine fY (f_ hl) fun x y q z3=>?_;subst z3;refine fY (f_ he.symm) fun u v t z3=>?_;subst z3;have h1:=List.nodup_cons.mp hd;exact(tA (fun e:x=y=>h1.1 (e▸.head _)) (fun e:x=q=>h1.1 (e▸.tail _ (.head _))) (fun e:y=q=>(List.nodup_cons.mp h1.2).1 (e▸.head _)) z).symm
theorem RL.reverse{R:α->β->Prop}{l:List α}{r:List β}(h:RL R l r):RL R l.reverse r.reverse:=by
 induction l generalizing r with
 | nil=>induction r using List.casesOn with | nil=>exact trivial | cons _ _=>exact h.elim
 | cons a l ih=>
  induction r using List.casesOn with
  | nil=>exact h.elim
  | cons b r=>refine ac (List.reverse_cons ..) (ac (List.reverse_cons ..) ?_);exact(ih h.2).append ⟨h.1,trivial⟩
theorem rB(B:Bse w h₀)(I:IE F kk n)(Ro:Room c kk n){t value:Expr}{rt:RT}{r:RE}(hT:m4 m k t=some rt)(hv:trE m k value=some r)(hok:ly t value=true)(R:Rep c Z O s)(V:EnvR k a env c Z) :
  Sd c Z FR ((F.E a r O).bind fun v s=>(asgT F a rt v s).bind fun U s=>.ok .next s)
    (eval value env>>=fun v=>swappedStores [t] value env>>=fun sw=>assignStores env v sw ((assignEach [t] env).map (·.2))) s:=by
 refine Sd.bind (I _ _ _ _ _ _ _ _ _ _ hv R V Ro) fun v O' Z' y s' ex hp hy R'=>?_;have V':=V.mono hp;have e1:assignAll y ((assignEach [t] env).map (·.2))=assign t env y:=by
  rcases trT_cases hT with ⟨es,x1,p,ts,rfl,hts,rfl⟩ | ⟨r1,hr1,rfl⟩
  ·rfl
  ·refine ac (cS hr1 ..) ?_;rfl
 rcases s_swapped V' hT hv hok with h | ⟨xs,rfl,h,hnd,hloc,h23⟩
 ·refine ac h ?_;refine Sd.eq (t':=assign t env y>>=fun U=>pure .next) (by rw [pure_bind];unfold assignStores;rw [e1]) ?_;refine Sd.bind (vx B I Ro hT hy R' V') fun U O2 Z2 U s2 U hp2 U R2=>?_;exact Sd.ret R2 rfl
 ·refine ac h ?_;intro hb;refine ae (ah ?_);refine ae (dy ?_);induction v with
  | obj i=>
   induction e:O'.H i with
   | none=>exact absurd (congrArg (fun o=>(iE F a (xs.map .loc) O' o).bind fun U s=>Res.ok Flow.next s) e) hb
   | some o=>
    induction o with
    | tu vs=>
     by_cases hl:(xs.map RT1.loc).length=vs.length
     ·have hl':xs.length=vs.length:=by simpa using hl
      have e2:(asgT F a (.tup (xs.map .loc)) (.obj i) O').bind (fun U s=>.ok Flow.next s)=.ok Flow.next { O' with m:=vQ O'.m xs vs }:=
       (congrArg (fun o=>(iE F a (xs.map .loc) O' o).bind fun U s=>Res.ok Flow.next s) e).trans (congrArg (fun r=>Res.bind r fun U s=>Res.ok Flow.next s) ((if_pos hl).trans (pJ hl')))
      refine ac e2 ?_;refine ai (R'.tu e) fun T ys r1 ht h1=>?_;refine af hy fun a1 r2 z2=>?_;clear hy;subst z2;rw [r1] at r2;obtain rfl:=Option.some.inj r2;have e3:(xs.map Nm.str).length=ys.toArray.size:=by simp;exact ac hl' (ac (h1.length ..) rfl)
      refine ac e3 ?_;refine ae (al (wpAny_unpackItems_tuple Ro.handled ht fun h2 hx=>?_));have R3:=R'.keeps (t':=s'.toks) (f8 hx);have e4:((xs.map Nm.str).reverse.map fun n=>bindName env n)=((xs.reverse.map Nm.str).map fun n=>bindName env n):=by exact ac (show (xs.map Nm.str).reverse=xs.reverse.map Nm.str from List.map_reverse.symm) rfl
      refine ac e4 ?_;refine ae (am (tK (xs:=xs.reverse) (vs:=vs.reverse) (fun x hx=>hloc x (List.mem_reverse.mp hx)) h1.reverse R3 V') (fun U s4 z0_=>af z0_ fun Z4 hp4 R4=>?_) fun U U q=>q.elim);refine ah (aH Z4 hp4 rfl ?_);exact Rep.remap (O:={ O' with m:=vQ O'.m xs.reverse vs.reverse }) R4 fun x=>vf hnd h23 hl' _ _
     ·exact absurd ((congrArg (fun o=>(iE F a (xs.map .loc) O' o).bind fun U s=>Res.ok Flow.next s) e).trans (congrArg (fun r=>Res.bind r fun U s=>Res.ok Flow.next s) (if_neg hl))) hb
    | _=>exact absurd (congrArg (fun o=>(iE F a (xs.map .loc) O' o).bind fun U s=>Res.ok Flow.next s) e) hb
  | _=>exact absurd rfl hb
theorem xd(B:Bse w h₀)(I:IE F kk n)(U:IU F kk n)(Ro:Room c kk n){t value:Expr}{rt:RT}{r:RE}{pos:Pos}(hT:m4 m k t=some rt)(hv:trE m k value=some r)(hok:ly t value=true)(R:Rep c Z O s)(V:EnvR k a env c Z) :
  Sd c Z FR ((F.E a r O).bind fun v s=>(asgT F a rt v s).bind fun z_ s=>.ok .next s) (exec (.Assign [t] value pos) env) s:=by
 refine ac (arm_exec_Assign ..) ?_;refine Sd.stand ?_;have common:swapsWith value (some t) pos.line env=pure false->Sd c Z FR ((F.E a r O).bind fun v s=>(asgT F a rt v s).bind fun z_ s=>.ok .next s) (do
   if <- swapsWithSole [t] value pos.line env then do
    evalThenUse value env fun v=>assignAll v ((assignEach [t] env).map (·.2))
    pure .next
   else do
    let v <- eval value env
    assignStores env v (<- swappedStores [t] value env) ((assignEach [t] env).map (·.2))) s:=fun h=>by
  refine ac (show swapsWithSole [t] value pos.line env=pure false from h ..) (ac (pure_bind ..) (ac (if_neg (by decide) ..) ?_));exact rB B I Ro hT hv hok R V
 by_cases hl:∃ elt gens sc p,value=.ListComp elt gens sc p
 ·refine rX hl fun elt gens sc p z4=>?_;clear hl;subst z4;have hb:∃ b:Bool,swapsWith (.ListComp elt gens sc p) (some t) pos.line env=pure b/\(b=true->∃ id q,t=.Name id q/\env.kindOf id=some .local):=by
   induction t using Expr.casesOn with
   | Name id q=>exact(ag _ rfl (fun h=>(aw id q rfl (by simp only [Bool.and_eq_true,beq_iff_eq] at h;exact h.1.1.2))))
   | _=>exact(ag false rfl (fun h=>gw h))
  refine af hb fun b hb1 hb2=>?_;clear hb;induction b with
  | false=>exact common hb1
  | true=>
   refine aI (hb2 rfl) fun id q z2 hid=>?_;subst z2;refine ac (show swapsWithSole [.Name id q] (.ListComp elt gens sc p) pos.line env=pure true from hb1 ..) (ac (pure_bind ..) (ac (if_pos rfl ..) (ac (arm_evalThenUse_ListComp ..) ?_)));have hrt:∃ x,rt=.one (.loc x)/\trT1 m k (.Name id q)=some (.loc x):=by
    rcases trT_cases hT with ⟨es,x1,p,ts,h,_,_⟩ | ⟨r1,hr1,rfl⟩
    ·injection h
    ·refine af (lI hr1) fun x hx z2=>?_;obtain ⟨hk,rfl⟩ | ⟨hk,rfl⟩:=z2
     ·exact(ag x rfl hr1)
     ·exfalso
      rcases V.kd _ _ hk with z | ⟨z,_⟩
      ·rw [hid] at z;cases z
      ·injection z
   refine af hrt fun x z1 hx1=>?_;clear hrt;subst z1;have ρ:=U m k elt gens sc p r a env c Z O s hv R V Ro Flow (fun v s=>(asgT F a (.one (.loc x)) v s).bind fun z_ s=>.ok .next s) (fun z_ fl y=>fl=.next) (some fun v=>assignAll v ((assignEach [.Name id q] env).map (·.2))) (firstIterPos gens p)
    fun v O' Z' y s' C o hp hy R' hb=>by
     refine am ((ke (c:={ c with kp:=.ob C o::c.kp }) B I (Ro.ctx rfl rfl) hx1 hy R' ((V.mono hp).ctx rfl rfl)).run rfl) (fun z_ s2 z0_=>az z0_ fun Z2 hp2 z_ R2=>?_) fun z_ z_ q=>q;exact(ck Z2 _ .next rfl hp2 rfl R2)
   refine Sd.eqr (Res.bind_ok _).symm ?_;refine Sd.bind (rel:=fun _ fl (y:Unit)=>fl=.next) ?_ fun fl O2 Z2 y s2 z_ hp2 h2 R2=>Sd.ret R2 (by subst h2;rfl);refine Sd.eqr (Res.bind_ok _).symm ?_;exact Sd.bind ρ fun fl O2 Z2 y s2 z_ hp2 h2 R2=>Sd.ret R2 h2
 ·exact common (no_swap hv fun elt gens sc p q=>hl (rY elt gens sc p q))
theorem vz(B:Bse w h₀)(I:IE F kk n)(Ro:Room c kk n){o value:Expr}{ro rv:RE}{attr:Str}{x:Nm}{op:Operator}{tpos pos:Pos}(ho:trE m k o=some ro)(hx:nmOf attr=some x)(hv:trE m k value=some rv)(R:Rep c Z O s)(V:EnvR k a env c Z) :
  Sd c Z FR ((F.E a ro O).bind fun o s=>(getA o x s).bind fun a1 s=>(F.E a rv s).bind fun b s=>(iop op a1 b s).bind fun r s=>(setA o x r s).bind fun U s=>.ok .next s)
    (exec (.AugAssign (.Attribute o attr tpos) op value pos) env) s:=by
 refine ac (arm_exec_AugAssign_2 ..) ?_;refine Sd.stand ?_;refine bo (aB hx ..) ?_;refine Sd.bind (I _ _ _ _ _ _ _ _ _ _ ho R V Ro) fun v1 O1 Z1 y1 s1 ex1 hp1 hy1 R1=>?_;refine Sd.holdbind ?_;refine Sd.eq (bind_assoc ..) ?_;refine Sd.stand ?_;refine Sd.eq (bind_assoc ..) ?_;refine Sd.bind (rg B R1 hy1) fun v2 O2 Z2 y2 s2 ex2 hp2 hy2 R2=>?_;refine Sd.eq (bind_assoc ..) ?_;refine Sd.bind (Sd.holding (I _ _ _ _ _ _ _ _ _ _ hv R2 ((V.mono hp1).mono hp2) Ro)) fun v3 O3 Z3 y3 s3 ex3 hp3 hy3 R3=>?_;refine Sd.eq rfl ?_;refine Sd.stand ?_;refine Sd.bind (Sd.operate (rk R3 (hy2.mono hp3) hy3).1) fun v4 O4 Z4 y4 s4 ex4 hp4 hy4 R4=>?_;refine Sd.stand ?_;refine Sd.bind (Sd.holding (rz (C:=0) (d:=0) (i:=0) (l:=[]) B R4 (((hy1.mono hp2).mono hp3).mono hp4) hy4)) fun U O5 Z5 U s5 U hp5 U R5=>?_;exact Sd.release (Sd.ret R5 rfl)
theorem vA(B:Bse w h₀)(I:IE F kk n)(Ro:Room c kk n){o i value:Expr}{ro ri rv:RE}{op:Operator}{tpos pos:Pos}(ho:trE m k o=some ro)(hi:trE m k i=some ri)(hv:trE m k value=some rv)(R:Rep c Z O s)(V:EnvR k a env c Z) :
  Sd c Z FR ((F.E a ro O).bind fun o s=>(F.E a ri s).bind fun i s=>(getI o i s).bind fun a1 s=>(F.E a rv s).bind fun b s=>(iop op a1 b s).bind fun r s=>(setI o i r s).bind fun U s=>.ok .next s)
    (exec (.AugAssign (.Subscript o i tpos) op value pos) env) s:=by
 refine ac (arm_exec_AugAssign_3 ..) ?_;refine Sd.stand ?_;refine Sd.bind (I _ _ _ _ _ _ _ _ _ _ ho R V Ro) fun v1 O1 Z1 y1 s1 ex1 hp1 hy1 R1=>?_;refine Sd.bind (Sd.holding (I _ _ _ _ _ _ _ _ _ _ hi R1 (V.mono hp1) Ro)) fun v0 O0 Z0 y0 s0 ex0 hp0 hy0 R0=>?_;refine Sd.holdbind ?_;refine Sd.eq (bind_assoc ..) ?_;refine Sd.stand ?_;refine Sd.eq (bind_assoc ..) ?_;refine Sd.bind (jm R0 (hy1.mono hp0) hy0) fun v2 O2 Z2 y2 s2 ex2 hp2 hy2 R2=>?_;refine Sd.eq (bind_assoc ..) ?_;refine Sd.bind (Sd.holding (I _ _ _ _ _ _ _ _ _ _ hv R2 (((V.mono hp1).mono hp0).mono hp2) Ro)) fun v3 O3 Z3 y3 s3 ex3 hp3 hy3 R3=>?_;refine Sd.eq rfl ?_;refine Sd.stand ?_;refine Sd.bind (Sd.operate (rk R3 (hy2.mono hp3) hy3).1) fun v4 O4 Z4 y4 s4 ex4 hp4 hy4 R4=>?_;refine Sd.stand ?_;have e:augStore i y1 y0 y4=(do holding [y4,y1,y0] (setItem y1 y0 y4);release [y4,y1,y0] [];pure .next):=by
  cases i <;> first | rfl | exact(jq hi).elim
 refine ac e ?_;refine Sd.bind (Sd.holding (rA R4 ((((hy1.mono hp0).mono hp2).mono hp3).mono hp4) (((hy0.mono hp2).mono hp3).mono hp4) hy4)) fun U O5 Z5 U s5 U hp5 U R5=>?_;exact Sd.release (Sd.ret R5 rfl)
theorem xp(I:IE F kk n)(Ro:Room c kk n){e:Expr}{r:RE}{pos:Pos}(h:trE m k e=some r)(R:Rep c Z O s)(V:EnvR k a env c Z) :
  Sd c Z FR ((F.E a r O).bind fun v s=>.ok (.ret v) s) (exec (.Return (some e) pos) env) s:=by
 refine ac (arm_exec_Return ..) ?_;refine Sd.stand ?_;refine Sd.bind (I _ _ _ _ _ _ _ _ _ _ h R V Ro) fun v O' Z' y s' ex hp hy R'=>?_;exact Sd.ret R' (ag y rfl hy)
theorem vL{pos:Pos}(R:Rep c Z O s):Sd c Z FR (.ok (.ret .none) O) (exec (.Return none pos) env) s:=by
 refine ac (arm_exec_Return ..) ?_;exact Sd.stand (Sd.ret R (ag _ rfl rfl))
theorem xm(IT':IT F kk n)(S:IS F kk n)(Ro:Room c kk n){t:Expr}{rt:RE}{x y:List Stmt}{rx ry:List RS}{pos:Pos}(ht:trE m k t=some rt)(hx:allS (trS m k) x=some rx)(hy:allS (trS m k) y=some ry)(R:Rep c Z O s)(V:EnvR k a env c Z) :
  Sd c Z FR ((F.T a rt O).bind fun c s=>if c then F.S a rx s else F.S a ry s) (exec (.If t x y pos) env) s:=by
 refine ac (arm_exec_If ..) ?_;refine Sd.stand ?_;refine Sd.bind (IT' _ _ _ _ _ _ _ _ _ _ ht R V Ro) fun v O' Z' z s' ex hp hz R'=>?_;subst hz;induction z
 ·exact S _ _ _ _ _ _ _ _ _ _ hy R' (V.mono hp) Ro
 ·exact S _ _ _ _ _ _ _ _ _ _ hx R' (V.mono hp) Ro
theorem vE(I:IE F kk n)(Ro:Room c kk n){e:Expr}{r:RE}{pos:Pos}(h:trE m k e=some r)(hl:∀ elt gens sc p,e≠.ListComp elt gens sc p)(R:Rep c Z O s)(V:EnvR k a env c Z) :
  Sd c Z FR ((F.E a r O).bind fun U s=>.ok .next s) (exec (.Expr e pos) env) s:=by
 refine ac (arm_exec_Expr ..) ?_;refine Sd.stand ?_;have hi:interactive env=false:=by unfold interactive;rw [V.kind];rfl
 refine ac (hi ..) (ac (no_swap h hl ..) (ac (pure_bind ..) (ac (if_neg (by decide) ..) (ac (if_neg (by decide) ..) ?_))));refine Sd.bind (I _ _ _ _ _ _ _ _ _ _ h R V Ro) fun v O' Z' y s' ex hp hy R'=>?_;exact Sd.leaf fun U=>wpAny_dropValue (okP.mk R' rfl)
theorem xh(I:IE F kk n)(Ro:Room c kk n){o i:Expr}{ro ri:RE}{p pos:Pos}(ho:trE m k o=some ro)(hi:trE m k i=some ri)(R:Rep c Z O s)(V:EnvR k a env c Z) :
  Sd c Z FR ((F.E a ro O).bind fun o s=>(F.E a ri s).bind fun i s=>(jN o i s).bind fun U s=>.ok .next s) (exec (.Delete [.Subscript o i p] pos) env) s:=by
 refine ac (arm_exec_Delete ..) ?_;refine Sd.stand ?_;refine ac (arm_deleteEach_cons ..) (ac (arm_deleteEach_nil ..) (ac (arm_delete_Subscript ..) ?_));refine Sd.eq (ac (bind_assoc ..) (ac (bind_assoc ..) rfl)) ?_;refine Sd.bind (I _ _ _ _ _ _ _ _ _ _ ho R V Ro) fun v1 O1 Z1 y1 s1 ex1 hp1 hy1 R1=>?_;refine Sd.eq (bind_assoc ..) ?_;refine Sd.bind (Sd.holding (I _ _ _ _ _ _ _ _ _ _ hi R1 (V.mono hp1) Ro)) fun v2 O2 Z2 y2 s2 ex2 hp2 hy2 R2=>?_;refine Sd.eq (bind_assoc ..) ?_;refine Sd.stand ?_;refine Sd.eq (bind_assoc ..) ?_;refine Sd.bind (Sd.holding (vC R2 (hy1.mono hp2) hy2)) fun U O3 Z3 U s3 ex3 hp3 U R3=>?_;refine Sd.release ?_;exact Sd.ret R3 rfl
end
section
variable {A:Around}{R:Result->Shared->Prop}
theorem hW{body:List Stmt}{env:Env}
   (h:wpD (model prog w) (A.deeper env) (execs body env) (fun f s'=>R (.ok (.ret (match f with | .ret v=>v | _=>.none))) s')
    (fun e s'=>wpD (model prog w) (A.deeper env) (leaving env e) (fun U s''=>R (.error e) s'') (fun e' s''=>R (.error e') s'') s') s) :
  bk (model prog w) A (.func body env) R s:=by
 refine aT ?_;show wpD _ (A.deeper env) (do point;match <- (execs body env).onRaise (leaving env) with | .ret v=>ret v | _=>ret .none) _ _ s;refine ae (dw (ae (bF (am h (fun f s' h'=>?_) fun U U h'=>h'))));induction f <;> exact ah h'
theorem my{body:Expr}{env:Env}
   (h:wpD (model prog w) (A.deeper env) (eval body env) (fun v s'=>R (.ok (.ret v)) s')
    (fun e s'=>wpD (model prog w) (A.deeper env) (leaving env e) (fun U s''=>R (.error e) s'') (fun e' s''=>R (.error e') s'') s') s) :
  bk (model prog w) A (.expr body env) R s:=by
 refine aT ?_;exact ae (dw (ae (bF (am h (fun f s' h'=>ah h') fun U U h'=>h'))))
theorem c8{a:Addr}{args:Args}{o:Obj}{fd:FuncData}{q:Str}(hroom:A.depth<recursionLimit)
  (ho:s.heap.get? a=some o)(hd':o.data=.func fd)(hco:fd.scope.isCoroutine=false)(hgen:fd.scope.isGenerator=false)(hcd:s.heap.CodeRec fd.code q)
   (h:wpD (model prog w) A.in1 (bindArgs fd args) (fun binds s₁=>
   wpD (model prog w) A.in1 (newFunctionEnv fd.scope fd.globals fd.closure binds (q++".<locals>.") (some a) fd.code none fd.builtins)
     (fun env s₂=>s₂.heap.NoLimit/\bk (model prog w) A (match fd.body with | .stmts b=>.func b env | .expr e=>.expr e env) R s₂) (fun e s'=>R (.error e) s') s₁) (fun e s'=>R (.error e) s') s) :
  bk (model prog w) A (.call (.ref a) args) R s:=by
 refine aT ?_;show wpD _ A.in1 (callAny (.ref a) args) _ _ s;refine ae (m:=load a) (al (wpAny_load ho ?_));obtain ⟨_,_,dat,_⟩:=o;subst hd';refine bZ hcd fun c oc vs tq hc hoc hdc hq=>?_;clear hcd;show wpD _ _ (callFunction a fd args) _ _ s
 delta callFunction
 refine ac (hc ..) (ac (hgen ..) (ac (hco ..) ?_));rw [hc] at h;refine ae (m:=field (.ref c) 1) (al (wpAny_field hoc hdc hq ?_));refine ae (ah ?_);refine ae (am h (fun binds s₁ h₁=>ae (am h₁ (fun env s₂ h₂=>ae (al (wpAny_enterFrame h₂.1 hroom ?_))) fun U U h'=>h')) fun U U h'=>h');induction hb:fd.body with
 | stmts b=>have h3:=h₂.2;rw [hb] at h3;exact ah (ao rfl rfl h3)
 | expr e=>have h3:=h₂.2;rw [hb] at h3;exact ah (ao rfl rfl h3)
end
def alX:List Nm->(List Arg->List Value->Prop)->Prop
 | [],P=>P [] []
 | n::l,P=>∀ an p x,alX l fun as xs=>P (⟨n.str,an,p⟩::as) (x::xs)
theorem uI{l:List Nm}:∀ {P:List Arg->List Value->Prop} {as:List Arg} {xs:List Value},alX l P->as.map (·.arg)=l.map Nm.str->l.length=xs.length->P as xs:=by
 induction l with
 | nil=>
  intro P as xs h e e2
  induction as using List.casesOn with
  | cons _ _=>exact wl e.symm
  | nil=>induction xs using List.casesOn with
   | nil=>exact h
   | cons _ _=>exact absurd e2.symm (Nat.succ_ne_zero _)
 | cons y l ih=>
  intro P as xs h e e2
  induction as using List.casesOn with
  | nil=>exact wl e
  | cons a as=>induction xs using List.casesOn with
   | nil=>exact absurd e2 (Nat.succ_ne_zero _)
   | cons x xs=>
    induction a using Arg.casesOn with | mk nm an p=>
    injection e with e3 e4
    obtain rfl:_=_:=e3;exact ih (P:=fun as xs=>P (⟨_,an,p⟩::as) (x::xs)) (h an p x) e4 (Nat.succ.inj e2)
def uJ{α:Type}(P:α->Prop):List α->Prop
 | []=>True
 | a::l=>P a/\uJ P l
theorem su{α:Type}{P:α->Prop}{a:α}{l:List α}:uJ P l->a∈l->P a:=by
 induction l with
 | nil=>exact fun U m=>absurd m List.not_mem_nil
 | cons b l ih=>exact fun h m=>(List.mem_cons.mp m).elim (fun e=>e▸h.1) fun m=>ih h.2 m
noncomputable def wm:List (List Nm):=[[],[.self,.number,.octets],[.self],[.self,.place,.count],[.self,.place,.octets],[.self,.octets],[.self,.place,.count,.value],[.self,.place],[.self,.place,.value],[.self,.disk,.most],[.self,.number],[.self,.buffer],[.self,.blocks,.size],[.script],[.pool,.many],[.deed],[.world,.number],[.pool,.cache,.world,.number],[.pool,.cache,.world,.blocks],[.cache,.world]]
noncomputable def bA(fd:FuncData)(as:List Arg)(d:Value):FuncData:={ fd with params:=⟨[],as,none,[],[],none,[]⟩,defaults:=d }
def yP(l:List Nm):Prop:=alX l fun as xs=>∀ fd,bindArgs (bA fd as .none) ⟨xs,[]⟩=pure ((l.map Nm.str).zip xs)
theorem sy:uJ yP wm:=⟨fun U=>rfl,fun U U U U U U U U U U=>rfl,fun U U U U=>rfl,fun U U U U U U U U U U=>rfl,fun U U U U U U U U U U=>rfl,fun U U U U U U U=>rfl,fun U U U U U U U U U U U U U=>rfl,fun U U U U U U U=>rfl,fun U U U U U U U U U U=>rfl,fun U U U U U U U U U U=>rfl,fun U U U U U U U=>rfl,fun U U U U U U U=>rfl,fun U U U U U U U U U U=>rfl,fun U U U U=>rfl,fun U U U U U U U=>rfl,fun U U U U=>rfl,fun U U U U U U U=>rfl,fun U U U U U U U U U U U U U=>rfl,fun U U U U U U U U U U U U U=>rfl,fun U U U U U U U=>rfl,trivial⟩
theorem c7{fd:FuncData}{as:List Arg}{xs:List Value}{l:List Nm}(hp:fd.params=⟨[],as,none,[],[],none,[]⟩)(hd:fd.defaults=.none)(hn:as.map (·.arg)=l.map Nm.str)(hm:l∈wm)(hl:l.length=xs.length) :
  bindArgs fd ⟨xs,[]⟩=pure ((l.map Nm.str).zip xs):=by
 have h:=uI (P:=fun as xs=>∀ fd,bindArgs (bA fd as .none) ⟨xs,[]⟩=pure ((l.map Nm.str).zip xs)) (su (P:=yP) sy hm) hn hl fd
 unfold bA at h;rw [<- hp,<- hd] at h;exact h
theorem rV{A:Around}{E:Value->Shared->Prop}{env:Env}{x:Nm}{v:AV}{y:Value}(R:Rep c Z O s)(hL:env.locals=c.L)(hk:env.scope.kind=.function)(hl:env.kindOf x.str=some .local)(hv:VR Z v y) :
  wpAny (model prog w) A (storeName env x.str y) (fun U s'=>Rep c Z (O.var x v) s') E s:=by
 refine af R.vars fun mm hn hm=>?_;refine wpAny_storeName_local hl (m:=mm) (by refine ac hL ?_;exact hn) (fun h' hns hsb=>?_) (by refine ac hk ?_;rfl);rw [hL] at hns hsb;exact R.var hsb hn hm hns (fun z=>rfl) hv
theorem rU{A:Around}{E:Value->Shared->Prop}{env:Env}{cs:List (Nm×Nat)}{x:Nm}{v:AV}{v₀:Option AV}{i:Nat}{y:Value}(R:Rep c Z O s)(hcr:CR Z cs env.cells)(hk:env.scope.kind=.function)(hl:env.kindOf x.str=some .cell)
  (e:lk cs x=some i)(e2:O.H i=some (.ce v₀))(hv:VR Z v y) :
  wpAny (model prog w) A (storeName env x.str y) (fun U s'=>Rep c Z (O.set i (.ce (some v))) s') E s:=by
 refine af (hcr x i e) fun ad hlk hρ=>?_;obtain ⟨a',ob,h1,h2,y₀,h3,h4⟩:=R.own i _ e2;rw [hρ] at h1;obtain rfl:=Option.some.inj h1;unfold storeName;refine ac (hl ..) (ac (hk ..) ?_);refine wpAny_bind (wpAny_cellOf hlk ?_);refine wpAny_bind (wpAny_load h2 ?_);refine ac h3 ?_;exact wpAny_update h2 (R.set (cV e2 rfl) hρ (Heap.SameBut.update ..).extBut (Heap.get?_update_self _ h2 (by subst h3;rfl)) fun U=>(ag (some y) (by exact ac h3 rfl) hv))
def eZ(cs:List (Nm×Nat))(O:St):Prop:=∀ x i,lk cs x=some i->∃ v,O.H i=some (.ce v)
theorem oj{A:Around}{E:Value->Shared->Prop}{env:Env}{cs:List (Nm×Nat)}(f:Str×Value->PUnit->Sem (ForInStep PUnit))(hf:∀ n v u,f (n,v) u=(do storeName env n v;pure (.yield ⟨⟩)))(hL:env.locals=c.L)(hk:env.scope.kind=.function)(hcr:CR Z cs env.cells):    ∀ {ps:List Nm} {vs:List AV} {xs:List Value} {O O':St} {s:Shared},RL (VR Z) vs xs->(∀ p∈ps,(env.kindOf p.str=some .local/\lk cs p=none)∨(env.kindOf p.str=some .cell/\(lk cs p).isSome=true))->eZ cs O->Rep c Z O s->
   bindsR cs ps vs O=.ok () O'->wpAny (model prog w) A (forIn ((ps.map Nm.str).zip xs) ⟨⟩ f) (fun U s'=>Rep c Z O' s') E s:=by
 intro l_
 induction l_ with
 | nil=>
  intro c1_ xs O O' s h c7_ c8_ R e
  induction c1_ using List.casesOn with
  | nil=>
    injection e with z0_ z1_;subst z1_
    refine ac (List.forIn_nil ..) ?_;exact wpAny_pure R
  | cons y2_ y3_=>
    injection e
 | cons p ps ih_=>
  intro c1_ c2_ O O' s h hkind hci R e
  induction c1_ using List.casesOn with
  | nil=>
    injection e
  | cons v vs=>
    induction c2_ using List.casesOn with
    | nil=>
      exact h.elim
    | cons x xs=>
      have e:((match lk cs p with | some i=>.ok () (O.set i (.ce (some v))) | .none=>.ok () (O.var p v):Res Unit).bind fun U s=>bindsR cs ps vs s)=.ok () O':=e
      refine ac (List.forIn_cons ..) (ac (hf ..) ?_);have hr:∀ q∈ps,(env.kindOf q.str=some .local/\lk cs q=none)∨(env.kindOf q.str=some .cell/\(lk cs q).isSome=true):=fun q hq=>hkind q (List.mem_cons_of_mem _ hq);rcases hkind p (List.mem_cons_self ..) with ⟨h1,h2⟩ | ⟨h1,h2⟩
      ·rw [h2] at e;refine wpAny_bind (wpAny_bind (wpAny_mono (rV R hL hk h1 h.1) (fun U s1 R1=>wpAny_pure ?_) fun U U q=>q));exact ih_ h.2 hr (show eZ cs (O.var p v) from hci) R1 e
      ·refine aj (Option.isSome_iff_exists.mp h2) fun i hi=>?_;rw [hi] at e;refine aj (hci p i hi) fun v₀ hv₀=>?_;refine wpAny_bind (wpAny_bind (wpAny_mono (rU R hcr hk h1 hi hv₀ h.1) (fun U s1 R1=>wpAny_pure ?_) fun U U q=>q));refine ih_ h.2 hr (fun y j hj=>?_) R1 e;by_cases q:j=i
       ·subst q;exact⟨some v,by simp [St.set]⟩
       ·refine aj (hci y j hj) fun u hu=>?_;exact⟨u,by simp only [St.set,if_neg q];exact hu⟩
theorem om{A:Around}{E:Value->Shared->Prop}(f:Str×NameKind->List (Str×Addr)->Sem (ForInStep (List (Str×Addr))))
  (hf:∀ name kind cells,f (name,kind) cells=if kind==.cell then (do let a <- alloc { cls:=.type "cell",data:=.cell none };pure (.yield ((name,a)::cells))) else pure (.yield cells)):    ∀ {names:List (Str×NameKind)} {acc:List (Str×Addr)} {xs:List Nm} {cs:List (Nm×Nat)} {Z:List Addr} {O:St} {s:Shared},allS (fun p:Str×NameKind=>nmOf p.1) (names.filter fun p=>p.2==.cell)=some xs->CR Z cs acc->eZ cs O->Rep c Z O s->
   wpAny (model prog w) A (forIn names acc f) (fun acc' s'=>∃ Z',Z<+:Z'/\CR Z' (aR xs cs O).1 acc'/\eZ (aR xs cs O).1 (aR xs cs O).2/\Rep c Z' (aR xs cs O).2 s') E s:=by
 intro l_
 induction l_ with
 | nil=>
  intro acc xs cs Z O s h hcr hci R
  obtain rfl:=Option.some.inj h;exact ac (List.forIn_nil ..) (wpAny_pure (bR Z (List.prefix_refl _) hcr hci R))
 | cons p_ r ih_=>
  intro acc xs cs Z O s h hcr hci R
  obtain ⟨name,kind⟩:=p_
  refine ac (List.forIn_cons ..) (ac (hf ..) ?_);by_cases hk:(kind==NameKind.cell)=true
  ·refine ac (if_pos hk ..) ?_;rw [List.filter_cons_of_pos (by exact hk)] at h;refine ai (aJ h) fun x xs' e1 e2 z4=>?_;subst z4;have hx:=aB e1;subst hx;refine wpAny_bind (wpAny_bind (wpAny_alloc (wpAny_pure ?_)));have R1:Rep c (Z++[s.heap.objs.size]) (O.push (.ce .none)) { s with heap:=s.heap.push { cls:=.type "cell",data:=.cell none } }:=
    R.push (t':=s.toks) rfl (ag none rfl trivial)
   have hp:Z<+:Z++[s.heap.objs.size]:=List.prefix_append ..
   have hcr1:CR (Z++[s.heap.objs.size]) ((x,O.n)::cs) ((x.str,s.heap.objs.size)::acc):=fun y i hy=>by
    simp only [br,aP] at hy;by_cases q:x=y
    ·subst q;rw [if_pos rfl] at hy;obtain rfl:=Option.some.inj hy;exact(ag s.heap.objs.size (ac (List.lookup_cons ..) (ac (beq_self_eq_true ..) rfl)) (ac (List.getElem?_append_right (ac (R.len ..) (Nat.le_refl _)) ..) (ac (R.len ..) (ac (Nat.sub_self ..) rfl))))
    ·rw [if_neg q] at hy;refine af (hcr y i hy) fun a h1 h2=>?_;have:(y.str==x.str)=false:=beq_eq_false_iff_ne.mpr fun z=>q (eu z).symm;exact(ag a (ac (List.lookup_cons ..) (ac (this ..) h1)) (bt hp h2))
   have hci1:eZ ((x,O.n)::cs) (O.push (.ce .none)):=fun y i hy=>by
    simp only [br,aP] at hy;by_cases q:x=y
    ·rw [if_pos q] at hy;obtain rfl:=Option.some.inj hy;exact⟨none,by simp [St.push]⟩
    ·rw [if_neg q] at hy;refine aj (hci y i hy) fun v hv=>?_;have:i≠O.n:=fun z=>by rw [z,R.hn _ (Nat.le_refl _)] at hv;exact aA hv
     exact⟨v,by simp only [St.push,if_neg this];exact hv⟩
   exact wpAny_mono (ih_ e2 hcr1 hci1 R1) (fun acc' s' z0_=>aS z0_ fun Z' a1 a2 a3 a4=>(bR Z' (hp.trans a1) a2 a3 a4)) fun U U q=>q
  ·refine ac (if_neg hk ..) ?_;rw [List.filter_cons_of_neg (by exact hk)] at h;exact wpAny_bind (wpAny_pure (ih_ h hcr hci R))
theorem iV:∀ {xs:List Nm} {cs:List (Nm×Nat)} {O:St} (x:Nm),(lk (aR xs cs O).1 x).isSome=(decide (x∈xs)||(lk cs x).isSome):=by
 intro l_
 induction l_ with
 | nil=>
  intro cs O x
  simp [mu,kZ]
 | cons y xs ih_=>
  intro cs O x
  refine ac (ih_ x ..) ?_;simp only [br,aP];by_cases q:y=x
  ·subst q;simp
  ·refine ac (if_neg q ..) ?_;have:(decide (x∈y::xs))=decide (x∈xs):=by simp [List.mem_cons,Ne.symm q]
   exact ac this rfl
structure FnOk(h₀:Heap)(f:Addr)(fd:FuncData)(fi:FI):Prop where
 there:∃ o,h₀.get? f=some o/\o.data=.func fd
 pars:∃ as,fd.params=⟨[],as,none,[],[],none,[]⟩/\as.map (·.arg)=fi.params.map Nm.str
 body:∃ b,fd.body=.stmts b/\allS (trS 60 fun s=>fd.scope.names.lookup s) b=some fi.body
 cells:allS (fun p:Str×NameKind=>nmOf p.1) (fd.scope.names.filter fun p=>p.2==.cell)=some fi.cells
 tab:fi.tab≠0->∃ t∈fR,t.1=fi.tab/\fd.code=.ref t.2
 clo:fd.closure=[]
 dfl:fd.defaults=.none
 glob:fd.globals=mainGlobals/\fd.builtins=builtinsNs
 kind:fd.scope.kind=.function
 gen:fd.scope.isGenerator=false
 co:fd.scope.isCoroutine=false
 code:∃ q,h₀.CodeRec fd.code q
 pl:fi.params∈wm
 kinds:∀ p∈fi.params,(fd.scope.names.lookup p.str=some .local/\p∉fi.cells)∨(fd.scope.names.lookup p.str=some .cell/\p∈fi.cells)
theorem rT{f:Addr}{fd:FuncData}{fi:FI}{vs:List AV}{xs:List Value}{O1:St}{qual:Str}{A':Around}{A:Env->Around}{E:Value->Shared->Prop}(K:FnOk h₀ f fd fi)(R:Rep c Z O s)(hxs:RL (VR Z) vs xs)
  (eb:bindsR (aR fi.cells [] { O with m:=[] }).1 fi.params vs (aR fi.cells [] { O with m:=[] }).2=.ok () O1) :
  wpAny (model prog w) A' (newFunctionEnv fd.scope fd.globals fd.closure ((fi.params.map Nm.str).zip xs) qual (some f) fd.code none fd.builtins)
    (fun env s'=>∃ Z',Z<+:Z'/\env.frame=some env.locals/\Rep ⟨env::c.fs,.ns c.L O.m::c.kp,env.locals,A env,c.lk⟩ Z' O1 s'/\
    EnvR (fun s=>fd.scope.names.lookup s) ⟨(aR fi.cells [] { O with m:=[] }).1,fi.tab⟩ env ⟨env::c.fs,.ns c.L O.m::c.kp,env.locals,A env,c.lk⟩ Z') E s:=by
 refine ac (K.clo ..) (ac (K.glob.1 ..) (ac (K.glob.2 ..) ?_))
 delta newFunctionEnv
 refine wpAny_bind (wpAny_alloc ?_);have R1:=R.enter (o:={ cls:=.type "frame",data:=.dict #[] }) (A:=c.A) (t':=s.toks) rfl rfl;refine wpAny_bind (wpAny_mono (om _ (fun name kind cells=>by cases hkc:kind==NameKind.cell <;> simp [hkc]) (cs:=[]) K.cells (fun U U q=>by exact aA q) (fun U U q=>by exact aA q) R1) (fun acc s2 z0_=>aS z0_ fun Z2 hp2 hcr hci R2=>?_) fun U U q=>q);generalize hσ:(aR fi.cells [] { O with m:=[] }).2=O2 at *;generalize hcs:(aR fi.cells [] { O with m:=[] }).1=cs at *;have hkinds:∀ p∈fi.params,(fd.scope.names.lookup p.str=some .local/\lk cs p=none)∨(fd.scope.names.lookup p.str=some .cell/\(lk cs p).isSome=true):=fun p hp=>by
  have:=iV (xs:=fi.cells) (cs:=[]) (O:={ O with m:=[] }) p
  rw [hcs] at this;rcases K.kinds p hp with ⟨a,b⟩ | ⟨a,b⟩
  ·refine .inl ⟨a,?_⟩;rw [decide_eq_false b] at this;induction q:lk cs p with
   | none=>rfl
   | some v=>rw [q] at this;exact gw this.symm
  ·refine .inr ⟨a,?_⟩;refine ac this (ac (decide_eq_true b ..) ?_);rfl
 have R3:=R2.frame (env:={ scope:=fd.scope,locals:=s.heap.objs.size,globals:=mainGlobals,cells:=acc,qual,func:=some f,code:=fd.code,frame:=some s.heap.objs.size,builtins:=builtinsNs }) (A':=A { scope:=fd.scope,locals:=s.heap.objs.size,globals:=mainGlobals,cells:=acc,qual,func:=some f,code:=fd.code,frame:=some s.heap.objs.size,builtins:=builtinsNs }) rfl (by refine ac (show (Env.scope _).kind=_ from K.kind) ?_;decide)
 refine wpAny_bind (wpAny_mono (oj (env:={ scope:=fd.scope,locals:=s.heap.objs.size,globals:=mainGlobals,cells:=acc,qual,func:=some f,code:=fd.code,frame:=some s.heap.objs.size,builtins:=builtinsNs }) _ (fun U U U=>rfl) rfl K.kind hcr (hxs.mono fun U U q=>q.mono hp2) hkinds hci R3 eb) (fun U s4 R4=>?_) fun U U q=>q);refine wpAny_pure (bR Z2 hp2 rfl R4 ?_);exact { L:=rfl,kind:=K.kind,kd:=fun x q h=>.inl h,cells:=hcr,glob:=⟨rfl,rfl⟩,frame:=(aw _ _ rfl rfl),tab:=K.tab }
theorem bindsR_len{cs:List (Nm×Nat)}{ps:List Nm}:∀ {vs:List AV} {O:St},bindsR cs ps vs O=.bad∨(ps.length=vs.length/\∃ O',bindsR cs ps vs O=.ok () O'):=by
 induction ps with
 | nil=>
  intro vs O
  induction vs using List.casesOn with
  | nil=>exact .inr ⟨rfl,O,rfl⟩
  | cons _ _=>exact .inl rfl
 | cons p ps ih=>
  intro vs O
  induction vs using List.casesOn with
  | nil=>exact .inl rfl
  | cons v vs=>
   have e:∃ O1,bindsR cs (p::ps) (v::vs) O=bindsR cs ps vs O1:=by
    induction h:lk cs p with
    | none=>exact⟨O.var p v,by show ((match lk cs p with | some i=>_ | .none=>_:Res Unit).bind _)=_;refine ac h ?_;rfl⟩
    | some i=>exact⟨O.set i (.ce (some v)),by show ((match lk cs p with | some i=>_ | .none=>_:Res Unit).bind _)=_;refine ac h ?_;rfl⟩
   refine aj e fun O1 e=>?_;refine ac e ?_;rcases ih (vs:=vs) (O:=O1) with h | ⟨h,O2,h2⟩
   ·exact .inl h
   ·exact .inr ⟨congrArg (·+1) h,O2,h2⟩
def ni(c:Cx)(Z:List Addr)(r:Res AV)(x:Result)(s':Shared):Prop:=match x with
 | .ok (.ret v)=>okP c Z VR r v s'
 | .ok _=>False
 | .error e=>oV c Z r e s'
theorem Rep.left{env:Env}{A A':Around}{m₀:List (Nm×AV)}{L₁:Addr}(R:Rep c Z O s)(R':Rep ⟨env::c.fs,.ns c.L m₀::c.kp,L₁,A,c.lk⟩ Z' O' s'):Rep { c with A:=A' } Z' { O' with m:=m₀ } s':=by
 have hff:=R'.ff
 refine R'.leave (fs:=c.fs) hff.2.2 (fun b hb=>?_) (fun b hb q=>?_)
 ·simp only [gJ,List.filterMap_cons] at hb ⊢;induction env.frame with
  | none=>exact hb
  | some L=>exact List.mem_cons_of_mem _ hb
 ·have h1:=R'.nd
  have h2:b∈c.own:=R.fr_own hb
  exact(List.nodup_cons.mp h1).1 (List.mem_append_left _ (q▸h2))
structure RoomC(c:Cx)(kk:Nat):Prop where
 frames:c.A.frames=some c.fs
 depth:c.A.depth+10 * kk+12<=900
 units:c.A.units+700 * kk+705<=9800
 handled:c.A.handled=none
theorem Room.forCall{kk n:Nat}(Ro:Room c (kk+1) n):RoomC c kk:=⟨Ro.frames,by have:=Ro.depth;lia,by have:=Ro.units;lia,Ro.handled⟩
theorem RoomC.down{env:Env}{kp:List Keep}{L:Addr}{lk:List (Nat×Obj)}{kk:Nat}(Ro:RoomC c kk):Room ⟨env::c.fs,kp,L,c.A.deeper env,lk⟩ kk 60:=
 ⟨Around.frames_deeper Ro.frames,by have:=Ro.depth;show c.A.depth+1+10 * kk+10<=900;lia,by have:=Ro.units;show c.A.units+3+10 * 60+700 * kk+100<=9800;lia,Ro.handled⟩
theorem xi{F:Fns}{kk:Nat}(B:Bse w h₀){f:Addr}{fd:FuncData}{fi:FI}(K:FnOk h₀ f fd fi)(S:IS F kk 60)(R:Rep c Z O s)(Ro:RoomC c kk){vs:List AV}{xs:List Value}(hxs:RL (VR Z) vs xs)
  (hb:runF F fi vs O≠.bad):bk (model prog w) c.A (.call (.ref f) ⟨xs,[]⟩) (ni c Z (runF F fi vs O)) s:=by
 have e0:runF F fi vs O=back O.m ((bindsR (aR fi.cells [] { O with m:=[] }).1 fi.params vs (aR fi.cells [] { O with m:=[] }).2).bind fun U s=>dO (F.S ⟨(aR fi.cells [] { O with m:=[] }).1,fi.tab⟩ fi.body s)):=rfl
 rcases bindsR_len (cs:=(aR fi.cells [] { O with m:=[] }).1) (ps:=fi.params) (vs:=vs) (O:=(aR fi.cells [] { O with m:=[] }).2) with h | ⟨hlen,O1,eb⟩
 ·exact absurd (by refine ac e0 (ac h ?_);rfl) hb
 have e0:runF F fi vs O=back O.m (dO (F.S ⟨(aR fi.cells [] { O with m:=[] }).1,fi.tab⟩ fi.body O1)):=by refine ac e0 (ac eb ?_);rfl
 refine af K.there fun o ho hod=>?_;refine aj K.code fun q hq=>?_;refine af K.pars fun as hpar has=>?_;refine af K.body fun bd hbody htr=>?_;have hroom:c.A.depth<recursionLimit:=by have:=Ro.depth;show c.A.depth<1000;lia
 refine c8 hroom (R.base _ _ ho) hod K.co K.gen (hq.keeps R.base) ?_;refine ac (c7 hpar K.dfl has K.pl (hlen.trans hxs.length) ..) ?_;refine ah ?_;refine am (al (rT (A:=fun env=>c.A.deeper env) K R hxs eb)) (fun env s1 z0_=>aS z0_ fun Z1 hp1 hfr R1 V1=>⟨B.nolimit.keeps R1.base,?_⟩) fun U U q=>q;refine ac hbody ?_;refine hW ?_;have Ro1:Room ⟨env::c.fs,.ns c.L O.m::c.kp,env.locals,c.A.deeper env,c.lk⟩ kk 60:=Ro.down;have S1:=S _ _ _ _ _ _ _ _ _ _ htr R1 V1 Ro1;generalize F.S ⟨(aR fi.cells [] { O with m:=[] }).1,fi.tab⟩ fi.body O1=r at *;have hown:∀ b,b∈c.own->b∈Cx.own ⟨env::c.fs,.ns c.L O.m::c.kp,env.locals,c.A.deeper env,c.lk⟩:=fun b hb=>List.mem_cons_of_mem _ hb;induction r with
 | bad=>exact absurd (by refine ac e0 ?_;rfl) hb
 | ok fl O2=>
  refine am (S1 w_) (fun f2 s2 z0_=>az z0_ fun Z2 hp2 hf2 R2=>?_) fun U U q=>q.elim;have R3:Rep c Z2 { O2 with m:=O.m } s2:=R.left (A':=c.A) R2;refine ac e0 ?_;induction fl with
  | next=>cases hf2;exact(aH Z2 (hp1.trans hp2) rfl R3)
  | ret v=>refine af hf2 fun y z1 hy=>?_;clear hf2;subst z1;exact(aH Z2 (hp1.trans hp2) hy R3)
 | exc C O2=>
  refine am (S1 xM) (fun U U q=>q.elim) fun e s2 z0_=>bM z0_ fun Z2 ea hp2 he hF R2=>?_;subst he;refine al (eX R2 rfl Ro1.frames hfr hF fun h3 R3 F3=>?_);have R4:Rep c Z2 { O2 with m:=O.m } { s2 with heap:=h3 }:=R.left (A':=c.A) R3;refine ac e0 ?_;exact(cH Z2 ea (hp1.trans hp2) rfl (F3.sub hown) R4)
theorem pf{F:Fns}{kk:Nat}(B:Bse w h₀)(I:IE F kk 60)(R:Rep c Z O s)(Ro:RoomC c kk){i:Nat}{body:RE}{cells:List (Nm×Nat)}(e:O.H i=some (.lam body cells)){f:Addr}(hf:Z[i]?=some f)
  (hb:back O.m (F.E ⟨cells,0⟩ body { O with m:=[] })≠.bad):bk (model prog w) c.A (.call (.ref f) ⟨[],[]⟩) (ni c Z (back O.m (F.E ⟨cells,0⟩ body { O with m:=[] }))) s:=by
 obtain ⟨a,ob,h1,h2,fd,rfl,L⟩:=R.own i _ e
 rw [hf] at h1;obtain rfl:=Option.some.inj h1;refine ai L.code fun bb q hcode U hrec=>?_;refine aI L.body fun m e1 hbody htr=>?_;refine bK L.scope fun hk hg hco hnc=>?_;have hroom:c.A.depth<recursionLimit:=by have:=Ro.depth;show c.A.depth<1000;lia
 refine c8 hroom h2 rfl hco hg (by refine ac hcode ?_;exact hrec) ?_;refine ac (c7 (as:=[]) (l:=[]) L.params L.dflt.1 rfl (show []∈wm from .head _) rfl ..) ?_;refine ah ?_;refine al ?_
 delta newFunctionEnv
 dsimp only;refine wpAny_bind (wpAny_alloc ?_);rw [forIn_yield_id fd.closure (fun x hx c=>by
   obtain ⟨name,kind⟩:=x
   have:(kind==NameKind.cell)=false:=by simpa using hnc _ hx
   simp only [this,Bool.false_eq_true,if_false])]
 refine wpAny_bind (wpAny_pure (wpAny_bind ?_));refine wpAny_pure (wpAny_pure ?_);have R1:=R.enter (o:={ cls:=.type "frame",data:=.dict #[] }) (A:=c.A) (t':=s.toks) rfl rfl;refine⟨B.nolimit.keeps R1.base,?_⟩;refine ac hbody ?_;generalize hev:({ scope:=fd.scope,locals:=s.heap.objs.size,globals:=fd.globals,cells:=fd.closure,qual:=q++".<locals>.",func:=some f,code:=fd.code,frame:=some s.heap.objs.size,builtins:=fd.builtins }:Env)=ev;have hloc:ev.locals=s.heap.objs.size:=by exact bo hev rfl
 have hfr:ev.frame=some ev.locals:=by exact bo hev rfl
 have R2:Rep ⟨ev::c.fs,.ns c.L O.m::c.kp,s.heap.objs.size,c.A.deeper ev,c.lk⟩ Z { O with m:=[] } { s with heap:=s.heap.push { cls:=.type "frame",data:=.dict #[] } }:=
  R1.frame (by exact ac hfr (ac hloc rfl)) (by refine bo (hev ..) (ac (show (Env.scope _).kind=_ from hk ..) ?_);decide)
 have V:EnvR (fun s=>fd.scope.names.lookup s) ⟨cells,0⟩ ev ⟨ev::c.fs,.ns c.L O.m::c.kp,s.heap.objs.size,c.A.deeper ev,c.lk⟩ Z:=by
  subst hev;exact { L:=rfl,kind:=hk,kd:=fun x q h=>.inl h,cells:=L.cells,glob:=⟨L.globals,L.builtins⟩,frame:=(aw _ _ rfl rfl),tab:=fun q=>absurd rfl q }
 have Ro1:Room ⟨ev::c.fs,.ns c.L O.m::c.kp,s.heap.objs.size,c.A.deeper ev,c.lk⟩ kk 60:=Ro.down
 have S1:=I _ _ _ _ _ _ _ _ _ _ htr R2 V Ro1
 have hown:∀ b,b∈c.own->b∈Cx.own ⟨ev::c.fs,.ns c.L O.m::c.kp,s.heap.objs.size,c.A.deeper ev,c.lk⟩:=fun b hb=>List.mem_cons_of_mem _ hb
 generalize F.E ⟨cells,0⟩ body { O with m:=[] }=r at *
 refine my ?_;induction r with
 | bad=>exact absurd rfl hb
 | ok v O2=>
  refine am (S1 w_) (fun y s2 z0_=>az z0_ fun Z2 hp2 hy R3=>?_) fun U U q=>q.elim;have R4:Rep c Z2 { O2 with m:=O.m } s2:=R.left (A':=c.A) R3;exact(aH Z2 hp2 hy R4)
 | exc C O2=>
  refine am (S1 xM) (fun U U q=>q.elim) fun e s2 z0_=>bM z0_ fun Z2 ea hp2 he hF R3=>?_;subst he;refine al (eX R3 rfl Ro1.frames (hfr.trans (congrArg some hloc)) hF fun h3 R4 F3=>?_);have R5:Rep c Z2 { O2 with m:=O.m } { s2 with heap:=h3 }:=R.left (A':=c.A) R4;exact(cH Z2 ea hp2 rfl (F3.sub hown) R5)
theorem o7:∀ {as:List Arg} {ps:List Nm},allS (fun a:Arg=>nmOf a.arg) as=some ps->as.map (·.arg)=ps.map Nm.str:=by
 intro l_
 induction l_ with
 | nil=>
  intro c1_ h
  obtain rfl:=Option.some.inj h;rfl
 | cons a as ih_=>
  intro c1_ h
  refine ai (aJ h) fun x r e1 e2 z4=>?_;subst z4;exact ac (List.map_cons ..) (ac (List.map_cons ..) (ac (ih_ e2 ..) (ac (aB e1 ..) rfl)))
theorem rN{v:Value}{t:Nat}(h:vW v=some t)(hne:t≠0):∃ p∈fR,p.1=t/\v=.ref p.2:=by
 induction v with
 | ref a=>
  have h:(match lk nz a with | some t=>some t | none=>some 0)=some t:=h
  induction e:lk nz a with
  | none=>rw [e] at h;exact absurd (Option.some.inj h).symm hne
  | some t'=>
   rw [e] at h;obtain rfl:=Option.some.inj h;have key:∀ p∈nz,(p.2,p.1)∈fR:=by decide
   exact(aH _ (key _ (dv e)) rfl rfl)
 | _=>exact absurd (Option.some.inj h).symm hne
theorem tE{K:Frag}{f:Addr}{oc:Value}{od:Option Addr}{fd:FuncData}{sl:Array (Option Value)}(h:K.lookup f=some ⟨oc,od,.func fd,sl⟩)(e:tD K f=true):vm K fd=true:=by unfold tD at e;rw [h] at e;exact e
theorem rM{K:Frag}{f t:Addr}{oc:Value}{od:Option Addr}{fd:FuncData}{sl:Array (Option Value)}(h:K.lookup f=some ⟨oc,od,.func fd,sl⟩)(e:gR K f t=true):(vW fd.code==some t)=true:=by unfold gR at e;rw [h] at e;exact e
theorem wT{f:Nat}{fi:FI}(h:aG f=some fi):fi.params∈wm:=of_decide_eq_true (List.all_eq_true.mp (show (fnL.all fun p=>decide (p.2.params∈wm))=true by decide +kernel) _ (dv h))
theorem qw(B:Bse w h₀){f:Nat}{fi:FI}(h:aG f=some fi):∃ fd,FnOk h₀ f fd fi:=by
 refine dA (u7 w h) fun oc od fd sl hk hI=>?_;have h2:=Bool.and_eq_true_iff.mp (List.all_eq_true.mp (pc w) _ (dv h));have h2':=tE hk h2.1;unfold vm at h2';simp only [Bool.and_eq_true,Bool.not_eq_true',beq_iff_eq,decide_eq_true_eq,List.isEmpty_iff,List.all_eq_true,Bool.or_eq_true] at h2';have h3':=rM hk h2.2;refine aq h2' fun z0 a10=>?_;clear h2';refine aq z0 fun z0 a9=>?_;obtain ⟨⟨⟨⟨⟨⟨⟨a1,a2⟩,a3⟩,a4⟩,a5⟩,a6⟩,a7⟩,a8⟩:=z0;induction fi with | mk ps cs t body=>
 cases hI with
 | @mk as b _ _ _ hpar hbody hps hcs hb=>
 rw [hpar] at a9 a10;have hmap:as.map (·.arg)=ps.map Nm.str:=o7 hps;refine⟨fd,ag _ (B.K _ _ hk) rfl,ag as hpar hmap,ag b hbody hb,hcs,fun hne=>rN (beq_iff_eq.mp h3') hne,a1,?_,⟨a3,a4⟩,a5,a6,a7,⟨_,codeRec_of B.K a8⟩,?_,?_⟩
 ·induction hd:fd.defaults with
  | none=>rfl
  | _=>rw [hd] at a2;exact gw a2
 ·exact wT h
 ·intro p hp
  have hp':p.str∈as.map (·.arg):=by refine ac hmap ?_;exact List.mem_map_of_mem hp
  refine af (List.mem_map.mp hp') fun a ha hae=>?_;rcases a10 a ha with ⟨h3,h4⟩ | h3
  ·rw [hae] at h3 h4;refine .inl ⟨h3,fun hm=>?_⟩;refine af (iT hcs p hm) fun q hq hqn=>?_;refine aq (List.mem_filter.mp hq) fun hq1 hq2=>?_;have:=List.any_eq_false.mp h4 q hq1;rw [aB hqn,beq_self_eq_true,Bool.true_and] at this;exact this hq2
  ·rw [hae] at h3;refine .inr ⟨h3,?_⟩;have hm:(p.str,NameKind.cell)∈fd.scope.names:=mem_of_lookup h3;refine af (gS hcs _ (List.mem_filter.mpr ⟨hm,rfl⟩)) fun y hy e=>?_;rw [j0] at e;obtain rfl:=Option.some.inj e;exact hy
section
variable {A:Around}{R:Result->Shared->Prop}{K:Frag}{C:Addr}
theorem dQ{id:String}{args:Args}{b:Builtin}(hq:(Code.builtin id args).quiet=true)(hd:dec (.builtin id args)=false)(hb:entryFor table id=some b)
   (h:wpD (model prog w) A.in1 (checkBuiltinCall id args) (fun U s₁=>wpD (model prog w) (A.under (.builtin id args)) (b args)
    (fun fin s'=>match fin with | .done f=>R (.ok f) s' | .again c'=>c'.quiet=true/\dec c'=false/\bk (model prog w) A c' R s') (fun e s'=>R (.error e) s') s₁)
    (fun e s'=>R (.error e) s') s):bk (model prog w) A (.call (.builtin id) args) R s:=by
 refine aT ?_;exact ae (am h (fun U s₁ h₁=>ah (And.intro hq ⟨hd,codeD_builtin hb h₁⟩)) fun U U h'=>h')
def oB(x:Value)(R:Result->Shared->Prop)(r:Result)(s':Shared):Prop:=match r with
 | .ok (.ret v)=>v=.none/\R (.ok (.ret x)) s'
 | .ok _=>False
 | .error e=>R (.error e) s'
theorem iA{od:Option Addr}{oc:Value}{cd:ClassData}{sl:Array (Option Value)}{rest:List Value}(hC:s.heap.get? C=some ⟨oc,od,.cls cd,sl⟩)(call:Looks (model prog w) s.heap (specialOf (.ref C) "__call__") (some (.builtin "type.__call__")))
  (typ:Looks (model prog w) s.heap (isInstance (.ref C) (.type "type")) true)
   (h:wpD (model prog w) (A.under (.builtin "type.__call__" ⟨.ref C::rest,[]⟩)) (Builtin.«type.__call__» ⟨.ref C::rest,[]⟩)
    (fun fin s'=>match fin with | .done f=>R (.ok f) s' | .again c'=>c'.quiet=true/\dec c'=false/\bk (model prog w) A c' R s') (fun e s'=>R (.error e) s') s) :
  bk (model prog w) A (.call (.ref C) ⟨rest,[]⟩) R s:=by
 refine aT ?_;refine ae (m:=load C) (al (wpAny_load hC ?_));refine ae (al (call.here ?_));dsimp only;refine ac (tc_bind ..) ?_;refine ae (ah (ae (ah ?_)));refine ah (a:=Fin.again (.call (.builtin "type.__call__") ⟨.ref C::rest,[]⟩)) (And.intro rfl ⟨rfl,?_⟩);exact dQ (Code.quiet_builtin _ (by decide +kernel)) (gq _) entry_typeCall (al (check_slot tc_kind tc_split typ (tc_args _ _ _) h))
theorem og{A':Around}{rest:List Value}{newId:String}{x:Addr}{init:Value}{cd:ClassData}{s1:Shared}{Q:Fin->Shared->Prop}{E:Value->Shared->Prop}(hmro:Looks (model prog w) s.heap (mroOf (.ref C)) cd.mro)(hne:cd.mro.isEmpty=false)(made:Looks (model prog w) s.heap (Bind.madeBy (.ref C)) (some newId))
  (hnew:∀ Q':Value->Shared->Prop,Q' (.ref x) s1->wpAny (model prog w) A' (call (.builtin newId) (.ref C::rest)) Q' E s)
  (hin:Looks (model prog w) s1.heap (isInstance (.ref x) (.ref C)) true)(hsp:Looks (model prog w) s1.heap (specialOf (.ref x) "__init__") (some init))(hbi:Looks (model prog w) s1.heap (bindSpecial init (.ref x)) (init,[.ref x]))
  (hq:bk (model prog w) A' (.call init ⟨.ref x::rest,[]⟩) (oB (.ref x) (fun r s'=>match r with | .ok (.ret v)=>Q (.done (.ret v)) s' | .ok _=>False | .error e=>E e s')) s1) :
  wpD (model prog w) A' (Builtin.«type.__call__» ⟨.ref C::rest,[]⟩) Q E s:=by
 unfold Builtin.«type.__call__»;dsimp only;refine ac (if_neg (show ¬ ((Value.ref C==Value.type "type")=true) from Bool.false_ne_true)) ?_;refine ae (al (hmro.here ?_));refine ac hne (ac (if_neg (by decide) ..) ?_);refine ae (al (made.here ?_));refine ae (ah ?_);refine ae (au (al (hnew _ ?_)));refine ae (al (hin.here ?_));refine ac (if_neg (by decide) ..) ?_;refine ae (au ?_);refine ae (al (hsp.here ?_));refine au ?_;refine ae (al (hbi.here ?_));refine ae (db (codeD_mono hq fun r s' h=>?_));induction r with
 | error e=>exact h
 | ok f=>
  induction f with
  | ret v=>
   obtain ⟨rfl,h⟩:=h
   refine ah ?_;dsimp only;refine ac (if_neg (by decide) ..) ?_;exact ah h
  | _=>exact h.elim
end
theorem ib(w:World){C i:Nat}(h:bW C=some i):makesIn (KF w) C=true/\findIn (KF w) (.ref C) "__init__"=some (some (.ref i))/\typeIn (KF w) (.ref i)=some (.type "function"):=by
 have k1:=Bool.and_eq_true_iff.mp (List.all_eq_true.mp (qF w) _ (dv h))
 have k2:=Bool.and_eq_true_iff.mp k1.1
 exact(ao k2.1 (beq_iff_eq.mp k2.2) (beq_iff_eq.mp k1.2))
theorem y6(C:Addr)(rest:List Value)(A:Around):A.under (.builtin "type.__call__" ⟨.ref C::rest,[]⟩)={ A with depth:=A.depth+1,units:=A.units+1 }:=by
 have h1:(Code.builtin "type.__call__" ⟨.ref C::rest,[]⟩).weight=1:=by kernel_rfl
 have h2:(Code.builtin "type.__call__" ⟨.ref C::rest,[]⟩).cUnits=1:=by kernel_rfl
 have h3:(Code.builtin "type.__call__" ⟨.ref C::rest,[]⟩).envs=[]:=by kernel_rfl
 have h4:(Code.builtin "type.__call__" ⟨.ref C::rest,[]⟩).guards=[]:=by kernel_rfl
 obtain ⟨hd,d,fr,gs,u⟩:=A
 rw [Around.under,h1,h2,h3,h4,pushEnvs,pushGuards]
theorem Rep.newInst{C:Nat}(R:Rep c Z O s) :
  Rep c (Z++[s.heap.objs.size]++[s.heap.objs.size+1]) ((O.push (.sd [])).push (.inst C O.n)) { s with heap:=(s.heap.push emptyDict).push (instObj C s.heap.objs.size) }:=by
 have R1:Rep c (Z++[s.heap.objs.size]) (O.push (.sd [])) { s with heap:=s.heap.push emptyDict }:=
  R.push (t':=s.toks) rfl (ag [] (cJ #[] 0 (ao rfl rfl rfl) rfl (fun U he=>((Array.not_mem_empty _ he).elim)) .nil List.nodup_nil) trivial)
 have R2:=R1.push (d:=.inst C O.n) (o:=instObj C s.heap.objs.size) (t':=s.toks) rfl ⟨s.heap.objs.size,by
  rw [List.append_assoc,List.getElem?_append_right (by refine ac (R.len ..) ?_;exact Nat.le_refl _),R.len,Nat.sub_self];rfl,rfl⟩
 have e:(s.heap.push emptyDict).objs.size=s.heap.objs.size+1:=by exact ac (Heap.size_push ..) rfl
 rw [show ({ s with heap:=s.heap.push emptyDict }:Shared).heap.objs.size=s.heap.objs.size+1 from e] at R2;exact R2
theorem vI{F:Fns}{kk n:Nat}(B:Bse w h₀){C i:Nat}(hC:bW C=some i){fd:FuncData}{fi:FI}(K:FnOk h₀ i fd fi)(S:IS F kk 60)(R:Rep c Z O s)(Ro:Room c (kk+1) n)
  {vs:List AV}{xs:List Value}(hxs:RL (VR Z) vs xs)
  (hb:(runF F fi (.obj (O.n+1)::vs) ((O.push (.sd [])).push (.inst C O.n))).bind (made (O.n+1))≠.bad) :
  bk (model prog w) c.A (.call (.ref C) ⟨xs,[]⟩) (ni c Z ((runF F fi (.obj (O.n+1)::vs) ((O.push (.sd [])).push (.inst C O.n))).bind (made (O.n+1)))) s:=by
 refine aM (ib w hC) fun hm hi hf=>?_;have X:=R.K B;have Y:=makes_of (M:=model prog w) X hm;have Y':=Y;obtain ⟨⟨oc,od,cd,sl,hCo,e1,e2,e4⟩,made',base,self,top,call,typ⟩:=Y;have R2:=R.newInst (C:=C);have hp:Z<+:Z++[s.heap.objs.size]++[s.heap.objs.size+1]:=by refine ac (List.append_assoc ..) ?_;exact List.prefix_append ..
 have hlen:(Z++[s.heap.objs.size]).length=O.n+1:=by refine ac (List.length_append ..) (ac (R.len ..) ?_);rfl
 have hx:(Z++[s.heap.objs.size]++[s.heap.objs.size+1])[O.n+1]?=some (s.heap.objs.size+1):=by
  rw [List.getElem?_append_right (by refine ac hlen ?_;exact Nat.le_refl _),hlen,Nat.sub_self];rfl
 have k:∀ b o,s.heap.get? b=some o->((s.heap.push emptyDict).push (instObj C s.heap.objs.size)).get? b=some o:=fun b o e=>Heap.get?_push_of_some _ (Heap.get?_push_of_some _ e)
 have hxo:((s.heap.push emptyDict).push (instObj C s.heap.objs.size)).get? (s.heap.objs.size+1)=some (instObj C s.heap.objs.size):=Heap.get?_push_at (by exact ac (Heap.size_push ..) rfl) rfl
 have t1:Looks (model prog w) ((s.heap.push emptyDict).push (instObj C s.heap.objs.size)) (typeOf (.ref (s.heap.objs.size+1))) (.ref C):=(Looks.ld hxo).andThen .now
 refine iA hCo call typ ?_;refine ac (y6 ..) ?_;refine og (s1:={ s with heap:=(s.heap.push emptyDict).push (instObj C s.heap.objs.size) }) (x:=s.heap.objs.size+1) (cd:=cd) (newId:="object.__new__") (init:=.ref i)
  (((Looks.ld (part:=none) hCo).andThen .now).andThen .now) e4 made' (fun Q' hQ=>wpAny_call (new_K Y' (looks_findIn X hi) (.inl rfl) hQ))
  (t1.andThen (self.keeps k)) (t1.andThen ((looks_findIn X hi).keeps k)) ((bind_fn X _ hf).keeps k) ?_
 have Ro1:RoomC { c with A:={ c.A with depth:=c.A.depth+1,units:=c.A.units+1 } } kk:=
  ⟨Ro.frames,by have:=Ro.depth;show c.A.depth+1+10 * kk+12<=900;lia,by have:=Ro.units;show c.A.units+1+700 * kk+705<=9800;lia,Ro.handled⟩
 have R3:Rep { c with A:={ c.A with depth:=c.A.depth+1,units:=c.A.units+1 } } (Z++[s.heap.objs.size]++[s.heap.objs.size+1]) ((O.push (.sd [])).push (.inst C O.n)) { s with heap:=(s.heap.push emptyDict).push (instObj C s.heap.objs.size) }:=R2.same rfl rfl rfl rfl
 have hxs':RL (VR (Z++[s.heap.objs.size]++[s.heap.objs.size+1])) (.obj (O.n+1)::vs) (.ref (s.heap.objs.size+1)::xs):=⟨ag _ hx rfl,hxs.mono fun U U q=>q.mono hp⟩
 have hb':runF F fi (.obj (O.n+1)::vs) ((O.push (.sd [])).push (.inst C O.n))≠.bad:=fun q=>by rw [q] at hb;exact hb rfl
 refine codeD_mono (xi B K S R3 Ro1 hxs' hb') fun r s2 h2=>?_;generalize runF F fi (.obj (O.n+1)::vs) ((O.push (.sd [])).push (.inst C O.n))=rr at h2 hb ⊢;induction r with
 | error e=>
  induction rr with
  | exc C' O2=>
   refine bM h2 fun Z2 ea hp2 he hF R4=>?_;clear h2;exact(cH Z2 ea (hp.trans hp2) he (hF.sub (fun U q=>q)) (R4.same rfl rfl rfl rfl))
  | ok a O2=>exact h2.elim
  | bad=>exact h2.elim
 | ok f=>
  induction f with
  | ret v=>
   induction rr with
   | ok a O2=>
    refine az h2 fun Z2 hp2 hv R4=>?_;clear h2;induction a with
    | none=>
     cases hv
     exact⟨rfl,Z2,hp.trans hp2,ag _ (bt hp2 hx) rfl,R4.same rfl rfl rfl rfl⟩
    | _=>exact absurd rfl hb
   | exc C' O2=>exact h2.elim
   | bad=>exact h2.elim
  | _=>exact h2.elim
theorem Sd.ofCode{r:Res AV}{f:Value}{xs:List Value}(h:r≠.bad->bk (model prog w) c.A (.call f ⟨xs,[]⟩) (ni c Z r) s):Sd c Z VR r (call f xs) s:=fun hb=>
 db (codeD_mono (h hb) fun x s' h'=>by
  induction x with
  | ok f=>induction f <;> exact h'
  | error e=>exact h')
theorem iY{E:Value->Shared->Prop}{Q:Keeper->Shared->Prop}{a:Addr}{o:Obj}{fd:FuncData}{A:Around}(ho:s.heap.get? a=some o)(hd:o.data=.func fd)(h:∀ k,Q k s):wpAny (model prog w) A (keeperOf (.ref a)) Q E s:=by
 refine wpAny_bind (wpAny_load ho ?_);refine ac hd ?_;exact wpAny_pure (h _)
theorem mx{E:Value->Shared->Prop}{Q:Keeper->Shared->Prop}{a:Addr}{o:Obj}{cd:ClassData}{x:Option Value}{A:Around}(ho:s.heap.get? a=some o)(hd:o.data=.cls cd)(hc:Looks (model prog w) s.heap (specialOf (.ref a) "__call__") x)(h:∀ k,Q k s):wpAny (model prog w) A (keeperOf (.ref a)) Q E s:=by
 refine wpAny_bind (wpAny_load ho ?_);refine ac hd ?_;refine wpAny_bind (hc.here ?_);exact wpAny_pure (h _)
theorem r_{n:Nat}:IC (lvl aG 0) 0 n:=fun U U U U U U U U U U U U=>⟨Sd.bad,fun hb=>absurd rfl hb⟩
theorem r9{kk n:Nat}(B:Bse w h₀)(S:IS (aL (lvl aG kk) 60) kk 60)(I:IE (aL (lvl aG kk) 60) kk 60):IC (lvl aG (kk+1)) (kk+1) n:=by
 intro c Z O s f args y xs R Ro hf ha
 induction f with
 | base a=>
  cases hf
  induction e1:bW a with
  | some i=>
   induction e2:aG i with
   | none=>
    have e:lvl aG (kk+1) (.base a) args O=.bad:=jX e1 e2
    refine ac e ?_;exact⟨Sd.bad,fun hb=>absurd rfl hb⟩
   | some fi=>
    have e:lvl aG (kk+1) (.base a) args O=(runF (aL (lvl aG kk) 60) fi (.obj (O.n+1)::args) ((O.push (.sd [])).push (.inst a O.n))).bind (made (O.n+1)):=jX e1 e2
    refine ac e ?_;refine aj (qw B e2) fun fd K=>?_;refine⟨Sd.ofCode fun hb=>vI B e1 K S R Ro ha hb,fun U E Q h=>?_⟩;have Y:=makes_of (M:=model prog w) (R.K B) (ib w e1).1;refine dA Y.obj fun oc od cd sl hCo U=>?_;exact mx hCo rfl Y.call h
  | none=>
   induction e2:aG a with
   | none=>
    have e:lvl aG (kk+1) (.base a) args O=.bad:=fH e1 e2
    refine ac e ?_;exact⟨Sd.bad,fun hb=>absurd rfl hb⟩
   | some fi=>
    have e:lvl aG (kk+1) (.base a) args O=runF (aL (lvl aG kk) 60) fi args O:=fH e1 e2
    refine ac e ?_;refine aj (qw B e2) fun fd K=>?_;refine⟨Sd.ofCode fun hb=>xi B K S R Ro.forCall ha hb,fun U E Q h=>?_⟩;refine af K.there fun o ho hd=>?_;exact iY (R.base _ _ ho) hd h
 | bf f=>
  cases hf
  refine⟨tM B R ha Ro.handled,fun U E Q h=>?_⟩;induction f <;> exact wpAny_pure (h _)
 | obj i=>
  refine af hf fun a h1 z2=>?_;clear hf;subst z2;have bad:lvl aG (kk+1) (.obj i) args O=.bad->Sd c Z VR (lvl aG (kk+1) (.obj i) args O) (call (.ref a) xs) s/\
    (lvl aG (kk+1) (.obj i) args O≠.bad->∀ (E:Value->Shared->Prop) (Q:Keeper->Shared->Prop),(∀ k,Q k s)->wpAny (model prog w) c.A (keeperOf (.ref a)) Q E s):=fun e=>by
   refine ac e ?_;exact⟨Sd.bad,fun hb=>absurd rfl hb⟩
  induction e2:O.H i with
  | none=>exact bad (fI e2)
  | some o=>
   induction o with
   | lam body cells=>
    induction args using List.casesOn with
    | cons _ _=>exact bad (fI e2)
    | nil=>
     have e:lvl aG (kk+1) (.obj i) [] O=back O.m ((aL (lvl aG kk) 60).E ⟨cells,0⟩ body { O with m:=[] }):=fI e2
     refine ac e ?_;induction xs using List.casesOn with
     | cons _ _=>exact ha.elim
     | nil=>
      refine⟨Sd.ofCode fun hb=>pf B I R Ro.forCall e2 h1 hb,fun U E Q h=>?_⟩;obtain ⟨a',ob,g1,g2,fd,rfl,_⟩:=R.own i _ e2;rw [h1] at g1;obtain rfl:=Option.some.inj g1;exact iY g2 rfl h
   | _=>exact bad (fI e2)
 | _=>
  exact⟨fun hb=>absurd rfl hb,fun hb=>absurd rfl hb⟩
end Mine.Lake
end
section
open PySem PySem.W PySem.Calls PyProof.Rows PySem.SeqAt PySem.MeetsSeq Builtin Builtin.ObjectAttr
open PySem.Sem (wp)
namespace Mine.Lake
noncomputable abbrev mh:List Value:=[.ref 39,.type "ValueError",.type "Exception",.type "BaseException",.type "object"]
noncomputable abbrev bU(C t:Addr)(d:Option Addr):Obj:={ cls:=.ref C,dict:=d,data:=.fields #[.ref t,.none,.none,.none,.bool false,.none] }
def gC(h:Heap)(C:Addr):Prop:=∃ nm q N bs sn sub ab col dd k0 k1 k2 k3 k5,h.get? C=some (excClassObj nm q C N bs mh true sn sub ab col dd k0 k1 k2 k3 k5 "ValueError.__new__")
theorem gC.keeps{h h':Heap}{C:Addr}(x:gC h C)(k:∀ b o,h.get? b=some o->h'.get? b=some o):gC h' C:=by
 refine aN x fun a1 a2 a3 a4 a5 a6 a7 a8 a9 b1 b2 b3 b4 b5 e=>?_;clear x;exact⟨a1,a2,a3,a4,a5,a6,a7,a8,a9,b1,b2,b3,b4,b5,k _ _ e⟩
theorem exc3{P:Nat->Prop}{n:Nm}{C:Nat}(h:excTab n=some C)(h1:P 52)(h2:P 64)(h3:P 76):P C:=by
 have key:∀ p∈excL,p.2=52∨p.2=64∨p.2=76:=by decide
 rcases key _ (dv h) with e | e | e <;> (have e:C=_:=e;rw [e];assumption)
theorem pw(B:Bse w h₀){c:Nm}{C:Nat}(h:excTab c=some C):gC h₀ C:=by
 refine exc3 h ?_ ?_ ?_
 ·exact⟨_,_,_,_,_,_,_,_,_,_,_,_,_,_,B.K _ _ (gc w (.tail _ (.tail _ (.tail _ (.head _)))))⟩
 ·exact⟨_,_,_,_,_,_,_,_,_,_,_,_,_,_,B.K _ _ (gc w (.tail _ (.tail _ (.tail _ (.tail _ (.head _))))))⟩
 ·exact⟨_,_,_,_,_,_,_,_,_,_,_,_,_,_,B.K _ _ (gc w (.tail _ (.tail _ (.tail _ (.tail _ (.tail _ (.head _)))))))⟩
section
variable {A:Around}{E:Value->Shared->Prop}{h:Heap}{g:Array GenState}{d:Drawn}{t:Nat}{os:OsState}{C:Addr}
theorem lP(C:Addr)(n:String)(h:n="ValueError"∨n="BaseException"∨n="object"):(Value.ref C::mh).contains (.type n)=true:=by
 rcases h with rfl | rfl | rfl <;> (rw [List.contains_cons];simp [mh])
theorem xG{nm q:Str}{N:Addr}{bs:List Value}{sn:List Str}{sub:List Value}{ab:Bool}{col:Option Bool}{dd:Option Addr}{k0 k1 k2 k3 k5:Option Value}(hC:h.get? C=some (excClassObj nm q C N bs mh true sn sub ab col dd k0 k1 k2 k3 k5 "ValueError.__new__"))(n:String)(hn:n="ValueError"∨n="BaseException"∨n="object"):Looks (model prog w) h (isSubtype (.ref C) (.type n)) true:=by
 intro A Q E s k q
 refine wpAny_isSubtype_exc (k _ _ hC) ?_;exact ac (lP C n hn ..) q
theorem uf(C:Addr):(Value.ref C::mh).contains (.type "AttributeError")=false/\(Value.ref C::mh).contains (.type "NameError")=false:=by
 constructor <;> (simp [mh])
theorem xF{rest:List Value}{Q:Value->Shared->Prop}(X:gC h C)(hrest:rest.length<=sizeLine)
  (hq:Q (.ref (h.objs.size+1)) ⟨(h.push { cls:=.type "tuple",data:=.seq rest.toArray }).push (bU C h.objs.size none),g,d,t,os⟩) :
  wpAny (model prog w) A (call (.builtin "ValueError.__new__") (.ref C::rest)) Q E ⟨h,g,d,t,os⟩:=by
 refine aN X fun nm q N bs sn sub ab col dd k0 k1 k2 k3 k5 hC=>?_;clear X;have F:=PySem.F.excBase_ValueError;have hends:=F.ends;have hstar:=F.noStar;have hcB:=lP C "ValueError" (.inl rfl);refine aq (uf C) fun hcA hcN=>?_;refine wpAny_call (codeAny_call_builtin_code (Code.quiet_builtin _ F.quiet) (wpAny_check_new_subU F (bmB:=mh) (by decide +kernel) .base hC ?_));refine codeAny_builtinAt F.entry ?_;refine PySem.wpAt_bind ?_;refine PySem.wpAt_bind (PySem.wpAt_stack fun p below=>PySem.wpAt_of_wpAny ?_)
 wp_walk
 refine PySem.wpAt_of_wpAny ?_;refine ac (F.owner ..) ?_
 repeat (first | with_reducible refine wpAny_madeHere_exc F.canon hC ?_ | with_reducible refine wpAny_loadPart_at hC ?_ | (with_reducible refine wpAny_isSubtype_exc hC ?_;first | rw [hcB] | rw [hcA] | rw [hcN]) | wp_step)
 refine ac (Heap.size_push ..) ?_;exact hq
theorem we{R:Result->Shared->Prop}{e t0:Addr}{rest:List Value}(X:gC h C)(he:h.get? e=some (bU C t0 none))(hrest:rest.length<=sizeLine)
  (hq:∀ h',(∀ b o,b≠e->h.get? b=some o->h'.get? b=some o)->h'.get? e=some (bU C h.objs.size none)->R (.ok (.ret .none)) ⟨h',g,d,t,os⟩) :
  codeAny (model prog w) A (.call (.builtin "ValueError.__init__") ⟨.ref e::rest,[]⟩) R ⟨h,g,d,t,os⟩:=by
 refine aN X fun nm q N bs sn sub ab col dd k0 k1 k2 k3 k5 hC=>?_;clear X;have F:=PySem.F.excBase_ValueError;have hshort:=F.noStar;have hcB:=lP C "ValueError" (.inl rfl);refine codeAny_call_builtin F.init.plain F.initEntry ?_;rw [checkBuiltinCall,F.initKind,F.initSplit,F.initRow]
 repeat (first | with_reducible refine wpAny_loadPart_at he ?_ | with_reducible refine wpAny_loadPart_at hC ?_ | (with_reducible refine wpAny_isSubtype_exc hC ?_;rw [hcB]) | wp_step)
 refine wpAny_onRaise ?_;rw [show ∀ (a b:String) (n:Nat),Bind.check ⟨.positional,"*","ValueError",.self,[⟨"args",.varPos,false⟩]⟩ a b n (List.map (fun x=>x.fst) ({ pos:=Value.ref e::rest }:Args).kw)=pure () from
  fun a b n=>check_star_args _ _ _ _ _ _]
 refine wpAny_pure ?_
 wp_walk
 refine hq _ (fun b o hb hbo=>?_) ?_
 ·refine ac (Heap.get?_update_other _ _ hb.symm ..) ?_;exact Heap.get?_push_of_some _ hbo
 ·refine ac (Heap.get?_update_self _ (Heap.get?_push_of_some _ he) rfl ..) ?_;rfl
theorem ve_getattr{s:Shared}{expr:Bool}{Q:Value->Shared->Prop}(X:(KF w).In s.heap)(hq:∀ tk,Q (.builtin "ValueError.__init__") { s with toks:=tk }):wpAny (model prog w) A (getAttr (.type "ValueError") "__init__" expr) Q E s:=by
 have hstub:opaqueClassAbove (.type "ValueError")=pure none:=by kernel_rfl
 have L0:Looks (model prog w) s.heap (typeOf (.type "ValueError")) (.type "type"):=Looks.of_pure (by kernel_rfl)
 have LO:Looks (model prog w) s.heap (opaqueClassAbove (.type "ValueError")) none:=Looks.of_pure hstub
 have hg:=vX w
 have e:=uc w
 refine cls_open X LO L0 hg (looks_hook X (r:=none) (if_neg (by decide))) (vY w) e ?_;refine wpAny_pure ?_;exact handed_on rfl (hq _)
theorem kq{s:Shared}{Q:(Value×List Value)->Shared->Prop}{pl:Sem Bool}(X:(KF w).In s.heap)(hq:∀ tk,Q (.builtin "ValueError.__init__",[]) { s with toks:=tk }) :
  wpAny (model prog w) A (getMethod (.type "ValueError") "__init__" pl) Q E s:=by
 have f1:typeLookup (.type "type") "__getattribute__"=pure (some (.builtin "type.__getattribute__")):=by rw [typeLookup_type,builtinLookup_eq_fast];kernel_rfl
 have f2:typeOf (.type "ValueError")=pure (.type "type"):=by kernel_rfl
 refine ac (f2 ..) ?_;refine wpAny_bind (wpAny_bind (wpAny_pure ?_));refine ac (f1 ..) ?_;refine wpAny_pure ?_;dsimp only;refine ac (if_pos (by decide +kernel) ..) ?_;exact wpAny_bind (ve_getattr X fun tk=>wpAny_pure (hq tk))
theorem lS{s:Shared}{e t0:Addr}{v:Value}{Q:Unit->Shared->Prop}(K:(KF w).In s.heap)(hc:∃ n,excTab n=some C)(X:gC s.heap C)(he:s.heap.get? e=some (bU C t0 none))
  (hq:∀ h' tk dx,(∀ b o,b≠e->s.heap.get? b=some o->h'.get? b=some o)->h'.get? e=some (bU C t0 (some dx))->Q () { s with heap:=h',toks:=tk }) :
  wpAny (model prog w) A (setAttr (.ref e) "reason" v) Q E s:=by
 have facts:findIn (KF w) (.ref C) "__setattr__"=some (some (.builtin "object.__setattr__"))/\takerIn (KF w) C "reason"=some none/\findIn (KF w) (.ref C) "reason"=some none:=by
  refine aj hc fun n hn=>?_;clear hc;have h:=dS (dS (List.all_eq_true.mp (jR w) _ (dv hn))).1;exact(ao (beq_iff_eq.mp h.1) (beq_iff_eq.mp h.2.1) (beq_iff_eq.mp h.2.2))
 refine aM facts fun f1 f2 f3=>?_;clear facts;refine aN X fun nm q N bs sn sub ab col dd k0 k1 k2 k3 k5 hC=>?_;clear X;have SF:=PySem.F.store_object;have SV:=PySem.F.store_ValueError;have I:InstAt s.heap e (bU C t0 none) C none:=⟨he,rfl,rfl,trivial⟩;refine set_plain K I f1 ?_;obtain ⟨h,g,d,t,os⟩:=s;dsimp only at K he hC hq I ⊢;have hm:Looks (model prog w) h (mroOf (.ref C)) (.ref C::mh):=((Looks.ld (part:=none) hC).andThen .now).andThen .now;have sub:Looks (model prog w) h (isInstance (.ref e) (.type "object")) true:=I.type.andThen (xG hC "object" (.inr (.inr rfl)));refine codeAny_call_builtin SF.slot.plain SF.entry (@check_slot (model prog w) _ _ ⟨h,g,d,t+1,os⟩ "object.__setattr__" "object" "__setattr__" (.ref e) [.str "reason" t,v] [] _ SF.kind SF.split sub (SF.args (.ref e) (.str "reason" t) v) ?_);refine ac (osa_eq ..) (ac (refuse_eq ..) ?_);refine wpAny_bind (wpAny_bind (I.type.here (s:=⟨h,g,d,t+1,os⟩) (wpAny_bind (hm.here ?_))));refine ac (refuseLoop_ref ..) (ac (show mh=.ref 39::[.type "ValueError",.type "Exception",.type "BaseException",.type "object"] from rfl ..) (ac (refuseLoop_ref ..) (ac (SV.passes ..) ?_)));refine wpAny_pure (wpAny_bind (I.type.here (wpAny_bind ((looks_findIn K f3).here (wpAny_bind (wpAny_pure ?_))))));refine wpAny_bind (wpAny_pure (wpAny_bind (wpAny_bind (wpAny_loadPart he (wpAny_bind (wpAny_bind (wpAny_loadPart hC (wpAny_pure ?_))))))));dsimp only;refine ac (if_neg (by decide) ..) ?_;have he₁:(h.push { cls:=.type "dict",data:=.dict #[] }).get? e=some (bU C t0 none):=Heap.get?_push_of_some _ he;have hes:e≠h.objs.size:=Nat.ne_of_lt (Heap.lt_size he);have hgd:((h.push { cls:=.type "dict",data:=.dict #[] }).update e fun o=>{ cls:=o.cls,dict:=some h.objs.size,data:=o.data,slots:=o.slots }).get? h.objs.size=some { cls:=.type "dict",data:=.dict #[] }:=
  (Heap.get?_update_ne _ _ _ _ hes.symm).trans (Heap.get?_push_at rfl rfl)
 have hnd:((h.push { cls:=.type "dict",data:=.dict #[] }).update e fun o=>{ cls:=o.cls,dict:=some h.objs.size,data:=o.data,slots:=o.slots }).Ns h.objs.size (fun U=>none):=
  ⟨_,#[],_,hgd,rfl,fun e he=>absurd he (by simp),fun U=>rfl⟩
 refine wpAny_bind (wpAny_alloc ?_);refine wpAny_bind (wpAny_update he₁ ?_);refine wpAny_pure (a:=some h.objs.size) ?_;refine wpAny_bind (wpAny_pure (wpAny_bind (wpAny_nsSet1 (Heap.Ns1.of_empty hnd) fun h' hn' hs'=>?_)));refine ar (hn'.count (Within.cons "reason" v Within.nil)) fun oD esD epD hoD hdD hcD=>?_;refine wpAny_bind (wpAny_lookBehind hoD (ac (hdD ..) (pastItsLine_dict (Nat.le_trans hcD (by refine ac (List.length_cons ..) (ac (List.length_nil ..) (ac (sizeLine_eq ..) ?_));lia)))) ?_);refine wpAny_pure ?_;refine hq _ _ h.objs.size (fun b o hb hbo=>?_) ?_
 ·exact(hs'.2 b (Nat.ne_of_lt (Heap.lt_size hbo))).trans ((Heap.get?_update_ne _ _ _ _ hb).trans (Heap.get?_push_of_some _ hbo))
 ·exact(hs'.2 e hes).trans (Heap.get?_update_self _ he₁ rfl)
end
end Mine.Lake
end
section
open PySem PySem.W PySem.Calls PyProof.Rows PySem.SeqAt PySem.MeetsSeq Builtin Builtin.ObjectAttr
open PySem.Sem (wp)
namespace Mine.Lake
variable {c:Cx}{Z Z':List Addr}{O O':St}{s s':Shared}{h':Heap}{α β γ δ:Type}
section
variable {A:Around}{E:Value->Shared->Prop}
theorem m_{pos:Pos}{f y1 y2:Value}{e1 e2:Expr}{env:Env}{Q:Value->Shared->Prop}(hst:starEach [e1,e2] env=[(false,eval e1 env),(false,eval e2 env)])
  (h1:∀ E Q,Q y1 s->wpAny (model prog w) A (eval e1 env) Q E s)(h2:∀ E Q,Q y2 s->wpAny (model prog w) A (eval e2 env) Q E s)
  (hk:∀ E Q,Q Keeper.machine s->wpAny (model prog w) A (keeperOf f) Q E s)
  (h:wpAny (model prog w) A (call f [y1,y2]) Q E s):wpAny (model prog w) A (callWith pos f [] (backTo pos (starEach [e1,e2] env)) []) Q E s:=by
 have key:evalArgs f true (backTo pos (starEach [e1,e2] env)) []=(do let vs <- spliced [(false,eval e1 env),(false,eval e2 env)];PySem.holding (vs++[]) (do let kw <- evalAll [];let p <- pure vs;return ⟨p,[].zip kw⟩)):=by
  rw [hst];rfl
 have hpl:(backTo pos (starEach [e1,e2] env)).any (·.1)=false:=by rw [hst];rfl
 unfold callWith;refine ac (key ..) ?_;refine wpAny_bind (wpAny_holding (wpAny_bind ?_));refine wpAny_bind (h1 _ _ (wpAny_bind (wpAny_pure (wpAny_bind (wpAny_holding (wpAny_bind (h2 _ _ (wpAny_bind (wpAny_pure (wpAny_bind (wpAny_holding (wpAny_pure (wpAny_pure (wpAny_pure ?_))))))))))))));refine wpAny_holding (wpAny_bind (wpAny_pure (wpAny_bind (wpAny_pure (wpAny_pure ?_)))));refine wpAny_bind (wpAny_standAt ?_);refine ac (hpl ..) ?_;refine wpAny_bind (hk _ _ ?_);refine wpAny_bind (wpAny_mono h (fun r s' h'=>?_) fun U U x=>x);exact wpAny_bind (wpAny_holding (wpAny_point (wpAny_pure h')))
theorem kA{env:Env}{x:Str}{p:Pos}{y:Value}{m:Str->Option Value}{Q:Value->Shared->Prop}(hk:env.scope.kind=.function)(hl:env.kindOf x=some .local)(hn:s.heap.Ns env.locals m)(hm:m x=some y)(hd:(x==("__debug__":Str))=false)
  (hq:Q y s):wpAny (model prog w) A (eval (.Name x p) env) Q E s:=wpAny_Name (wpAny_loadName_local hk hl hn hm hq) hd
noncomputable abbrev v9:Scope:={ kind:=.function,names:=[("self",.local),("reason",.local),("ValueError",.globalImplicit)],isGenerator:=false,isCoroutine:=false }
theorem v_{env:Env}{e t0:Addr}{C:Addr}{x:Value}{m:Str->Option Value}{p1 p2 p3 p4 p5 p6 p7 p8 p9 p10:Pos}{Q:PySem.Flow->Shared->Prop}(B:Bse w h₀)(hb:h₀.StaysIn s.heap)(hsc:env.scope=v9)(hgl:env.globals=mainGlobals)(hbl:env.builtins=builtinsNs)
  (hn:s.heap.Ns env.locals m)(hms:m "self"=some (.ref e))(hmr:m "reason"=some x)(hc:∃ n,excTab n=some C)(he:s.heap.get? e=some (bU C t0 none))(hel:env.locals≠e)(hfe:h₀.get? e=none)(hp:(p2.endLine==p5.line)=true)
  (hq:∀ h' tk t1 dx,(∀ b o,b≠e->s.heap.get? b=some o->h'.get? b=some o)->h'.get? e=some (bU C t1 (some dx))->Q .next { s with heap:=h',toks:=tk }) :
  wpAny (model prog w) A (execs [.Expr (.Call (.Attribute (.Name "ValueError" p1) "__init__" p2) [.Name "self" p3,.Name "reason" p4] [] p5) p6,.Assign [.Attribute (.Name "self" p7) "reason" p8] (.Name "reason" p9) p10] env) Q E s:=by
 have hk:env.scope.kind=.function:=by rw [hsc]
 have k1:env.kindOf "self"=some .local:=by show env.scope.names.lookup _=_;rw [hsc];rfl
 have k2:env.kindOf "reason"=some .local:=by show env.scope.names.lookup _=_;rw [hsc];rfl
 have k3:env.kindOf "ValueError"=some .globalImplicit:=by show env.scope.names.lookup _=_;rw [hsc];rfl
 refine bM B.top fun mg mb g bb hbb U=>?_;refine aj (id hc) fun cn hcn=>?_;have XC:=(pw B hcn).keeps hb;refine ac (arm_execs_cons ..) ?_;refine wpAny_bind ?_;refine ac (arm_exec_Expr ..) ?_;refine wpAny_bind (wpAny_standAt ?_);have hi:interactive env=false:=by unfold interactive;rw [hk];rfl
 refine ac (hi ..) (ac (if_neg (by decide) ..) ?_);refine wpAny_bind (wpAny_pure ?_);refine ac (if_neg (by decide) ..) ?_;refine wpAny_bind ?_;refine ac (arm_eval_Call ..) ?_;refine wpAny_bind (Name_function_global hk k3 (loadGlobal_builtin (ac (hgl ..) (g.keeps hb)) (mg_none_of B.K g (beq_iff_eq.mp (Bool.and_eq_true_iff.mp (jD w)).2)) (ac (hbl ..) (bb.keeps hb)) ((hbb _ (by decide +kernel)).trans (by kernel_rfl:bootBuiltins "ValueError"=some (.type "ValueError"))) ?_) (by decide +kernel));refine wpAny_bind (wpAny_standAt ?_);have hfew:methodCallForm ([Expr.Name "self" p3,Expr.Name "reason" p4].length+([]:List Keyword).length) (backTo p5 (starEach [.Name "self" p3,.Name "reason" p4] env)) (backToKw p5 (keywordEach [] env))=true:=rfl;refine ac (hfew ..) ?_;refine wpAny_bind (wpAny_holding (kq (B.K.keeps hb) fun tk=>?_));have hpos:methodCallPos true (.Name "ValueError" p1) env p2 p5=pure p5:=by unfold methodCallPos;rw [hp];rfl
 dsimp only;refine ac (hpos ..) ?_;refine wpAny_bind (wpAny_pure ?_);refine m_ (y1:=.ref e) (y2:=x) rfl (fun U U q=>kA hk k1 hn hms (by decide +kernel) q) (fun U U q=>kA hk k2 hn hmr (by decide +kernel) q) (fun U U q=>wpAny_pure q) ?_;refine wpAny_call (we (g:=s.gens) (d:=s.drawn) (t:=tk) (os:=s.os) (h:=s.heap) XC he (by show 1<=_;rw [sizeLine_eq];lia) fun h1 hk1 he1=>?_);refine wpAny_dropValue ?_;have hn1:h1.Ns env.locals m:=by
  refine aU hn fun o es ep a1 a2=>?_;clear hn;exact⟨o,es,ep,hk1 _ _ hel a1,a2⟩
 have hb1:h₀.StaysIn h1:=fun b o q=>hk1 b o (fun z=>by rw [z,hfe] at q;cases q) (hb b o q)
 have K1:(KF w).In h1:=B.K.keeps hb1
 have XC1:gC h1 C:=(pw B hcn).keeps hb1
 refine ac (arm_execs_cons ..) ?_;refine wpAny_bind ?_;refine ac (arm_exec_Assign ..) ?_;refine wpAny_bind (wpAny_standAt (wpAny_bind (wpAny_pure ?_)));refine ac (if_neg (by decide) ..) ?_;refine wpAny_bind (kA hk k2 hn1 hmr (by decide +kernel) ?_);refine wpAny_bind (wpAny_pure ?_);unfold assignStores;refine ac (show assignAll x [assign (.Attribute (.Name "self" p7) "reason" p8) env]=assign (.Attribute (.Name "self" p7) "reason" p8) env x from rfl ..) ?_;refine ac (arm_assign_Attribute ..) ?_;refine wpAny_bind (wpAny_bind (wpAny_holding (kA hk k1 hn1 hms (by decide +kernel) ?_)));refine wpAny_bind (wpAny_standAt (wpAny_bind (wpAny_holding ?_)));refine lS K1 hc XC1 he1 fun h2 tk2 dx hk2 he2=>?_;refine wpAny_release (wpAny_pure ?_);refine ac (arm_execs_nil ..) ?_;exact wpAny_pure (hq h2 tk2 _ dx (fun b o hb hbo=>hk2 b o hb (hk1 b o hb hbo)) he2)
end
section
variable {A:Around}{E:Value->Shared->Prop}
theorem yJ{e:Addr}{C:Addr}{x:Value}{R:Result->Shared->Prop}(B:Bse w h₀)(hb:h₀.StaysIn s.heap)(hroom:A.depth<recursionLimit)(hc:∃ n,excTab n=some C){t0:Addr}(he:s.heap.get? e=some (bU C t0 none))(hfe:h₀.get? e=none)
  (hq:∀ h' tk t1 dx,(∀ b o,b≠e->s.heap.get? b=some o->h'.get? b=some o)->h'.get? e=some (bU C t1 (some dx))->R (.ok (.ret .none)) { s with heap:=h',toks:=tk }) :
  codeAny (model prog w) A (.call (.ref 36) ⟨[.ref e,x],[]⟩) R s:=by
 have ho:s.heap.get? 36=some o36:=hb _ _ (B.K _ _ (gc w (p:=(36,o36)) (.tail _ (.head _))))
 have h29:s.heap.get? 29=some o29:=hb _ _ (B.K _ _ (gc w (p:=(29,o29)) (.tail _ (.tail _ (.head _)))))
 have hrec:h₀.CodeRec sZ.code sZ.qualname:=codeRec_of B.K (Bool.and_eq_true_iff.mp (wS w)).2
 refine codeAny_call_def (binds:=[("self",.ref e),("reason",x)]) hroom ho (fd:=sZ) rfl (B.nolimit.keeps hb) (hrec.keeps hb) rfl (BindsTo.of_defaults (T:=29) rfl h29 rfl rfl rfl) ?_ ?_ (fun h1 hn hk=>?_)
 ·intro y hy;rcases hy with _ | ⟨_,_ | ⟨_,_ | ⟨_,hy⟩⟩⟩ <;> first | (exact NameKind.noConfusion) | cases hy
 ·intro y hy
  simp only [List.mem_cons,List.not_mem_nil,or_false] at hy;rcases hy with rfl | rfl <;> rfl
 ·have hsz:s.heap.objs.size≠e:=fun q=>by have:=Heap.lt_size he;rw [<- q] at this;exact Nat.lt_irrefl _ this
  refine v_ (s:={ s with heap:=h1,toks:=s.toks+2 }) (C:=C) (x:=x) B (fun b o q=>hk b o (hb b o q)) rfl rfl rfl hn rfl rfl hc (hk _ _ he) hsz hfe rfl fun h2 tk t1 dx hk2 he2=>?_;exact hq h2 tk t1 dx (fun b o hb hbo=>hk2 b o hb (hk b o hbo)) he2
theorem wa{C:Addr}{x:Value}{Q:Value->Shared->Prop}(B:Bse w h₀)(hb:h₀.StaysIn s.heap)(hroom:A.depth+1<recursionLimit){cn:Nm}(hc:excTab cn=some C)
  (hq:∀ h' tk e t1 dx,(∀ b o,s.heap.get? b=some o->h'.get? b=some o)->s.heap.get? e=none->h'.get? e=some (bU C t1 (some dx))->Q (.ref e) { s with heap:=h',toks:=tk }) :
  wpD (model prog w) A (call (.ref C) [x]) Q E s:=by
 have facts:specialIn (KF w) (.ref C) "__call__"=some (some (.builtin "type.__call__"))/\instIn (KF w) (.ref C) (.type "type")=some true/\findIn (KF w) (.ref C) "__init__"=some (some (.ref 36))/\typeIn (KF w) (.ref 36)=some (.type "function"):=by
  have h:=dS (dS (List.all_eq_true.mp (jR w) _ (dv hc))).2.1
  exact⟨beq_iff_eq.mp h.1,beq_iff_eq.mp h.2.1,beq_iff_eq.mp h.2.2,beq_iff_eq.mp (Bool.and_eq_true_iff.mp (wS w)).1⟩
 refine bK facts fun f1 f2 f3 f4=>?_;clear facts;have K:(KF w).In s.heap:=B.K.keeps hb;have XC:=(pw B hc).keeps hb;have XC':=XC;refine aN XC fun nm q N bs sn sub ab col dd k0 k1 k2 k3 k5 hC=>?_;clear XC;have hfC:h₀.get? s.heap.objs.size=none:=by
  induction q:h₀.get? s.heap.objs.size with
  | none=>rfl
  | some o=>have:=hb _ _ q;rw [get?_size] at this;cases this
 have hf1:h₀.get? (s.heap.objs.size+1)=none:=by
  induction q:h₀.get? (s.heap.objs.size+1) with
  | none=>rfl
  | some o=>exact absurd (Heap.lt_size (hb _ _ q)) (Nat.not_lt.mpr (Nat.le_succ _))
 have hm:Looks (model prog w) s.heap (mroOf (.ref C)) (.ref C::mh):=((Looks.ld (part:=none) hC).andThen .now).andThen .now
 have made:Looks (model prog w) s.heap (Bind.madeBy (.ref C)) (some "ValueError.__new__"):=by
  intro A Q E s k q
  exact wpAny_madeBy_exc (k _ _ hC) q
 have k:∀ b o,s.heap.get? b=some o->((s.heap.push { cls:=.type "tuple",data:=.seq [x].toArray }).push (bU C s.heap.objs.size none)).get? b=some o:=fun b o e=>Heap.get?_push_of_some _ (Heap.get?_push_of_some _ e)
 have hxo:((s.heap.push { cls:=.type "tuple",data:=.seq [x].toArray }).push (bU C s.heap.objs.size none)).get? (s.heap.objs.size+1)=some (bU C s.heap.objs.size none):=Heap.get?_push_at (Heap.size_push ..).symm rfl
 have hself:Looks (model prog w) s.heap (isSubtype (.ref C) (.ref C)) true:=by
  intro A Q E s k q
  refine wpAny_isSubtype_exc (k _ _ hC) ?_;exact ac (List.contains_cons ..) (ac (beq_self_eq_true ..) (ac (Bool.true_or ..) q))
 have t1:Looks (model prog w) ((s.heap.push { cls:=.type "tuple",data:=.seq [x].toArray }).push (bU C s.heap.objs.size none)) (typeOf (.ref (s.heap.objs.size+1))) (.ref C):=(Looks.ld hxo).andThen .now
 refine db (iA hC (looks_specialIn K f1) (looks_instIn K f2) ?_);refine ac (y6 ..) ?_;refine og (s1:={ s with heap:=(s.heap.push { cls:=.type "tuple",data:=.seq [x].toArray }).push (bU C s.heap.objs.size none) }) (x:=s.heap.objs.size+1) (newId:="ValueError.__new__") (init:=.ref 36)
  hm (show (ClassData.mro { name:=nm,bases:=bs,mro:=.ref C::mh,ns:=N,qualname:=q,hasDict:=true,slotNames:=sn,subclasses:=sub,abstract:=ab,collection:=col,hasDel:=false }).isEmpty=false from rfl) made (fun Q' hQ=>xF XC' (by show 1<=_;rw [sizeLine_eq];lia) hQ) (t1.andThen (hself.keeps k)) (t1.andThen ((looks_findIn K f3).keeps k)) ((bind_fn K _ f4).keeps k) ?_
 refine qj (yJ (e:=s.heap.objs.size+1) B (fun b o q=>k b o (hb b o q)) hroom ⟨cn,hc⟩ hxo hf1 fun h' tk t1 dx hk he=>?_);refine⟨rfl,?_⟩;refine hq h' tk _ t1 dx (fun b o q=>hk b o (fun z=>absurd (Heap.lt_size q) (ac (z ..) (Nat.not_lt.mpr (Nat.le_succ _)))) (k b o q)) (Heap.get?_none_of_le (Nat.le_succ _)) he
end
section
variable {A:Around}{E:Value->Shared->Prop}
theorem lQ{M:Model}{env:Env}{x:Sem Value}{Q:PySem.Flow->Shared->Prop}(hh:A.handled=none)
  (h:wpD M A x (fun v s₁=>∃ e C t d,v=.ref e/\gC s₁.heap C/\s₁.heap.get? e=some (bU C t d)/\E (.ref e) s₁) E s):wpD M A (raiseStmt env (some x) none) Q E s:=by
 refine ae (am h (fun v s₁ h₁=>?_) fun U U x=>x);refine bZ h₁ fun e C t d z4 z5 he hE=>?_;clear h₁;subst z4;refine aN z5 fun nm q N bs sn sub ab col dd k0 k1 k2 k3 k5 hC=>?_;clear z5;have hcB:=lP C "BaseException" (.inr (.inl rfl));obtain ⟨hp,g,dr,tk,os⟩:=s₁;refine al ?_
 repeat (first | with_reducible refine wpAny_loadPart_at he ?_ | with_reducible refine wpAny_loadPart_at hC ?_ | (with_reducible refine wpAny_isSubtype_exc hC ?_;rw [hcB]) | wp_step)
 exact wpAny_raiseNew_none hh hE
theorem lb(w:World){cn:Nm}{C:Nat}(h:excTab cn=some C):nsIn (KF w) mainGlobals cn.str=some (some (.ref C)):=by
 exact beq_iff_eq.mp (dS (List.all_eq_true.mp (jR w) _ (dv h))).2.2
end
theorem tS{kk n:Nat}{k:Kd}{a:AEnv}{env:Env}{t:Str}{kz:Nat}{np p0 cpos pos:Pos}{cn:Nm}(B:Bse w h₀)(Ro:Room c kk n)(hk:k cn.str=some .globalImplicit)(R:Rep c Z O s)(V:EnvR k a env c Z) :
  Sd c Z FR (match excTab cn with | some C=>.exc C O | .none=>.bad) (exec (.Raise (some (.Call (.Name cn.str np) [.Constant (.str t) kz p0] [] cpos)) none pos) env) s:=by
 induction hc:excTab cn with
 | none=>exact Sd.bad
 | some C=>
 refine ac (arm_exec_Raise ..) ?_;refine Sd.stand fun U=>?_;refine lQ Ro.handled ?_;have hl:env.kindOf cn.str=some .globalImplicit:=by
  rcases V.kd _ _ hk with q | ⟨q,_⟩
  ·exact q
  ·cases q
 refine bM B.top fun mg mb g b bb U=>?_;refine ae ?_;show wpD _ _ (eval (.Name cn.str np) env>>=fun f=>callWith cpos f [] (backTo cpos (starEach [.Constant (.str t) kz p0] env)) []) _ _ _;refine ae (al (Name_function_global V.kind hl (loadGlobal_global (ac (V.glob.1 ..) (g.keeps R.base)) (mg_of B.K g (lb w hc)) ?_) (da cn)));have key:evalArgs (.ref C) true (backTo cpos (starEach [.Constant (.str t) kz p0] env)) []=(do let vs <- spliced [(false,eval (.Constant (.str t) kz p0) env)];PySem.holding (vs++[]) (do let kw <- evalAll [];let p <- pure vs;return ⟨p,[].zip kw⟩)):=rfl;have hpl:(backTo cpos (starEach [.Constant (.str t) kz p0] env)).any (·.1)=false:=rfl;unfold callWith;refine ac (key ..) ?_;refine ae (au (ae ?_));refine ae (al (wpAny_mkText ?_));refine ae (ah (ae (au (ah (ah ?_)))));refine au (ae (ah (ae (ah (ah ?_)))));refine ae (bq ?_);refine ac (hpl ..) ?_;have XC:=(pw B hc).keeps R.base;have XC':=XC;refine aN XC fun nm q N bs sn sub ab col dd k0 k1 k2 k3 k5 hC=>?_;clear XC;refine ae (al (wpAny_keeperOf_exc hC ?_));refine ae ?_;refine wa (s:={ s with toks:=s.toks+1 }) B R.base (by have:=Ro.depth;show c.A.depth+1<1000;lia) hc fun h' tk e t1 dx hk hn he=>?_;refine ae (au (dw (ah ?_)));refine ae (bq (ah ?_));refine⟨e,C,t1,some dx,rfl,XC'.keeps hk,he,Z,e,List.prefix_refl _,rfl,?_,?_⟩
 ·have fr:=R.fresh hn
  exact⟨⟨⟨fr.1.1,fun p=>fr.1.2 (bQ R.tabs (fun b o U q=>hk b o q) p)⟩,fr.2⟩,_,_,_,he,rfl,rfl,rfl,.inl rfl⟩
 ·exact R.keeps hk
section
variable {A:Around}{E:Value->Shared->Prop}
theorem iK{e:Value}{env env':Env}(h:env.frame=env'.frame):noteFrame e env=noteFrame e env':=by
 unfold noteFrame PySem.frameOf;exact ac (h ..) rfl
theorem ll{e:Value}{env env':Env}(h:env.frame=env'.frame):leaving env e=leaving env' e:=by
 unfold leaving;exact ac (iK h ..) rfl
theorem pt{h:Heap}{g:Array GenState}{d:Drawn}{t:Nat}{os:OsState}{M:Model}{C C' ea:Addr}{oe:Obj}{Q:Bool->Shared->Prop}(X:gC h C)(X':gC h C')(hC':C'≠39)(he:h.get? ea=some oe)(hcls:oe.cls=.ref C)
  (hq:Q (decide (C'=C)) ⟨h,g,d,t,os⟩):wpAny M A (excMatches (.ref ea) (.ref C')) Q E ⟨h,g,d,t,os⟩:=by
 refine aN X fun nm q N bs sn sub ab col dd k0 k1 k2 k3 k5 hC=>?_;clear X;refine aN X' fun nm' q' N' bs' sn' sub' ab' col' dd' k0' k1' k2' k3' k5' hC2=>?_;clear X';have hcB:=lP C' "BaseException" (.inr (.inl rfl));have hcC:(Value.ref C::mh).contains (.ref C')=decide (C'=C):=by
  have:∀ a b:Addr,(Value.ref a==Value.ref b)=decide (a=b):=fun a b=>by
   by_cases q:a=b
   ·subst q;simp
   ·exact ac (decide_eq_false q ..) (beq_eq_false_iff_ne.mpr fun z=>q (Value.ref.inj z))
  refine ac (List.contains_cons ..) (ac (this ..) ?_);have h2:(mh.contains (.ref C'))=false:=by
   rw [mh,List.contains_cons,this,decide_eq_false hC',Bool.false_or];rfl
  exact ac (h2 ..) (ac (Bool.or_false ..) rfl)
 have f:=tc_notTuple
 unfold excMatches
 repeat (first | with_reducible refine wpAny_loadPart_at he ?_ | with_reducible refine wpAny_loadPart_at hC2 ?_ | (with_reducible refine wpAny_isSubtype_exc hC2 ?_;rw [hcB]) | wp_step)
 refine ac (hcls ..) ?_;refine wpAny_isSubtype_exc hC ?_;refine ac (hcC ..) ?_
 cases hb:decide (C'=C) <;> (rw [hb] at hq;wp_walk;exact hq)
theorem lR{ea C:Addr}{Q:Unit->Shared->Prop}{M:Model}(R:Rep c Z O s)(F:FlyAt h₀ c Z s.heap ea C)(h:∀ h',Rep c Z O { s with heap:=h' }->Q () { s with heap:=h' }) :
  wpAny M A (setFlight (.ref ea) none) Q E s:=by
 obtain ⟨⟨f1,f2⟩,oe,vs,a0,he,hc,hd,h0,ht⟩:=F
 rcases ht with ht | ⟨T,oT,ts,x1,x2,x3,x4,x5,x6,x7⟩
 ·unfold setFlight;refine wpAny_bind (wpAny_field he hd ht ?_);refine ac (if_neg (by decide) ..) ?_;exact wpAny_pure (h s.heap R)
 ·have hsz:3<ts.size:=by
   rcases Nat.lt_or_ge 3 ts.size with q | q
   ·exact q
   ·rw [Array.getElem?_eq_none_iff.mpr q] at x5;cases x5
  refine wpAny_setFlight_none he hd x1 x3 x4 hsz (h _ ?_);refine R.slots (X:=[T]) (t':=s.toks) (fun b hb=>?_) (fun b o hb hX e=>?_) (fun b o e hn=>?_)
  ·simp at hb;subst hb;exact⟨x6,x7⟩
  ·simp at hX
   rw [Heap.get?_update_other _ _ (Ne.symm hX)];exact e
  ·by_cases q:b=T
   ·subst q;rw [x3] at e;cases e;exact absurd x4 (hn ts)
   ·exact⟨o.slots,by rw [Heap.get?_update_other _ _ (Ne.symm q)];exact e⟩
theorem qu{n:Nm}(h:u5 n=true):∃ C,excTab n=some C/\C≠39:=by
 refine aj (Option.isSome_iff_exists.mp h) fun C e=>?_;exact⟨C,e,exc3 (P:=(·≠39)) e (by decide) (by decide) (by decide)⟩
theorem m6{A:Around}{E:Value->Shared->Prop}{l:List AV}{xs:List Value}(R:Rep c Z O s)(h:RL (VR Z) l xs)(hk:bg l=true):wpAny (model prog w) A (newTuple xs) (fun y s'=>∃ Z',Z<+:Z'/\VR Z' (.obj O.n) y/\Rep c Z' (O.push (.tu l)) s') E s:=by
 refine wpAny_newObj_type ?_ (cY h hk);refine⟨_,List.prefix_append _ [s.heap.objs.size],ag s.heap.objs.size ?_ rfl,R.push rfl ⟨xs,0,rfl,h.mono fun U U z=>z.mono (List.prefix_append ..)⟩⟩;rw [List.getElem?_append_right (ac (R.len ..) (Nat.le_refl _)),R.len,Nat.sub_self];rfl
theorem rj{k:Kd}{a:AEnv}{env:Env}{ea C:Addr}(B:Bse w h₀)(R:Rep c Z O s)(V:EnvR k a env c Z)(F:FlyAt h₀ c Z s.heap ea C)(X:gC h₀ C):    ∀ {hs:List ExceptHandler} {rhs:List (Nm×Nm)} {hd:Nm×Nm},allS (fX k) hs=some rhs->rhs.find? (fun h=>decide (excTab h.1=some C))=some hd->
   wpAny (model prog w) c.A (handleBy (.ref ea) env hs) (okP c Z FR ((O.new (.tu [.str hd.2,.none])).bind fun v s=>.ok (.ret v) s)) E s:=by
 intro l_
 induction l_ with
 | nil=>
  intro c1_ c2_ h1 h2
  cases h1;cases h2
 | cons hx hs ih_=>
  intro rhs hd h1 h2
  refine ai (aJ h1) fun p r' e1 e2 z4=>?_;subst z4;induction pr e1 with
  | @mk _ _ cn' x' np kx px kn pn _ _ _ _ hk hcn hx hex=>
   refine af (qu hex) fun C' hC' hne=>?_;rw [List.find?_cons] at h2;obtain rfl:=aB hcn;obtain rfl:=aB hx;have hl:env.kindOf cn'.str=some .globalImplicit:=by
    rcases V.kd _ _ hk with q | ⟨q,_⟩
    ·exact q
    ·cases q
   refine bM B.top fun mg mb g b bb U=>?_;obtain ⟨⟨f1,f2⟩,oe,vs,a0,he,hc,hd',h0,ht⟩:=id F;refine wpAny_handleBy_cons (codeAny_handlers_test (Name_function_global V.kind hl (loadGlobal_global (ac (V.glob.1 ..) (g.keeps R.base)) (mg_of B.K g (lb w hC')) ?_) (da cn'))) (by intro q;cases q);refine pt (h:=s.heap) (g:=s.gens) (d:=s.drawn) (t:=s.toks) (os:=s.os) (X.keeps R.base) ((pw B hC').keeps R.base) hne he hc ?_;by_cases q:C'=C
   ·subst q;have:decide (excTab cn'=some C')=true:=by rw [hC'];simp
    rw [this] at h2
    cases h2
    refine ac (if_pos (decide_eq_true rfl) ..) ?_;refine codeAny_handlers_suite ?_;refine lR (A:=c.A.mark (some (.ref ea))) R F fun h3 R3=>?_;refine ac (arm_execs_cons ..) (ac (arm_exec_Return ..) ?_);refine wpAny_bind (wpAny_bind (wpAny_standAt (wpAny_bind ?_)));refine ac (arm_eval_Tuple ..) ?_;refine wpAny_bind (wpAny_standAt (wpAny_bind ?_));show wpAny _ _ (spliced [(false,eval (.Constant (.str x'.str) kx px) env),(false,eval (.Constant .none kn pn) env)]) _ _ _;refine wpAny_bind (wpAny_mkText (wpAny_bind (wpAny_pure (wpAny_bind (wpAny_holding (wpAny_bind (wpAny_pure (wpAny_bind (wpAny_pure (wpAny_bind (wpAny_holding (wpAny_pure (wpAny_pure (wpAny_pure ?_))))))))))))));have R4:=(R3.same (c':={ c with A:=c.A.mark (some (.ref ea)) }) rfl rfl rfl rfl).toks (t':=s.toks+1);have R5:Rep { c with A:=c.A.mark (some (.ref ea)) } Z O { s with heap:=h3,toks:=s.toks+1 }:=R4;refine wpAny_mono (m6 (E:=fun U U=>False) (l:=[.str x',.none]) (xs:=[.str x'.str s.toks,.none]) R5 (ao ⟨_,rfl⟩ rfl trivial) rfl) (fun y s5 h5=>?_) fun U U q=>False.elim q;refine az h5 fun Z5 hp5 hy5 R6=>?_;clear h5;refine wpAny_pure (wpAny_pure ?_);exact⟨Z5,hp5,ag y rfl hy5,R6.same rfl rfl rfl rfl⟩
   ·have h3:decide (excTab cn'=some C)=false:=decide_eq_false fun z=>q (by rw [hC'] at z;exact Option.some.inj z)
    rw [h3] at h2;refine ac (if_neg (fun z=>q (of_decide_eq_true z))) ?_;exact ih_ e2 h2
set_option backward.match.sparseCases false in
theorem xt{F:Fns}{kk n m:Nat}{k:Kd}{a:AEnv}{env:Env}{bd:List Stmt}{rb:List RS}{hs:List ExceptHandler}{rhs:List (Nm×Nm)}{pos:Pos}(B:Bse w h₀)(S:IS F kk n)(Ro:Room c kk n)(hb:allS (trS m k) bd=some rb)(hh:allS (fX k) hs=some rhs)
  (R:Rep c Z O s)(V:EnvR k a env c Z) :
  Sd c Z FR (match F.S a rb O with
   | .exc C s=>(match rhs.find? (fun h=>decide (excTab h.1=some C)) with
    | some h=>(s.new (.tu [.str h.2,.none])).bind fun v s=>.ok (.ret v) s
    | .none=>.bad)
   | r=>r) (exec (.Try bd hs [] [] pos) env) s:=by
 refine ac (arm_exec_Try ..) ?_;refine Sd.stand fun hbad=>?_;have S1:=S _ _ _ _ _ _ _ _ _ _ hb R V Ro;generalize F.S a rb O=r at S1 hbad ⊢;induction r with
 | bad=>exact absurd rfl hbad
 | ok fl O2=>
  refine ae (d9 (am (S1 w_) (fun f s2 h2=>?_) fun U U q=>q.elim));induction f with
  | next=>exact ah h2
  | _=>exact ah h2
 | exc C O2=>
  dsimp only at hbad ⊢;induction hf:rhs.find? (fun h=>decide (excTab h.1=some C)) with
  | none=>rw [hf] at hbad;exact absurd rfl hbad
  | some hd=>
   dsimp only;refine ae (d9 (am (S1 xM) (fun U U q=>q.elim) fun e s2 z0_=>bM z0_ fun Z2 ea hp2 he hF R2=>?_));subst he;have hne:hs.isEmpty=false:=by
    induction hs using List.casesOn with
    | nil=>cases hh;cases hf
    | cons _ _=>rfl
   refine aI V.frame fun e0 fs hfs hfe=>?_;have hfr:∃ L,e0.frame=some L:=by
    have:=R2.ff
    rw [hfs] at this;refine aM this fun U z1 U=>?_;clear this;refine aI z1 fun L U hL U=>?_;clear z1;exact⟨L,hL⟩
   refine aj hfr fun L hL=>?_;clear hfr;refine m8 (t':=leaving e0 (.ref ea)>>=fun U=>handleBy (.ref ea) env hs) ?_ (ae (al (eX R2 hfs Ro.frames hL hF fun h3 R3 F3=>?_)))
   ·refine bo (ll hfe ..) ?_;unfold leaving;rw [bind_assoc];rw [hne];rfl
   ·refine am (al (rj (E:=fun U U=>False) B R3 (V.mono hp2) F3 (pw (c:=hd.1) B (by have:=List.find?_some hf;simpa using this)) hh hf)) (fun f s4 h4=>h4.pre hp2) fun U U q=>q.elim
end
end Mine.Lake
end
section
open PySem PySem.W PySem.Calls PyProof.Rows PySem.SeqAt PySem.MeetsSeq
open PySem.Sem (wp)
namespace Mine.Lake
variable {c:Cx}{Z Z':List Addr}{O O':St}{s s':Shared}{h':Heap}{α β γ δ:Type}
section
variable {C:b9}{F:Fns}{kk n m:Nat}{k:Kd}{a:AEnv}{env:Env}
theorem Room.less(Ro:Room c kk (n+1)):Room c kk n:=⟨Ro.frames,Ro.depth,by have:=Ro.units;lia,Ro.handled⟩
theorem sb:IE (aL C 0) kk n:=fun U U U U U U U U U U U U U U=>Sd.bad
theorem si:IT (aL C 0) kk n:=fun U U U U U U U U U U U U U U=>Sd.bad
theorem sf:IS (aL C 0) kk n:=fun U U U U U U U U U U U U U U=>Sd.bad
theorem mt{f:Expr}{args:List Expr}{pos:Pos}{env:Env}(h:mD f=false):eval (.Call f args [] pos) env=(eval f env>>=fun y=>callWith pos y [] (backTo pos (starEach args env)) []):=by
 cases f <;> first | rfl | cases h
theorem sa(B:Bse w h₀)(IC':IC C kk n)(I:IE (aL C n) kk n)(T:IT (aL C n) kk n):IE (aL C (n+1)) kk (n+1):=by
 intro m k e r a env c Z O s h R V Ro1
 have Ro:=Ro1.less
 induction m using Nat.casesOn with
 | zero=>cases h
 | succ m=>
 induction trE_inv h with
 | none=>exact gO R (.inl ⟨rfl,rfl⟩)
 | bool=>exact gO R (.inr (.inl (ag _ rfl rfl)))
 | int=>exact gO R (.inr (.inr (.inl (ag _ rfl rfl))))
 | str hx=>exact gO R (.inr (.inr (.inr ⟨_,_,rfl,hx,rfl⟩)))
 | loc hx hk=>obtain rfl:=aB hx;exact xo R V hk
 | cel hx hk=>obtain rfl:=aB hx;exact xg R V hk
 | glo hx hk=>obtain rfl:=aB hx;exact xk B R V hk
 | attr h1 h2=>exact vy B I Ro h1 h2 R V
 | slc h1 h2 h3=>exact xq I Ro h1 h2 h3 R V
 | sub h1 h2=>exact xr I Ro h1 h2 R V
 | mcall h1 h2 h3 h4 h5=>exact tQ B IC' I Ro h1 h2 h3 h4 h5 R V
 | call h0 h1 h2=>exact Sd.eq (mt h0) (vB IC' I Ro h1 h2 R V)
 | bin h1 h2=>exact xe I Ro h1 h2 R V
 | @un op e p a h1=>
  have ρ:=yE (op:=op) (pos:=p) I Ro h1 R V
  induction op <;> exact ρ
 | bop h1=>exact Sd.eq rfl (xf I Ro h1 R V)
 | cmp h1 h2 hz=>exact(jl B I Ro h1 h2 hz R V).1
 | ife h1 h2 h3=>exact(uu I T Ro h1 h2 h3 R V).1
 | list h1=>exact vJ I Ro h1 R V
 | tup h1=>exact xu I Ro h1 R V
 | dict h1 h2 hz=>
  have ρ:=vD (pos:=‹Pos›) I Ro h1 h2 hz R V
  exact ρ
 | comp h1 h2 h3 h4 h5 h6 h7=>
  show Sd _ _ _ (stepE C (aL C n) _ (.comp _ _ _ _ _ _) O) _ _;refine ac (iy ..) (ac (arm_eval_ListComp ..) ?_);refine Sd.eqr (Res.bind_ok _).symm ?_;exact re B I T Ro h2 h7 h4 h1 h3 h5 h6 R V fun v O' Z' y s' C o hp hy R' hb=>ah ⟨Z',O',v,rfl,List.prefix_refl _,hy,R'⟩
 | lam h1 h2 h3=>exact xn B h1 h2 h3 R V
theorem sk:IU (aL C 0) kk n:=fun U U U U U U U U U U U U U U U U U U U U U U U=>Sd.bad
theorem sj(B:Bse w h₀)(I:IE (aL C n) kk n)(T:IT (aL C n) kk n):IU (aL C (n+1)) kk (n+1):=by
 intro m k elt gens sc pos r a env c Z O s h R V Ro1 γ G rel use p2 hu
 have Ro:=Ro1.less
 induction m using Nat.casesOn with
 | zero=>cases h
 | succ m=>
 cases trE_inv h with
 | comp h1 h2 h3 h4 h5 h6 h7=>
  show Sd _ _ _ ((stepE C (aL C n) _ (.comp _ _ _ _ _ _) O).bind G) _ _;refine ac (iy ..) ?_;exact re B I T Ro h2 h7 h4 h1 h3 h5 h6 R V hu
theorem sg(B:Bse w h₀)(IC':IC C kk n)(I:IE (aL C n) kk n)(T:IT (aL C n) kk n):IT (aL C (n+1)) kk (n+1):=by
 intro m k e r a env c Z O s h R V Ro1
 have Ro:=Ro1.less
 have plain:∀ (hs:((aL C (n+1)).T a r O)=((aL C n).E a r O).bind fun v s=>fT v s) (he:isTrue e env (eval e env)=(do let v <- eval e env;standAt e.pos;PySem.holding [v] (truthy v))),
   Sd c Z (fun _ (b:Bool) (x:Bool)=>x=b) ((aL C (n+1)).T a r O) (isTrue e env (eval e env)) s:=by
  intro hs he
  refine ac (hs ..) (ac (he ..) ?_);refine Sd.bind (I _ _ _ _ _ _ _ _ _ _ h R V Ro) fun v O' Z' y s' ex hp hy R'=>?_;exact Sd.stand (Sd.holding (kh R' hy))
 induction m using Nat.casesOn with
 | zero=>cases h
 | succ m=>
 induction trE_inv h with
 | @un op e p a' h1=>
  induction op with
  | Not=>
   refine ac (arm_isTrue_UnaryOp ..) ?_;refine Sd.bind (T _ _ _ _ _ _ _ _ _ _ h1 R V Ro) fun b O' Z' y s' ex hp hy R'=>?_;subst hy;exact Sd.ret R' rfl
  | _=>exact plain rfl rfl
 | bop h1=>
  refine ac (arm_isTrue_BoolOp ..) ?_;exact vt T Ro h1 R V
 | cmp h1 h2 hz=>exact(jl B I Ro h1 h2 hz R V).2
 | ife h1 h2 h3=>exact(uu I T Ro h1 h2 h3 R V).2
 | _=>exact plain rfl rfl
theorem rJ(B:Bse w h₀)(I:IE (aL C n) kk n)(T:IT (aL C n) kk n)(S:IS (aL C n) kk n)(U:IU (aL C n) kk n)(Ro:Room c kk n){x:Stmt}{r:RS}(h:trS m k x=some r)(R:Rep c Z O s)(V:EnvR k a env c Z) :
  Sd c Z FR (step1 (aL C n) a r O) (exec x env) s:=by
 induction m using Nat.casesOn with
 | zero=>cases h
 | succ m=>
 induction ua h with
 | asg h1 h2 h3=>exact xd B I U Ro h1 h2 h3 R V
 | augA h1 h2 h3=>exact vz B I Ro h1 h2 h3 R V
 | augS h1 h2 h3=>exact vA B I Ro h1 h2 h3 R V
 | ret h1=>exact xp I Ro h1 R V
 | retN=>exact vL R
 | ite h1 h2 h3=>exact xm T S Ro h1 h2 h3 R V
 | «for» h1 h2 h3=>exact xj B I S Ro h1 h3 h2 R V
 | expr h0 h1=>exact vE I Ro h1 (fun z_ z_ z_ z_ q=>by subst q;cases h0) R V
 | del h1 h2=>exact xh I Ro h1 h2 R V
 | raise hk hx=>obtain rfl:=aB hx;exact tS B Ro hk R V
 | bad=>exact Sd.bad
 | tryE h1 h2=>exact xt B S Ro h1 h2 R V
theorem se(B:Bse w h₀)(I:IE (aL C n) kk n)(T:IT (aL C n) kk n)(S:IS (aL C n) kk n)(U:IU (aL C n) kk n):IS (aL C (n+1)) kk (n+1):=by
 intro m k b r a env c Z O s h R V Ro1
 have Ro:=Ro1.less
 induction b generalizing r Z O s with
 | nil=>cases h;exact Sd.ret R rfl
 | cons x b ih=>
  refine ai (aJ h) fun y r' e1 e2 z4=>?_;subst z4;refine ac (arm_execs_cons ..) ?_;refine Sd.bind (rJ B I T S U Ro e1 R V) fun fl O' Z' f s' ex hp hf R'=>?_;induction fl with
  | next=>cases hf;exact ih _ _ _ _ e2 R' (V.mono hp)
  | ret v=>refine af hf fun y z1 hy=>?_;clear hf;subst z1;exact Sd.ret R' (ag y rfl hy)
theorem qx(B:Bse w h₀)(IC':∀ n,IC C kk n):∀ n,IE (aL C n) kk n/\IT (aL C n) kk n/\IS (aL C n) kk n/\IU (aL C n) kk n:=by
 intro l_
 induction l_ with
 | zero=>
  exact⟨sb,si,sf,sk⟩
 | succ n ih_=>
  refine bK (ih_) fun I T S U=>?_;exact⟨sa B (IC' n) I T,sg B (IC' n) I T,se B I T S U,sj B I T⟩
theorem vh(B:Bse w h₀):∀ kk n,IC (lvl aG kk) kk n:=by
 intro l_
 induction l_ with
 | zero=>
  intro c1_
  exact r_
 | succ kk ih_=>
  intro c1_
  refine bK (qx B (ih_) 60) fun I T S U=>?_;exact r9 B S I
end
end Mine.Lake
end
section
open PySem PySem.W PySem.Calls PyProof.Rows PySem.SeqAt PySem.MeetsSeq
open PySem.Sem (wp)
namespace Mine.Lake
theorem Rep.start{x:Addr}{ox:Obj}{xs:List Value}{n:Nat}{l:List Int}{A:Around}(hb:h₀.StaysIn S₀.heap)(hhid:∀ P∈bn,h₀.get? P=none)(htab:∀ P∈bn,S₀.heap.get? P=some (tabObj #[]))(hx:S₀.heap.get? x=some ox)(hox:ox.cls=.type "list"/\ox.data=.seq xs.toArray n)(hx0:h₀.get? x=none)
  (hlow:x≠sysModules)(hI:IntsAre xs l):Rep ⟨[],[],S₀.heap.objs.size,A,[(0,ox)]⟩ [x] (s0 l) { S₀ with heap:=S₀.heap.push { cls:=.type "frame",data:=.dict #[] } }:=by
 have k:∀ b o,S₀.heap.get? b=some o->(S₀.heap.push { cls:=.type "frame",data:=.dict #[] }).get? b=some o:=fun b o e=>Heap.get?_push_of_some _ e
 have hL:(S₀.heap.push { cls:=.type "frame",data:=.dict #[] }).get? S₀.heap.objs.size=some { cls:=.type "frame",data:=.dict #[] }:=Heap.get?_push_size _ rfl
 have hL0:h₀.get? S₀.heap.objs.size=none:=by
  induction q:h₀.get? S₀.heap.objs.size with
  | none=>rfl
  | some o=>have:=hb _ _ q;rw [get?_size] at this;cases this
 have npt:∀ b,b∉bn->¬ Pt (S₀.heap.push { cls:=.type "frame",data:=.dict #[] }) b:=fun b hb' hp=>by
  rcases hp with hp | ⟨P,ps,pos,hP,e,q⟩
  ·exact hb' hp
  ·have:=k _ _ (htab P hP)
   rw [e] at this;have hps:ps=#[]:=by cases this;rfl
   subst hps
   cases q
 have xP:x∉bn:=fun q=>by
  have:=htab x q;rw [hx] at this;cases this;cases hox.1
 have LP:S₀.heap.objs.size∉bn:=fun q=>by
  have:=htab _ q;rw [get?_size] at this;cases this
 have hxL:S₀.heap.objs.size≠x:=fun q=>by rw [<- q,get?_size] at hx;cases hx
 exact {
  sh:=rfl
  base:=fun b o e=>k b o (hb b o e)
  len:=rfl
  hn:=fun i hi=>by
   have hi:1<=i:=hi
   show (if i=0 then _ else _)=_;rw [if_neg (by lia)]
  own:=fun i o e=>by
   have e:(if i=0 then some (AO.fl (l.map .int)) else none)=some o:=e
   by_cases q:i=0
   ·subst q;rw [if_pos rfl] at e
    cases e
    exact⟨x,_,rfl,k _ _ hx,xs,n,hox,ints_RLr hI⟩
   ·rw [if_neg q] at e;cases e
  nd:=by
   show [S₀.heap.objs.size,x].Nodup;simp [hxL]
  fre:=fun b hb'=>by
   have hb':b=S₀.heap.objs.size∨b=x:=by simpa [Cx.own] using hb'
   rcases hb' with rfl | rfl
   ·exact⟨⟨hL0,npt _ LP⟩,_,hL⟩
   ·exact⟨⟨hx0,npt _ xP⟩,_,k _ _ hx⟩
  tabs:=fun t ht=>⟨#[],k _ _ (htab _ (gQ ht)),trivial,fun pos v q=>by cases q⟩
  hid:=hhid
  low:=fun a ha=>by simp at ha;subst ha;exact hlow
  ff:=trivial
  fu:=fun b hb'=>by cases hb'
  vars:=⟨fun U=>none,⟨_,#[],_,hL,rfl,fun e he=>(nomatch (Array.not_mem_empty _ he)),fun U=>rfl⟩,fun x v e=>by cases e⟩
  kept:=fun k hk=>by cases hk
  lks:=fun p hp=>by
   simp at hp;subst hp
   exact⟨⟨.fl (l.map .int),rfl⟩,x,rfl,rfl,k _ _ hx⟩ }
where
 ints_RLr:∀ {xs:List Value} {l:List Int},IntsAre xs l->RL (VR [x]) (l.map AV.int) xs:=by
  intro xs l h
  exact nG (Z:=[x]) h
theorem o0{x:Addr}{ox:Obj}{xs:List Value}{n:Nat}{l:List Int}{σe:St}(B:Bse w h₀)(hb:h₀.StaysIn S₀.heap)(hhid:∀ P∈bn,h₀.get? P=none)(htab:∀ P∈bn,S₀.heap.get? P=some (tabObj #[]))(hx:S₀.heap.get? x=some ox)(hox:ox.cls=.type "list"/\ox.data=.seq xs.toArray n)(hx0:h₀.get? x=none)
  (hlow:x≠sysModules)(hI:IntsAre xs l)(hB:lvl aG 13 (.base 475) [.obj 0] (s0 l)=.ok (.bool true) σe) :
  wpD (model prog w) callerA (call (.ref 475) [.ref x]) (fun v s'=>v=.bool true/\s'={ S₀ with heap:=s'.heap,toks:=s'.toks }/\h₀.StaysIn s'.heap/\s'.heap.get? x=some ox/\∀ P∈bn,∃ ps,s'.heap.get? P=some (tabObj ps)) (fun z_ z_=>False) S₀:=by
 refine db ?_;obtain ⟨fd,K⟩:=qw B (show aG 475=some c475 from rfl);obtain ⟨o,ho,hod⟩:=K.there;obtain ⟨q,hq⟩:=K.code;obtain ⟨as,hpar,has⟩:=K.pars;refine af K.body fun bd hbody htr=>?_;have e0:lvl aG 13 (.base 475) [.obj 0] (s0 l)=runF (aL (lvl aG 12) 60) c475 [.obj 0] (s0 l):=rfl;rw [e0] at hB;generalize c475=fi at *;have e1:runF (aL (lvl aG 12) 60) fi [.obj 0] (s0 l)=back [] ((bindsR (aR fi.cells [] (s0 l)).1 fi.params [.obj 0] (aR fi.cells [] (s0 l)).2).bind fun z_ s=>dO ((aL (lvl aG 12) 60).S ⟨(aR fi.cells [] (s0 l)).1,fi.tab⟩ fi.body s)):=rfl;rw [e1] at hB;rcases bindsR_len (cs:=(aR fi.cells [] (s0 l)).1) (ps:=fi.params) (vs:=[.obj 0]) (O:=(aR fi.cells [] (s0 l)).2) with h | ⟨hlen,O1,eb⟩
 ·rw [h] at hB;cases hB
 rw [eb] at hB;have hroom:callerA.depth<recursionLimit:=by decide
 refine c8 hroom (hb _ _ ho) hod K.co K.gen (hq.keeps hb) ?_;rw [c7 (xs:=[.ref x]) hpar K.dfl has K.pl hlen];refine ah ?_;rw [K.clo,K.glob.1,K.glob.2];generalize hσ:(aR fi.cells [] (s0 l)).2=O2 at *;generalize hcs:(aR fi.cells [] (s0 l)).1=cs at *;have hkinds:∀ p∈fi.params,(fd.scope.names.lookup p.str=some .local/\lk cs p=none)∨(fd.scope.names.lookup p.str=some .cell/\(lk cs p).isSome=true):=fun p hp=>by
  have:=iV (xs:=fi.cells) (cs:=[]) (O:=s0 l) p
  rw [hcs] at this;rcases K.kinds p hp with ⟨a,b⟩ | ⟨a,b⟩
  ·refine .inl ⟨a,?_⟩;rw [decide_eq_false b] at this;induction q:lk cs p with
   | none=>rfl
   | some v=>rw [q] at this;exact gw this.symm
  ·refine .inr ⟨a,?_⟩;rw [this,decide_eq_true b];rfl
 refine am (al (Q:=fun env s'=>env.frame=some env.locals/\∃ Z2,[x]<+:Z2/\Rep ⟨[env],[],env.locals,callerA.deeper env,[(0,ox)]⟩ Z2 O1 s'/\EnvR (fun s=>fd.scope.names.lookup s) ⟨cs,fi.tab⟩ env ⟨[env],[],env.locals,callerA.deeper env,[(0,ox)]⟩ Z2) (E:=fun z_ z_=>False) ?_)
  (fun env s1 ⟨hfr,Z1,hp1,R1,V1⟩=>⟨B.nolimit.keeps R1.base,?_⟩) fun z_ z_ q=>q.elim
 ·delta newFunctionEnv
  dsimp only;refine wpAny_bind (wpAny_alloc ?_);have R0:Rep ⟨[],[],S₀.heap.objs.size,callerA,[(0,ox)]⟩ [x] (s0 l) { S₀ with heap:=S₀.heap.push { cls:=.type "frame",data:=.dict #[] } }:=Rep.start hb hhid htab hx hox hx0 hlow hI;refine wpAny_bind (wpAny_mono (om _ (fun name kind cells=>by cases hkc:kind==NameKind.cell <;> simp [hkc]) (cs:=[]) K.cells (fun z_ z_ q=>by cases q) (fun z_ z_ q=>by cases q) R0) (fun acc s2 z0_=>aS z0_ fun Z2 hp2 hcr hci R2=>?_) fun z_ z_ q=>q);rw [hσ] at R2;rw [hcs] at hcr hci;rw [hσ] at hci;have R3:=R2.frame (env:={ scope:=fd.scope,locals:=S₀.heap.objs.size,globals:=mainGlobals,cells:=acc,qual:=q++".<locals>.",func:=some 475,code:=fd.code,frame:=some S₀.heap.objs.size,builtins:=builtinsNs }) (A':=callerA.deeper { scope:=fd.scope,locals:=S₀.heap.objs.size,globals:=mainGlobals,cells:=acc,qual:=q++".<locals>.",func:=some 475,code:=fd.code,frame:=some S₀.heap.objs.size,builtins:=builtinsNs }) rfl (by rw [show (Env.scope _).kind=_ from K.kind];decide);refine wpAny_bind (wpAny_mono (oj (vs:=[.obj 0]) (xs:=[.ref x]) (env:={ scope:=fd.scope,locals:=S₀.heap.objs.size,globals:=mainGlobals,cells:=acc,qual:=q++".<locals>.",func:=some 475,code:=fd.code,frame:=some S₀.heap.objs.size,builtins:=builtinsNs }) _ (fun z_ z_ z_=>rfl) rfl K.kind hcr ⟨⟨x,bt hp2 rfl,rfl⟩,trivial⟩ hkinds hci R3 eb) (fun z_ s4 R4=>?_) fun z_ z_ q=>q);refine wpAny_pure ⟨rfl,Z2,hp2,R4,?_⟩;exact { L:=rfl,kind:=K.kind,kd:=fun x q h=>.inl h,cells:=hcr,glob:=⟨rfl,rfl⟩,frame:=⟨_,_,rfl,rfl⟩,tab:=K.tab }
 ·rw [hbody];refine hW ?_;refine bK (qx B (vh B 12) 60) fun I T S U=>?_;have Ro1:Room ⟨[env],[],env.locals,callerA.deeper env,[(0,ox)]⟩ 12 60:=⟨Around.frames_deeper rfl,by show callerA.depth+1+10 * 12+10<=900;decide,by show callerA.units+3+10 * 60+700 * 12+100<=9800;decide,rfl⟩;have S1:=S _ _ _ _ _ _ _ _ _ _ htr R1 V1 Ro1;have hB:back [] (dO ((aL (lvl aG 12) 60).S ⟨cs,fi.tab⟩ fi.body O1))=.ok (.bool true) σe:=hB;generalize (aL (lvl aG 12) 60).S ⟨cs,fi.tab⟩ fi.body O1=r at *;induction r with
  | bad=>cases hB
  | exc C O2=>cases hB
  | ok fl O2=>
   refine am (S1 (by nofun)) (fun f2 s2 z0_=>az z0_ fun Z2 hp2 hf2 R2=>?_) fun z_ z_ q=>q.elim;induction fl with
   | next=>cases hB
   | ret v=>
    refine af hf2 fun y z1 hy=>?_;clear hf2;subst z1;have hv:v=.bool true:=by cases hB;rfl
    subst hv
    cases hy
    refine⟨rfl,R2.sh,R2.base,?_,fun P hP=>?_⟩
    ·refine ai (R2.lks (0,ox) (List.mem_cons_self ..)) fun d a h1 h2 h3=>?_;have:=bt (hp1.trans hp2) (show [x][0]?=some x from rfl);rw [this] at h2;cases h2;exact h3
    ·refine af (fL hP) fun t ht z2=>?_;subst z2;refine af ((R2.tabs t ht).tab) fun ps e z_=>?_;exact⟨ps,e⟩
theorem qL{w:World}{h₀:Heap}{s:Shared}{x:Addr}{ox:Obj}{xs:List Value}{n:Nat}{l:List Int}{σe:St}(B:Bse w h₀)(hb:h₀.StaysIn s.heap)(hhid:∀ P∈bn,h₀.get? P=none)(htab:∀ P∈bn,s.heap.get? P=some (tabObj #[]))(hx:s.heap.get? x=some ox)(hox:ox.cls=.type "list"/\ox.data=.seq xs.toArray n)(hx0:h₀.get? x=none)
  (hlow:x≠sysModules)(hI:IntsAre xs l)(hB:lvl aG 13 (.base 475) [.obj 0] (s0 l)=.ok (.bool true) σe){prog:Program} :
  wpD (model prog w) callerA (call (.ref 475) [.ref x]) (fun v s'=>v=.bool true/\s'={ s with heap:=s'.heap,toks:=s'.toks }/\h₀.StaysIn s'.heap/\s'.heap.get? x=some ox/\∀ P∈bn,∃ ps,s'.heap.get? P=some (tabObj ps)) (fun U U=>False) s:=
 uB (fun x ox xs n l σe B hb hhid htab hx hox hx0 hlow hI hB=>o0 B hb hhid htab hx hox hx0 hlow hI hB) (prog,w,h₀,s) x ox xs n l σe B hb hhid htab hx hox hx0 hlow hI hB
theorem qD{c:ClaimW}{cl:Str->Option Addr}{mean:ExcName->Option Value}{args:List WData}{s₁ s':Shared}(hp:c.post args (.bool true) args=true)(hr:∀ cls,c.raises args cls=false)(hos:s'.os=s₁.os)(hgn:s'.gens=#[])
  (hk:∀ b o,s₁.heap.get? b=some o->s'.heap.get? b=some o∨(isCodeTable s₁.heap b/\o=tabObj #[]/\∃ ps,s'.heap.get? b=some (tabObj ps))):GoodWG c cl mean args s₁ (.ok (.ret (.bool true))) s':=by
 refine⟨.inl ⟨.bool true,.bool true,[],rfl,hr,.bool true,hp,fun U=>⟨List.nodup_nil,fun a ha=>by cases ha⟩⟩,⟨fun b o e=>?_,fun b o e=>?_⟩,hos,.of_eq hgn⟩
 ·rcases hk b o e with h | ⟨ht,rfl,ps,hP⟩
  ·exact .inl h
  ·exact .inr (.inl ⟨ht,rfl,#[],ps,rfl,by rw [Array.empty_append];exact hP⟩)
 ·rcases hk b o e with h | ⟨ht,rfl,ps,hP⟩
  ·exact⟨o,h⟩
  ·exact⟨_,hP⟩
theorem to{prog:Program}{w:World}{p:Program}{loose:List Str}{mean:ExcName->Option Value}{mg mb:Str->Option Value}{s₁:Shared}{x:Addr}{xs:List Value}{l:List Int}{σe:St}(KX:(KF w).In s₁.heap)(KT:∀ (P:Addr),P∈[462,455,448]->s₁.heap.get? P=some (tabObj #[]))(T:Top p loose mean mg mb s₁.heap)
  (hL:s₁.heap.IsList x xs.toArray)(hI:IntsAre xs l)(hlow:x≠sysModules)(hB:lvl aG 13 (.base 475) [.obj 0] (s0 l)=.ok (.bool true) σe) :
  wpD (model prog w) callerA (call (.ref 475) [.ref x]) (fun v s'=>v=.bool true/\s'.os=s₁.os/\s'.gens=s₁.gens/\∀ b o,s₁.heap.get? b=some o->s'.heap.get? b=some o∨(isCodeTable s₁.heap b/\o=tabObj #[]/\∃ ps,s'.heap.get? b=some (tabObj ps))) (fun U U=>False) s₁:=by
 obtain ⟨ox,hx,hox,n,hod⟩:=hL
 have hT:TabsAt [(452,448),(459,455),(464,462)] s₁.heap:=by
  intro q hq
  simp only [List.mem_cons,List.not_mem_nil,or_false] at hq;rcases hq with rfl | rfl | rfl
  ·exact⟨codeHd_of_K KX (dS (dl w)).1,KT _ (.tail _ (.tail _ (.head _)))⟩
  ·exact⟨codeHd_of_K KX (dS (dl w)).2.1,KT _ (.tail _ (.head _))⟩
  ·exact⟨codeHd_of_K KX (dS (dl w)).2.2,KT _ (.head _)⟩
 have hne:∀ b o,s₁.heap.get? b=some o->o≠tabObj #[]->o.cls≠.type "list"->b∉[448,455,462,x]:=fun b o e h1 h2 hm=>by
  simp only [List.mem_cons,List.not_mem_nil,or_false] at hm;rcases hm with rfl | rfl | rfl | rfl
  ·rw [KT _ (by simp)] at e;cases e;exact h1 rfl
  ·rw [KT _ (by simp)] at e;cases e;exact h1 rfl
  ·rw [KT _ (by simp)] at e;cases e;exact h1 rfl
  ·rw [hx] at e;cases e;exact h2 hox
 have hget:∀ b o,s₁.heap.get? b=some o->o≠tabObj #[]->o.cls≠.type "list"->(eP s₁.heap [448,455,462,x]).get? b=some o:=fun b o e h1 h2=>by
  rw [bO,if_neg (hne b o e h1 h2)];exact e
 have K0:(KF w).In (eP s₁.heap [448,455,462,x]):=fun a o e=>by
  refine hget a o (KX a o e) (fun q=>?_) (fun q=>?_)
  ·have h2:=List.all_eq_true.mp (oC w) (a,o) (mem_of_lookupK e)
   subst q;exact absurd (show false=true from h2) Bool.false_ne_true
  ·have h2:=List.all_eq_true.mp (lX w) (a,o) (mem_of_lookupK e)
   simp only [q,beq_self_eq_true,Bool.not_true] at h2;exact absurd h2 Bool.false_ne_true
 have nsk:∀ {a mm},s₁.heap.Ns a mm->(eP s₁.heap [448,455,462,x]).Ns a mm:=fun {a mm} hn=>by
  refine ar hn fun o es ep e hd r=>?_;have hn2:a∉[448,455,462,x]:=fun hm=>by
   simp only [List.mem_cons,List.not_mem_nil,or_false] at hm;rcases hm with rfl | rfl | rfl | rfl
   ·rw [KT _ (by simp)] at e;cases e;cases hd
   ·rw [KT _ (by simp)] at e;cases e;cases hd
   ·rw [KT _ (by simp)] at e;cases e;cases hd
   ·rw [hx] at e;cases e;rw [hod] at hd;cases hd
  exact⟨o,es,ep,by rw [bO,if_neg hn2];exact e,hd,r⟩
 have B:Bse w (eP s₁.heap [448,455,462,x]):={
  K:=K0
  top:=by
   refine aV T.bmain fun bm ob a1 a2 a3 a4 r=>?_;exact⟨mg,mb,nsk T.g,nsk T.b,T.builtins,bm,ob,a1,a2,hget bm ob a3 (fun q=>by rw [q] at a4;cases a4) (fun q=>by rw [q] at a4;simp at a4),a4,r⟩
  nolimit:=let ⟨mc,a,r⟩:=T.nolimit;⟨mc,nsk a,r⟩
  codes:=⟨codeHd_of_K K0 (dS (dl w)).1,codeHd_of_K K0 (dS (dl w)).2.1,codeHd_of_K K0 (dS (dl w)).2.2⟩ }
 have hb:=eQ s₁.heap [448,455,462,x]
 refine am (qL B hb (fun P hP=>by rw [bO,if_pos];simp [bn] at hP ⊢;rcases hP with rfl | rfl | rfl <;> simp) (fun P hP=>KT P (by simp [bn] at hP ⊢;rcases hP with rfl | rfl | rfl <;> simp)) hx ⟨hox,hod⟩ (by rw [bO,if_pos (by simp)]) hlow hI hB) (fun v s' z0_=>dz z0_ fun h1 h2 h3 h4 h5=>?_) fun U U q=>q;refine⟨h1,by rw [h2],by rw [h2],fun b o e=>?_⟩;by_cases hm:b∈[448,455,462,x]
 ·simp only [List.mem_cons,List.not_mem_nil,or_false] at hm;have tb:∀ q∈[((452:Nat),(448:Nat)),(459,455),(464,462)],b=q.2->s'.heap.get? b=some o∨(isCodeTable s₁.heap b/\o=tabObj #[]/\∃ ps,s'.heap.get? b=some (tabObj ps)):=fun q hq hbq=>by
   subst hbq;have e2:=(hT q hq).2;rw [e] at e2;exact .inr ⟨((hT q hq).1.tab (hT q hq).2).isCodeTable,Option.some.inj e2,h5 _ (by simp at hq;rcases hq with rfl | rfl | rfl <;> simp [bn])⟩
  rcases hm with rfl | rfl | rfl | rfl
  ·exact tb (452,448) (by simp) rfl
  ·exact tb (459,455) (by simp) rfl
  ·exact tb (464,462) (by simp) rfl
  ·rw [hx] at e;cases e;exact .inl h4
 ·exact .inl (h3 b o (by rw [bO,if_neg hm];exact e))
theorem yK{R:WRecords}{cl:Str->Option Addr}{h:Heap}{x:Addr}{ds:List WData}:∀ {bs:List Addr},ReadsAllW R cl h [.ref x] [.list ds] bs->x∈bs:=fun h1=>by
 generalize hv:[Value.ref x]=vs at h1
 generalize hd:[WData.list ds]=dd at h1
 cases h1 with
 | nil=>cases hv
 | cons h1 h2=>
  cases hv;cases hd
  cases h1 with
  | list _ _ _ _=>exact List.mem_append_left _ (List.mem_cons_self ..)
noncomputable def lawD:DefRec:=match defOf vw (Str.ofString "law") with | some p=>p.1 | none=>⟨Str.empty,⟨[],[],none,[],[],none,[]⟩,[],default,default⟩
theorem tm:defOf vw PySem.Challenge.rw_nu0087_01.row.name=some (lawD,[]):=by kernel_rfl
theorem qK:PySem.Challenge.rw_nu0087_01.row.prog.theDef PySem.Challenge.rw_nu0087_01.row.name=some (lawD.params,lawD.body,lawD.scope):=by kernel_rfl
theorem tn:kwWritten? lawD.params.kwonlyargs lawD.params.kw_defaults=some []:=by kernel_rfl
theorem oZ:lawD.name=Str.ofString "law":=by kernel_rfl
theorem qM:PySem.Challenge.rw_nu0087_01.wellSaid=true:=by kernel_rfl
set_option tactic.hygienic true in
theorem law_join(hB:∀ l:List Int,l.length<=63->∃ O',lvl aG 13 (.base 475) [.obj 0] (s0 l)=.ok (.bool true) O'):PySem.Challenge.rw_nu0087_01.Holds:=by
 w_on
 refine holds_law qM fun said=>?_;refine Mine.Lake.PySem.W.holds_open (q:=vw) (loose:=lw) (Xt:=fun s=>xlAt vw [] s&&recOk (RowW.records yC) s) (XP:=XL vw []) (Yf:=hk.obs) (Ya:=hk.val) (YP:=hk.says) (N:=6802) left hk.of hk.keeps
  (fun s e=>xl_of s (Bool.and_eq_true_iff.mp e).1) XL.keeps tm qK tn (fun s e=>recFacts_of (Bool.and_eq_true_iff.mp e).2) (by rfl) (by first | assumption | decide +kernel) (by decide +kernel) ⟨rfl,rfl,rfl,rfl,rfl,by decide +kernel⟩ ?hw ?hc
 case hw=>w_witness2
 intro w s₀ s₁ mg mb G Y fa o pm cd doc dV kV ho hd hcd hD hmg hg args vals as hpre hlay hrd hwl hlo
 have KX:=Y.1
 have KT:=Y.2
 refine Ground.open G ?_;intro T B D TE TW
 try (refine guard_noD D (by decide +kernel) ?_;clear D)
 have hlo':=hlo
 have hrd':=hrd
 wrow_args hpre hlay hrd hwl hlo
 have e475:mg "law"=some (.ref 475):=mg_of KX T.g (uA w)
 have hfa:fa=475:=by
  have h2:=hmg
  rw [oZ,e475] at h2;exact(Value.ref.inj (Option.some.inj h2)).symm
 subst hfa;clear hd hcd hD B TE TW Y ho hmg;rename_i l _ _ _ _ _ a1 a2 x xs _ hL _ _ _ hI _ hlen _;have hxas:x∈a1++a2:=yK hrd';have hlow:x≠sysModules:=fun q=>by
  have:=hlo' x hxas
  rw [q] at this;simp at this
 obtain ⟨σe,hσ⟩:=hB l (by lia)
 refine am (to KX KT T hL hI hlow hσ) (fun v s' z0_=>bK z0_ fun h1 h2 h3 h4=>?_) fun U U q=>q.elim;subst h1;refine qD ?_ ?_ h2 (h3.trans hg) h4
 ·exact postW_of (by wrow_shape) (by wtm_val) rfl
 ·intro cls;rfl
end Mine.Lake
end
section
set_option backward.match.sparseCases false
set_option genCtorIdx false
open PySem
namespace Mine.Lake
abbrev Hp:=Nat->Option AO
abbrev Vs:=List (Nm×AV)
abbrev Tm:=List (Nat×AO)
structure Bu where
 d:Nat
 a:Nat
 num:Int
 oct:List UInt8
 hol:Int
 pin:Int
structure GP where
 i:Nat
 w:Int
 k:Int
structure GW where
 i:Nat
 most:Int
 met:Int
 seen:Int
 written:Int
 iwd:Nat
 ds:List (Nat×List Int)
 iwr:Nat
 row:List Int
 iwo:Nat
 oct:List (Int×(Nat×List Int))
 iwh:Nat
 held:List (Int×Int)
 iwp:Nat
 pins:List (Int×Int)
 iwk:Nat
 kept:List (Int×Nat)
 kfz:Bool
 iol:Nat
 old:List Nat
structure GK where
 i:Nat
 d:Nat
 ikp:Nat
 blocks:Int
 writes:Int
 ilat:Nat
 lat:List (Int×List UInt8)
 iun:Nat
 unf:List AV
structure GC where
 i:Nat
 d:Nat
 most:Int
 hits:Int
 reads:Int
 writes:Int
 icr:Nat
 row:List Nat
 icb:Nat
 by_:List (Int×Nat)
structure G where
 live:Bool
 p:GP
 w:GW
 k:GK
 c:GC
 b:List (Nat×Bu)
noncomputable def ch(w:GW):Vs:=[(.disk,.obj w.iwd),(.row,.obj w.iwr),(.octets,.obj w.iwo),(.held,.obj w.iwh),(.pins,.obj w.iwp),(.kept,.obj w.iwk),(.old,.obj w.iol),(.most,.int w.most),(.met,.int w.met),(.seen,.int w.seen),(.written,.int w.written)]
noncomputable def iX(k:GK):Vs:=[(.blocks,.int k.blocks),(.size,.int 4),(.kept,.obj k.ikp),(.latest,.obj k.ilat),(.unflushed,.obj k.iun),(.writes,.int k.writes),(.flushes,.int 0),(.last,.none),(.last_flush,.none),(.is_dead,.bool false)]
noncomputable def dh(k:GK)(c:GC):Vs:=[(.disk,.obj k.i),(.most,.int c.most),(.size,.int 4),(.row,.obj c.icr),(.by_number,.obj c.icb),(.hits,.int c.hits),(.reads,.int c.reads),(.writes,.int c.writes)]
noncomputable def dC(u:Bu):Vs:=[(.number,.int u.num),(.data,.obj u.a),(.holders,.int u.hol),(.pins,.int u.pin)]
noncomputable def aZ{α β γ:Type}(f:β->γ)(l:List (α×β)):List (α×γ):=l.map fun p=>(p.1,f p.2)
inductive Ro
 | pool | world | wd | wr | wo | wh | wp | wk | ol | dI | dD | lat | unf | cI | cD | cr | cb | oc (x:Int) | ds (j:Nat) | bI (i:Nat) | bD (i:Nat) | bA (i:Nat)
@[reducible] noncomputable def Ro.ctorIdx(t:Ro):Nat:=Ro.casesOn (motive:=fun U=>Nat) t 0 1 2 3 4 5 6 7 8 9 10 11 12 13 14 15 16 (fun U=>17) (fun U=>18) (fun U=>19) (fun U=>20) (fun U=>21)
noncomputable def ow(g:G)(r:Ro):Option (Nat×AO):=match r with
 | .pool=>some (g.p.i,.li [.int g.p.w,.int g.p.k])
 | .world=>some (g.w.i,.sd (ch g.w))
 | .wd=>some (g.w.iwd,.li (g.w.ds.map fun p=>.obj p.1))
 | .wr=>some (g.w.iwr,.li (g.w.row.map .int))
 | .wo=>some (g.w.iwo,.idd (aZ (fun p=>.obj p.1) g.w.oct))
 | .wh=>some (g.w.iwh,.idd (aZ .int g.w.held))
 | .wp=>some (g.w.iwp,.idd (aZ .int g.w.pins))
 | .wk=>some (g.w.iwk,if g.w.kfz then .frz (aZ .obj g.w.kept) else .idd (aZ .obj g.w.kept))
 | .ol=>some (g.w.iol,.li (g.w.old.map .obj))
 | .dI=>some (g.k.i,.inst 402 g.k.d)
 | .dD=>some (g.k.d,.sd (iX g.k))
 | .lat=>some (g.k.ilat,.idd (aZ .bytes g.k.lat))
 | .unf=>some (g.k.iun,.li g.k.unf)
 | .cI=>some (g.c.i,.inst 304 g.c.d)
 | .cD=>some (g.c.d,.sd (dh g.k g.c))
 | .cr=>some (g.c.icr,.li (g.c.row.map .obj))
 | .cb=>some (g.c.icb,.idd (aZ .obj g.c.by_))
 | .oc x=>(lk g.w.oct x).map fun p=>(p.1,.li (p.2.map .int))
 | .ds j=>(g.w.ds[j]?).map fun p=>(p.1,.li (p.2.map .int))
 | .bI i=>(lk g.b i).map fun u=>(i,.inst 189 u.d)
 | .bD i=>(lk g.b i).map fun u=>(u.d,.sd (dC u))
 | .bA i=>(lk g.b i).map fun u=>(u.a,.ba u.oct)
noncomputable def own(g:G)(r:Ro):Option (Nat×AO):=if g.live=true then ow g r else none
theorem aC{g:G}{r:Ro}(hl:g.live=true):own g r=ow g r:=if_pos hl
theorem b_{g:G}{r:Ro}{o:Option (Nat×AO)}(hl:g.live=true)(e:ow g r=o):own g r=o:=(if_pos hl).trans e
theorem eH{g g':G}{r:Ro}(hl:g.live=true)(hl':g'.live=true)(e:ow g' r=ow g r):own g' r=own g r:=(if_pos hl').trans (e.trans (if_pos hl).symm)
theorem lW{α β:Type}{f:α->β}{x:Option α}{y:α}(h:x=some y):x.map f=some (f y):=h▸rfl
noncomputable def upd(D:Hp)(i:Nat)(o:AO):Hp:=fun j=>if j=i then some o else D j
theorem fU{D:Hp}{i:Nat}{o:AO}:upd D i o i=some o:=if_pos rfl
theorem dk{D:Hp}{i j:Nat}{o:AO}(h:j≠i):upd D i o j=D j:=if_neg h
structure J(g:G)(L:Tm)(D:Hp):Prop where
 own:∀ r i o,own g r=some (i,o)->D i=some o
 inj:∀ r r' i o o',Mine.Lake.own g r=some (i,o)->Mine.Lake.own g r'=some (i,o')->r=r'
 tmp:∀ p∈L,D p.1=some p.2
 nd:(L.map (·.1)).Nodup
 sep:∀ p∈L,∀ r o,Mine.Lake.own g r≠some (p.1,o)
def Lk(g:G)(L:Tm)(i:Nat)(o:AO):Prop:=∀ D,J g L D->D i=some o
def Up(g:G)(L:Tm)(i:Nat)(o:AO)(g':G)(L':Tm):Prop:=∀ D,J g L D->J g' L' (upd D i o)
section
variable {g g':G}{L:Tm}{D:Hp}
theorem J.upd{i:Nat}{o o':AO}(h:J g L D)(r:Ro)(h1:Mine.Lake.own g r=some (i,o))(h2:Mine.Lake.own g' r=some (i,o'))(h3:∀ r',r'≠r->Mine.Lake.own g' r'=Mine.Lake.own g r'):J g' L (upd D i o') where
 own:=fun r' j o2 e=>by
  by_cases q:r'=r
  ·subst q;rw [h2] at e;cases e;exact fU
  ·rw [h3 r' q] at e;have:j≠i:=fun z=>q (h.inj r' r i o2 o (z▸e) h1);refine ac (dk this ..) ?_;exact h.own _ _ _ e
 inj:=fun r1 r2 j o1 o2 e1 e2=>by
  have f:∀ r' o',Mine.Lake.own g' r'=some (j,o')->∃ o'',Mine.Lake.own g r'=some (j,o''):=fun r' o3 e=>by
   by_cases q:r'=r
   ·subst q;rw [h2] at e;injection e with z0_;injection z0_ with z0_;subst z0_;exact⟨o,h1⟩
   ·rw [h3 r' q] at e;exact⟨_,e⟩
  refine aj (f _ _ e1) fun U f1=>?_;refine aj (f _ _ e2) fun U f2=>?_;exact h.inj _ _ _ _ _ f1 f2
 tmp:=fun p hp=>by
  have:p.1≠i:=fun z=>h.sep p hp r o (z▸h1)
  refine ac (dk this ..) ?_;exact h.tmp p hp
 nd:=h.nd
 sep:=fun p hp r' o2 e=>by
  by_cases q:r'=r
  ·subst q;rw [h2] at e;injection e with z0_;injection z0_ with z0_;subst z0_;exact h.sep p hp _ _ h1
  ·rw [h3 r' q] at e;exact h.sep p hp _ _ e
theorem J.alloc{i:Nat}{o:AO}(h:J g L D)(hi:D i=none):J g ((i,o)::L) (Mine.Lake.upd D i o) where
 own:=fun r j o2 e=>by
  have:=h.own _ _ _ e
  refine ac (dk (fun z=>by rw [z,hi] at this;exact aA this) ..) ?_;exact this
 inj:=h.inj
 tmp:=fun p hp=>by
  rcases List.mem_cons.mp hp with rfl | hp
  ·exact fU
  ·have:=h.tmp p hp
   rw [dk (fun z=>by rw [z,hi] at this;exact aA this)];exact this
 nd:=by
  rw [List.map_cons,List.nodup_cons];refine⟨fun hm=>?_,h.nd⟩;refine af (List.mem_map.mp hm) fun p hp e=>?_;have:=h.tmp p hp;rw [e,hi] at this;exact aA this
 sep:=fun p hp r o2 e=>by
  rcases List.mem_cons.mp hp with rfl | hp
  ·have:=h.own _ _ _ e;rw [hi] at this;exact aA this
  ·exact h.sep p hp r o2 e
theorem J.perm{L':Tm}(h:J g L D)(hp:∀ p∈L',p∈L)(hn:(L'.map (·.1)).Nodup):J g L' D where
 own:=h.own
 inj:=h.inj
 tmp:=fun p q=>h.tmp p (hp p q)
 nd:=hn
 sep:=fun p q=>h.sep p (hp p q)
theorem J.setT{A B:Tm}{i:Nat}{o o':AO}(h:J g (A++(i,o)::B) D):J g (A++(i,o')::B) (Mine.Lake.upd D i o') where
 own:=fun r j o2 e=>by
  have:j≠i:=fun z=>h.sep (i,o) (by simp) r o2 (z▸e)
  refine ac (dk this ..) ?_;exact h.own _ _ _ e
 inj:=h.inj
 tmp:=fun p hp=>by
  have nd:=h.nd
  rw [List.map_append,List.map_cons,List.nodup_append,List.nodup_cons] at nd;rcases List.mem_append.mp hp with hp | hp
  ·have:p.1≠i:=fun z=>nd.2.2 p.1 (List.mem_map_of_mem hp) i (List.mem_cons_self ..) z
   refine ac (dk this ..) ?_;exact h.tmp p (List.mem_append_left _ hp)
  ·rcases List.mem_cons.mp hp with rfl | hp
   ·exact fU
   ·have:p.1≠i:=fun z=>nd.2.1.1 (List.mem_map.mpr (ag p hp z))
    refine ac (dk this ..) ?_;exact h.tmp p (List.mem_append_right _ (List.mem_cons_of_mem _ hp))
 nd:=by have:=h.nd;simpa using this
 sep:=fun p hp r o2=>by
  rcases List.mem_append.mp hp with hp | hp
  ·exact h.sep p (List.mem_append_left _ hp) r o2
  ·rcases List.mem_cons.mp hp with rfl | hp
   ·exact h.sep (i,o) (by simp) r o2
   ·exact h.sep p (List.mem_append_right _ (List.mem_cons_of_mem _ hp)) r o2
theorem J.claim{A B:Tm}{i t:Nat}{o o' ot:AO}(h:J g (A++(t,ot)::B) D)(r rn:Ro)(hr:r≠rn)(h1:Mine.Lake.own g r=some (i,o))(h2:Mine.Lake.own g' r=some (i,o'))(h3:Mine.Lake.own g' rn=some (t,ot))(h4:∀ r',r'≠r->r'≠rn->Mine.Lake.own g' r'=Mine.Lake.own g r'):J g' (A++B) (Mine.Lake.upd D i o'):=by
 have hti:t≠i:=fun z=>h.sep (t,ot) (by simp) r o (z▸h1)
 have src:∀ r' j o2,Mine.Lake.own g' r'=some (j,o2)->r'≠rn->∃ o3,Mine.Lake.own g r'=some (j,o3)/\j≠t:=fun r' j o2 e q=>by
  by_cases q2:r'=r
  ·subst q2;rw [h2] at e;injection e with z0_;injection z0_ with z0_;subst z0_;exact(ag o h1 (fun z=>hti z.symm))
  ·rw [h4 r' q2 q] at e;exact(ag o2 e (fun z=>h.sep (t,ot) (by simp) r' o2 (z▸e)))
 have nd:=h.nd
 rw [List.map_append,List.map_cons,List.nodup_append,List.nodup_cons] at nd;have tne:∀ p∈A++B,p.1≠t:=fun p hp z=>by
  rcases List.mem_append.mp hp with hp | hp
  ·exact nd.2.2 p.1 (List.mem_map_of_mem hp) t (List.mem_cons_self ..) z
  ·exact nd.2.1.1 (List.mem_map.mpr (ag p hp z))
 have old:∀ p∈A++B,p∈A++(t,ot)::B:=fun p hp=>by
  rcases List.mem_append.mp hp with hp | hp
  ·exact List.mem_append_left _ hp
  ·exact List.mem_append_right _ (List.mem_cons_of_mem _ hp)
 exact {
  own:=fun r' j o2 e=>by
   by_cases q:r'=rn
   ·subst q;rw [h3] at e;cases e;refine ac (dk hti ..) ?_;exact h.tmp (t,ot) (by simp)
   ·by_cases q2:r'=r
    ·subst q2;rw [h2] at e;cases e;exact fU
    ·rw [h4 r' q2 q] at e;have:j≠i:=fun z=>q2 (h.inj r' r i o2 o (z▸e) h1);refine ac (dk this ..) ?_;exact h.own _ _ _ e
  inj:=fun r1 r2 j o1 o2 e1 e2=>by
   by_cases q1:r1=rn
   ·by_cases q2:r2=rn
    ·exact ac q1 (ac q2 rfl)
    ·refine af (src r2 j o2 e2 q2) fun U U ne=>?_;rw [q1,h3] at e1;injection e1 with z0_;injection z0_ with z0_;subst z0_;exact absurd rfl ne
   ·refine af (src r1 j o1 e1 q1) fun U f1 ne1=>?_;by_cases q2:r2=rn
    ·rw [q2,h3] at e2;injection e2 with z0_;injection z0_ with z0_;subst z0_;exact absurd rfl ne1
    ·refine af (src r2 j o2 e2 q2) fun U f2 U=>?_;exact h.inj _ _ _ _ _ f1 f2
  tmp:=fun p hp=>by
   have:p.1≠i:=fun z=>h.sep p (old p hp) r o (z▸h1)
   exact ac (dk this ..) (h.tmp p (old p hp))
  nd:=by
   rw [List.map_append,List.nodup_append];exact(ao nd.1 nd.2.1.2 (fun a ha b hb=>nd.2.2 a ha b (List.mem_cons_of_mem _ hb)))
  sep:=fun p hp r' o2 e=>by
   by_cases q:r'=rn
   ·subst q;rw [h3] at e;injection e with z0_;injection z0_ with z0_;subst z0_;exact tne p hp rfl
   ·refine af (src r' _ o2 e q) fun o3 f U=>?_;exact h.sep p (old p hp) r' o3 f }
theorem Lk.t0{i:Nat}{o:AO}:Lk g ((i,o)::L) i o:=fun D h=>h.tmp (i,o) (List.mem_cons_self ..)
theorem J.tail{p:Nat×AO}(h:J g (p::L) D):J g L D:=h.perm (fun q hq=>List.mem_cons_of_mem _ hq) (List.nodup_cons.mp h.nd).2
theorem Lk.ts{p:Nat×AO}{i:Nat}{o:AO}(h:Lk g L i o):Lk g (p::L) i o:=fun D hj=>h D hj.tail
noncomputable def gi:Tm->Nat->Nat
 | [],_=>0
 | p::l,n=>match n with | 0=>p.1 | n+1=>gi l n
noncomputable def go:Tm->Nat->AO
 | [],_=>.li []
 | p::l,n=>match n with | 0=>p.2 | n+1=>go l n
theorem Lk.n(n:Nat)(h:Nat.blt n L.length=true):Lk g L (gi L n) (go L n):=by
 induction L generalizing n with
 | nil=>exact gw h
 | cons p L ih=>induction n using Nat.casesOn with
  | zero=>exact Lk.t0
  | succ n=>exact(ih n h).ts
theorem Lk.of(r:Ro){i:Nat}{o:AO}(h:own g r=some (i,o)):Lk g L i o:=fun D hj=>hj.own r i o h
theorem Up.of(r:Ro){i:Nat}{o o':AO}(h1:own g r=some (i,o))(h2:own g' r=some (i,o'))(h3:∀ r',r'≠r->own g' r'=own g r'):Up g L i o' g' L:=fun D hj=>hj.upd r h1 h2 h3
theorem Up.t0{i:Nat}{o o':AO}:Up g ((i,o)::L) i o' g ((i,o')::L):=fun D hj=>J.setT (A:=[]) hj
theorem Up.ta(A:Tm){B:Tm}{i:Nat}{o o':AO}:Up g (A++(i,o)::B) i o' g (A++(i,o')::B):=fun D hj=>hj.setT
theorem Up.tc(A:Tm){B:Tm}{i t:Nat}{o o' ot:AO}(r rn:Ro)(hr:r≠rn)(h1:own g r=some (i,o))(h2:own g' r=some (i,o'))(h3:own g' rn=some (t,ot))(h4:∀ r',r'≠r->r'≠rn->own g' r'=own g r'):Up g (A++(t,ot)::B) i o' g' (A++B):=fun D hj=>hj.claim r rn hr h1 h2 h3 h4
end
end Mine.Lake
end
section
set_option backward.match.sparseCases false
open PySem
namespace Mine.Lake
def Hs(s:St)(g:G)(L:Tm):Prop:=J g L s.H/\∀ i,s.n<=i->s.H i=none
def wp{α:Type}(r:St->Res α)(Q:α->G->Tm->Vs->Prop)(E:Nat->G->Tm->Prop)(g:G)(L:Tm)(m:Vs):Prop:=
 ∀ s,Hs s g L->s.m=m->match r s with
  | .ok v s'=>∃ g' L',Hs s' g' L'/\Q v g' L' s'.m
  | .exc C s'=>∃ g' L',Hs s' g' L'/\E C g' L'
  | .bad=>False
abbrev wpS(r:St->Res Flow)(N:G->Tm->Vs->Prop)(R:AV->G->Tm->Vs->Prop)(E:Nat->G->Tm->Prop)(g:G)(L:Tm)(m:Vs):Prop:=
 wp r (fun fl g L m=>match fl with | .next=>N g L m | .ret v=>R v g L m) E g L m
section
variable {α β:Type}{E:Nat->G->Tm->Prop}{g g':G}{L L':Tm}{m:Vs}
theorem aF{v:α}{Q:α->G->Tm->Vs->Prop}(h:Q v g L m):wp (fun s=>.ok v s) Q E g L m:=fun s hs hm=>(aw g L hs (by refine ac hm ?_;exact h))
theorem ou{o:Option α}{v:α}{Q:α->G->Tm->Vs->Prop}(e:o=some v)(h:Q v g L m):wp (fun s=>lift o s) Q E g L m:=fun s hs hm=>by
 refine ac e ?_;exact(aw g L hs (by refine ac hm ?_;exact h))
theorem ay{x:St->Res α}{f:α->St->Res β}{Q:β->G->Tm->Vs->Prop}(h:wp x (fun a g L m=>wp (f a) Q E g L m) E g L m):wp (fun s=>(x s).bind f) Q E g L m:=fun s hs hm=>by
 have h1:=h s hs hm
 show match (x s).bind f with | .ok v s'=>_ | .exc C s'=>_ | .bad=>_
 generalize x s=r at h1
 induction r with
 | ok v s'=>refine aI h1 fun g' L' h2 h3=>?_;clear h1;exact h3 s' h2 rfl
 | exc C s'=>exact h1
 | bad=>exact h1
theorem wp_mono{x:St->Res α}{Q Q':α->G->Tm->Vs->Prop}{E':Nat->G->Tm->Prop}(h:wp x Q E g L m)(hQ:∀ v g L m,Q v g L m->Q' v g L m)(hE:∀ C g L,E C g L->E' C g L):wp x Q' E' g L m:=fun s hs hm=>by
 have h1:=h s hs hm
 generalize x s=r at h1 ⊢
 induction r with
 | ok v s'=>refine aI h1 fun g' L' h2 h3=>?_;clear h1;exact(aw g' L' h2 (hQ _ _ _ _ h3))
 | exc C s'=>refine aI h1 fun g' L' h2 h3=>?_;clear h1;exact(aw g' L' h2 (hE _ _ _ h3))
 | bad=>exact h1
theorem ov{x:St->Res α}{Q:α->G->Tm->Vs->Prop}(hD:∀ D,J g L D->J g' L' D)(h:wp x Q E g' L' m):wp x Q E g L m:=fun s hs hm=>h s ⟨hD _ hs.1,hs.2⟩ hm
theorem aE{x y:St->Res α}{Q:α->G->Tm->Vs->Prop}(e:∀ s,Hs s g L->s.m=m->x s=y s)(h:wp y Q E g L m):wp x Q E g L m:=fun s hs hm=>by
 have h1:=h s hs hm
 rw [<- e s hs hm] at h1;exact h1
theorem wp_new{o:AO}{Q:AV->G->Tm->Vs->Prop}(h:∀ i,Q (.obj i) g ((i,o)::L) m):wp (fun s=>s.new o) Q E g L m:=fun s hs hm=>by
 refine(aw g ((s.n,o)::L) ⟨hs.1.alloc (hs.2 _ (Nat.le_refl _)),fun i hi=>?_⟩ (by refine ac (show (s.push o).m=s.m from rfl) (ac hm ?_);exact h s.n));have hi:s.n+1<=i:=hi;show (if i=s.n then some o else s.H i)=none;refine ac (if_neg (by lia) ..) ?_;exact hs.2 _ (by lia)
theorem Hs.set{s:St}{i:Nat}{o o':AO}(hs:Hs s g L)(hi:Lk g L i o)(hu:Up g L i o' g' L'):Hs (s.set i o') g' L':=by
 have hi:=hi _ hs.1
 have hlt:i<s.n:=by
  rcases Nat.lt_or_ge i s.n with q | q
  ·exact q
  ·rw [hs.2 _ q] at hi;exact aA hi
 refine⟨hu _ hs.1,fun j hj=>?_⟩;have hj:s.n<=j:=hj;show (if j=i then some o' else s.H j)=none;refine ac (if_neg (by lia) ..) ?_;exact hs.2 _ hj
theorem cj{i:Nat}{o o':AO}{v:α}{Q:α->G->Tm->Vs->Prop}(hi:Lk g L i o)(hu:Up g L i o' g' L')(h:Q v g' L' m):wp (fun s=>.ok v (s.set i o')) Q E g L m:=fun s hs hm=>
 (aw _ _ (hs.set hi hu) (by refine ac (show (s.set i o').m=s.m from rfl) (ac hm ?_);exact h))
theorem v8{C:Nat}{Q:α->G->Tm->Vs->Prop}(h:E C g L):wp (fun s=>.exc C s) Q E g L m:=fun s hs hm=>(aw g L hs h)
theorem bz{s:St}{i:Nat}{o:AO}(hs:Hs s g L)(h:Lk g L i o):s.at (.obj i)=some o:=h _ hs.1
theorem hat{s:St}{i:Nat}{o:AO}(hs:Hs s g L)(h:Lk g L i o):s.H i=some o:=h _ hs.1
theorem aO{α:Type}{l:List α}(h:l.length<=1000):bg l=true:=decide_eq_true h
theorem u9{i C d:Nat}{l:Vs}{x:Nm}{v:AV}{Q:AV->G->Tm->Vs->Prop}(h1:Lk g L i (.inst C d))(h2:Lk g L d (.sd l))(h3:okData C x=true)(h4:lk l x=some v)(h:Q v g L m):wp (getA (.obj i) x) Q E g L m:=
 aE (y:=fun s=>.ok v s) (fun s hs U=>by unfold getA;refine ac (bz hs h1 ..) ?_;dsimp only;refine ac (hat hs h2 ..) (ac h3 ?_);dsimp only;refine ac h4 ?_;rfl) (aF h)
theorem dj{i C d:Nat}{l:Vs}{x:Nm}{v:AV}{Q:Unit->G->Tm->Vs->Prop}(h1:Lk g L i (.inst C d))(h2:Lk g L d (.sd l))(h3:okData C x=true)(h4:l.length<60)(hu:Up g L d (.sd (st l x v)) g' L')(h:Q () g' L' m):wp (setA (.obj i) x v) Q E g L m:=
 aE (y:=fun s=>.ok () (s.set d (.sd (st l x v)))) (fun s hs U=>by unfold setA;refine ac (bz hs h1 ..) ?_;dsimp only;refine ac (hat hs h2 ..) (ac h3 ?_);dsimp only;exact ac (if_pos h4 ..) rfl) (cj h2 hu h)
theorem bV{i:Nat}{l:List AV}{k:Int}{v:AV}{Q:AV->G->Tm->Vs->Prop}(h1:Lk g L i (.li l))(h2:l.length<=1000)(h3:(dR k l.length).bind (l[·]?)=some v)(h:Q v g L m):wp (getI (.obj i) (.int k)) Q E g L m:=
 aE (y:=fun s=>.ok v s) (fun s hs U=>by unfold getI;refine ac (bz hs h1 ..) ?_;dsimp only [lf,getX];refine ac (if_pos (aO h2) ..) (ac h3 ?_);rfl) (aF h)
theorem fy{i:Nat}{l:List AV}{k:Int}{v:AV}{Q:AV->G->Tm->Vs->Prop}(h1:Lk g L i (.tu l))(h2:l.length<=1000)(h3:(dR k l.length).bind (l[·]?)=some v)(h:Q v g L m):wp (getI (.obj i) (.int k)) Q E g L m:=
 aE (y:=fun s=>.ok v s) (fun s hs U=>by unfold getI;refine ac (bz hs h1 ..) ?_;dsimp only [lf,getX];refine ac (if_pos (aO h2) ..) (ac h3 ?_);rfl) (aF h)
theorem nD{i:Nat}{l:List UInt8}{k:Int}{b:UInt8}{Q:AV->G->Tm->Vs->Prop}(h1:Lk g L i (.ba l))(h2:l.length<=1000)(h3:(dR k l.length).bind (l[·]?)=some b)(h:Q (.int b.toNat) g L m):wp (getI (.obj i) (.int k)) Q E g L m:=
 aE (y:=fun s=>.ok (.int b.toNat) s) (fun s hs U=>by unfold getI;refine ac (bz hs h1 ..) ?_;dsimp only [lf,getX];refine ac (if_pos (aO h2) ..) (ac h3 ?_);rfl) (aF h)
theorem nE{i:Nat}{l:Vs}{x:Nm}{v:AV}{Q:AV->G->Tm->Vs->Prop}(h1:Lk g L i (.sd l))(h3:lk l x=some v)(h:Q v g L m):wp (getI (.obj i) (.str x)) Q E g L m:=
 aE (y:=fun s=>.ok v s) (fun s hs U=>by unfold getI;refine ac (bz hs h1 ..) ?_;dsimp only [lf,getX];refine ac h3 ?_;rfl) (aF h)
theorem cy{i:Nat}{l:List (Int×AV)}{x:Int}{v:AV}{Q:AV->G->Tm->Vs->Prop}(h1:Lk g L i (.idd l))(h3:lk l x=some v)(h:Q v g L m):wp (getI (.obj i) (.int x)) Q E g L m:=
 aE (y:=fun s=>.ok v s) (fun s hs U=>by unfold getI;refine ac (bz hs h1 ..) ?_;dsimp only [lf,getX];refine ac h3 ?_;rfl) (aF h)
theorem le{i:Nat}{l:List (Int×AV)}{x:Int}{v:AV}{Q:AV->G->Tm->Vs->Prop}(h1:Lk g L i (.frz l))(h3:lk l x=some v)(h:Q v g L m):wp (getI (.obj i) (.int x)) Q E g L m:=
 aE (y:=fun s=>.ok v s) (fun s hs U=>by unfold getI;refine ac (bz hs h1 ..) ?_;dsimp only [lf,getX];refine ac h3 ?_;rfl) (aF h)
theorem er{i k':Nat}{l:List AV}{k:Int}{v:AV}{Q:Unit->G->Tm->Vs->Prop}(h1:Lk g L i (.li l))(h2:l.length<=1000)(h0:0<=k)(h3:dR k l.length=some k')(hu:Up g L i (.li (l.set k' v)) g' L')(h:Q () g' L' m):wp (setI (.obj i) (.int k) v) Q E g L m:=
 aE (y:=fun s=>.ok () (s.set i (.li (l.set k' v)))) (fun s hs U=>by unfold setI;dsimp only;refine ac (hat hs h1 ..) ?_;dsimp only [rF,setX];exact ac (if_pos ⟨h0,aO h2⟩ ..) (ac h3 rfl)) (cj h1 hu h)
theorem tT{i k':Nat}{l:List UInt8}{k:Int}{v:AV}{b:UInt8}{Q:Unit->G->Tm->Vs->Prop}(h1:Lk g L i (.ba l))(h2:l.length<=1000)(h3:dR k l.length=some k')(h4:cz v=some b)(hu:Up g L i (.ba (l.set k' b)) g' L')(h:Q () g' L' m):wp (setI (.obj i) (.int k) v) Q E g L m:=
 aE (y:=fun s=>.ok () (s.set i (.ba (l.set k' b)))) (fun s hs U=>by unfold setI;dsimp only;refine ac (hat hs h1 ..) ?_;dsimp only [rF,setX];refine ac (if_pos (aO h2) ..) (ac h3 ?_);dsimp only;exact ac h4 rfl) (cj h1 hu h)
theorem dL{i:Nat}{l:Vs}{x:Nm}{v:AV}{Q:Unit->G->Tm->Vs->Prop}(h1:Lk g L i (.sd l))(h2:l.length<60)(hu:Up g L i (.sd (st l x v)) g' L')(h:Q () g' L' m):wp (setI (.obj i) (.str x) v) Q E g L m:=
 aE (y:=fun s=>.ok () (s.set i (.sd (st l x v)))) (fun s hs U=>by unfold setI;dsimp only;refine ac (hat hs h1 ..) ?_;dsimp only [rF,setX];exact ac (if_pos h2 ..) rfl) (cj h1 hu h)
theorem ca{i:Nat}{l:List (Int×AV)}{x:Int}{v:AV}{Q:Unit->G->Tm->Vs->Prop}(h1:Lk g L i (.idd l))(h2:l.length<900)(hu:Up g L i (.idd (st l x v)) g' L')(h:Q () g' L' m):wp (setI (.obj i) (.int x) v) Q E g L m:=
 aE (y:=fun s=>.ok () (s.set i (.idd (st l x v)))) (fun s hs U=>by unfold setI;dsimp only;refine ac (hat hs h1 ..) ?_;dsimp only [rF,setX];exact ac (if_pos h2 ..) rfl) (cj h1 hu h)
theorem sW{i k':Nat}{l:List AV}{k:Int}{Q:Unit->G->Tm->Vs->Prop}(h1:Lk g L i (.li l))(h2:l.length<=1000)(h3:dR k l.length=some k')(hu:Up g L i (.li (l.eraseIdx k')) g' L')(h:Q () g' L' m):wp (jN (.obj i) (.int k)) Q E g L m:=
 aE (y:=fun s=>.ok () (s.set i (.li (l.eraseIdx k')))) (fun s hs U=>by unfold jN;dsimp only;refine ac (hat hs h1 ..) ?_;dsimp only [uX];exact ac (if_pos (aO h2) ..) (ac h3 rfl)) (cj h1 hu h)
theorem k9{i:Nat}{l:List (Int×AV)}{x:Int}{Q:Unit->G->Tm->Vs->Prop}(h1:Lk g L i (.idd l))(h2:l.length<=1000)(h3:(lk l x).isSome=true)(hu:Up g L i (.idd (rm l x)) g' L')(h:Q () g' L' m):wp (jN (.obj i) (.int x)) Q E g L m:=
 aE (y:=fun s=>.ok () (s.set i (.idd (rm l x)))) (fun s hs U=>by unfold jN;dsimp only;refine ac (hat hs h1 ..) ?_;dsimp only [uX];refine ac h3 (ac (aO h2 ..) ?_);rfl) (cj h1 hu h)
theorem td{i x y:Nat}{l:List AV}{lo hi:Option AV}{Q:AV->G->Tm->Vs->Prop}(h1:Lk g L i (.fl l))(h2:l.length<=1000)(h3:ends lo hi l.length=some (x,y))(h:∀ j,Q (.obj j) g ((j,(AO.li ((l.take y).drop x)))::L) m):wp (ia (.obj i) lo hi) Q E g L m:=
 aE (y:=fun s=>s.new (AO.li ((l.take y).drop x))) (fun s hs U=>by unfold ia;refine ac (bz hs h1 ..) ?_;dsimp only [nF];exact ac (if_pos (aO h2) ..) (ac h3 rfl)) (wp_new h)
theorem s_{i x y:Nat}{l:List UInt8}{lo hi:Option AV}{Q:AV->G->Tm->Vs->Prop}(h1:Lk g L i (.ba l))(h2:l.length<=1000)(h3:ends lo hi l.length=some (x,y))(h:∀ j,Q (.obj j) g ((j,(AO.ba ((l.take y).drop x)))::L) m):wp (ia (.obj i) lo hi) Q E g L m:=
 aE (y:=fun s=>s.new (AO.ba ((l.take y).drop x))) (fun s hs U=>by unfold ia;refine ac (bz hs h1 ..) ?_;dsimp only [nF];exact ac (if_pos (aO h2) ..) (ac h3 rfl)) (wp_new h)
theorem n_{i j x y:Nat}{l r:List AV}{lo hi:Option AV}{Q:Unit->G->Tm->Vs->Prop}(h1:Lk g L i (.li l))(h2:l.length<=1000)(h3:ends lo hi l.length=some (x,y))(h4:Lk g L j (.li r))(h5:r.length=y - x)(h6:∀ D,J g L D->j≠i)(hu:Up g L i (.li (l.take x++r++l.drop y)) g' L')(h:Q () g' L' m):wp (ki (.obj i) lo hi (.obj j)) Q E g L m:=
 aE (y:=fun s=>.ok () (s.set i (.li (l.take x++r++l.drop y)))) (fun s hs U=>by unfold ki;dsimp only;refine ac (hat hs h1 ..) ?_;dsimp only;refine ac (bz hs h4 ..) ?_;dsimp only;refine ac h3 ?_;dsimp only;exact ac (if_pos ⟨h5,fun q=>h6 _ hs.1 (AV.noConfusion q fun h=>h),aO h2⟩ ..) rfl) (cj h1 hu h)
theorem kj{i x y:Nat}{l r:List UInt8}{lo hi:Option AV}{Q:Unit->G->Tm->Vs->Prop}(h1:Lk g L i (.ba l))(h2:l.length<=1000)(h3:ends lo hi l.length=some (x,y))(h5:r.length=y - x)(hu:Up g L i (.ba (l.take x++r++l.drop y)) g' L')(h:Q () g' L' m):wp (ki (.obj i) lo hi (.bytes r)) Q E g L m:=
 aE (y:=fun s=>.ok () (s.set i (.ba (l.take x++r++l.drop y)))) (fun s hs U=>by unfold ki;dsimp only;refine ac (hat hs h1 ..) ?_;dsimp only;refine ac h3 ?_;dsimp only;exact ac (if_pos ⟨h5,aO h2⟩ ..) rfl) (cj h1 hu h)
theorem cF{i:Nat}{l:List AV}{v:AV}{Q:AV->G->Tm->Vs->Prop}(h1:Lk g L i (.li l))(h2:l.length<1000)(hu:Up g L i (.li (l++[v])) g' L')(h:Q .none g' L' m):wp (bB .append i [v]) Q E g L m:=
 aE (y:=fun s=>.ok .none (s.set i (.li (l++[v])))) (fun s hs U=>by unfold bB;refine ac (hat hs h1 ..) ?_;dsimp only;refine ac (if_pos rfl ..) ?_;exact if_pos h2) (cj h1 hu h)
theorem ef{i k:Nat}{l:List AV}{v:AV}{Q:AV->G->Tm->Vs->Prop}(h1:Lk g L i (.li l))(h2:l.length<=1000)(h3:∀ s,Hs s g L->j_ s v l=some k)(hu:Up g L i (.li (l.eraseIdx k)) g' L')(h:Q .none g' L' m):wp (bB .remove i [v]) Q E g L m:=
 aE (y:=fun s=>.ok .none (s.set i (.li (l.eraseIdx k)))) (fun s hs U=>by unfold bB;refine ac (hat hs h1 ..) ?_;dsimp only;refine ac (if_neg (by decide) ..) (ac (if_pos rfl ..) ?_);dsimp only [vq,one];exact ac (if_pos (aO h2) ..) (ac (h3 s hs ..) rfl)) (cj h1 hu h)
theorem pQ{i:Nat}{l:List (Int×AV)}{x:Int}{Q:AV->G->Tm->Vs->Prop}(h1:Lk g L i (.idd l))(h:Q ((lk l x).getD .none) g L m):wp (bB .get i [.int x]) Q E g L m:=
 aE (y:=fun s=>.ok ((lk l x).getD .none) s) (fun s hs U=>by unfold bB;refine ac (hat hs h1 ..) ?_;rfl) (aF h)
theorem sD{i:Nat}{l:List (Int×AV)}{x:Int}{d:AV}{Q:AV->G->Tm->Vs->Prop}(h1:Lk g L i (.idd l))(h:Q ((lk l x).getD d) g L m):wp (bB .get i [.int x,d]) Q E g L m:=
 aE (y:=fun s=>.ok ((lk l x).getD d) s) (fun s hs U=>by unfold bB;refine ac (hat hs h1 ..) ?_;rfl) (aF h)
theorem uN{i:Nat}{l:List (Int×AV)}{x:Int}{v:AV}{Q:AV->G->Tm->Vs->Prop}(h1:Lk g L i (.idd l))(h2:l.length<=1000)(h3:lk l x=some v)(hu:Up g L i (.idd (rm l x)) g' L')(h:Q v g' L' m):wp (bB .pop i [.int x]) Q E g L m:=
 aE (y:=fun s=>.ok v (s.set i (.idd (rm l x)))) (fun s hs U=>by unfold bB;refine ac (hat hs h1 ..) ?_;dsimp only;refine ac (if_neg (by decide) ..) (ac (if_pos rfl ..) ?_);dsimp only [vo,one];exact ac (if_pos (aO h2) ..) (ac h3 rfl)) (cj h1 hu h)
section
variable {T:Nat->Option FI}{k:Nat}{Q:AV->G->Tm->Vs->Prop}
theorem gY{f:Bf}{args:List AV}(h:wp (cU f args) Q E g L m):wp (lvl T (k+1) (.bf f) args) Q E g L m:=h
theorem de{b:List UInt8}(h2:b.length<=1000)(h:Q (.int b.length) g L m):wp (lvl T (k+1) (.bf .len) [.bytes b]) Q E g L m:=
 gY (aE (y:=fun s=>.ok (.int b.length) s) (fun s hs U=>by dsimp only [cU,one,lenB];exact ac (if_pos (aO h2) ..) rfl) (aF h))
theorem cw{i:Nat}{l:List AV}(h1:Lk g L i (.li l))(h2:l.length<=1000)(h:Q (.int l.length) g L m):wp (lvl T (k+1) (.bf .len) [.obj i]) Q E g L m:=
 gY (aE (y:=fun s=>.ok (.int l.length) s) (fun s hs U=>by dsimp only [cU,one,lenB];refine ac (hat hs h1 ..) ?_;dsimp only;exact ac (if_pos (aO h2) ..) rfl) (aF h))
theorem pK{i:Nat}{l:List AV}(h1:Lk g L i (.fl l))(h2:l.length<=1000)(h:Q (.int l.length) g L m):wp (lvl T (k+1) (.bf .len) [.obj i]) Q E g L m:=
 gY (aE (y:=fun s=>.ok (.int l.length) s) (fun s hs U=>by dsimp only [cU,one,lenB];refine ac (hat hs h1 ..) ?_;dsimp only;exact ac (if_pos (aO h2) ..) rfl) (aF h))
theorem gX{i:Nat}{l:List UInt8}(h1:Lk g L i (.ba l))(h2:l.length<=1000)(h:Q (.int l.length) g L m):wp (lvl T (k+1) (.bf .len) [.obj i]) Q E g L m:=
 gY (aE (y:=fun s=>.ok (.int l.length) s) (fun s hs U=>by dsimp only [cU,one,lenB];refine ac (hat hs h1 ..) ?_;dsimp only;exact ac (if_pos (aO h2) ..) rfl) (aF h))
theorem dm{i:Int}(h1:0<=i/\i<1000)(h:Q (.bytes (List.replicate i.toNat 0)) g L m):wp (lvl T (k+1) (.bf .bytes) [.int i]) Q E g L m:=
 gY (aE (y:=fun s=>.ok (.bytes (List.replicate i.toNat 0)) s) (fun s hs U=>by dsimp only [cU,one,bytesB];exact ac (if_pos h1 ..) rfl) (aF h))
theorem gW{i:Nat}{l:List UInt8}(h1:Lk g L i (.ba l))(h2:l.length<=1000)(h:Q (.bytes l) g L m):wp (lvl T (k+1) (.bf .bytes) [.obj i]) Q E g L m:=
 gY (aE (y:=fun s=>.ok (.bytes l) s) (fun s hs U=>by dsimp only [cU,one,bytesB];refine ac (hat hs h1 ..) ?_;dsimp only;exact ac (if_pos (aO h2) ..) rfl) (aF h))
theorem bG{i:Nat}{l:List AV}{b:List UInt8}(h1:Lk g L i (.li l))(h2:l.length<=1000)(h3:d6 l=some b)(h:Q (.bytes b) g L m):wp (lvl T (k+1) (.bf .bytes) [.obj i]) Q E g L m:=
 gY (aE (y:=fun s=>.ok (.bytes b) s) (fun s hs U=>by dsimp only [cU,one,bytesB];refine ac (hat hs h1 ..) ?_;dsimp only;exact ac (if_pos (aO h2) ..) (ac h3 rfl)) (aF h))
theorem kH{b:List UInt8}(h2:b.length<=1000)(h:∀ j,Q (.obj j) g ((j,(AO.ba b))::L) m):wp (lvl T (k+1) (.bf .bytearray) [.bytes b]) Q E g L m:=
 gY (aE (y:=fun s=>s.new (AO.ba b)) (fun s hs U=>by dsimp only [cU,one];exact ac (if_pos (aO h2) ..) rfl) (wp_new h))
theorem kJ{b:List UInt8}(h2:b.length<=1000)(h:∀ j,Q (.obj j) g ((j,(AO.li (b.map fun x=>.int x.toNat)))::L) m):wp (lvl T (k+1) (.bf .list) [.bytes b]) Q E g L m:=
 gY (aE (y:=fun s=>s.new (AO.li (b.map fun x=>.int x.toNat))) (fun s hs U=>by dsimp only [cU,one,listB];exact ac (if_pos (aO h2) ..) rfl) (wp_new h))
theorem ee{i:Nat}{l:List AV}(h1:Lk g L i (.li l))(h2:l.length<=1000)(h:∀ j,Q (.obj j) g ((j,(AO.li l))::L) m):wp (lvl T (k+1) (.bf .list) [.obj i]) Q E g L m:=
 gY (aE (y:=fun s=>s.new (AO.li l)) (fun s hs U=>by dsimp only [cU,one,listB];refine ac (hat hs h1 ..) ?_;dsimp only;exact ac (if_pos (aO h2) ..) rfl) (wp_new h))
theorem pL{i:Nat}{l:List (Int×AV)}(h1:Lk g L i (.idd l))(h2:l.length<64)(h:∀ j,Q (.obj j) g ((j,(AO.li ((sortI (dX l)).map .int)))::L) m):wp (lvl T (k+1) (.bf .sorted) [.obj i]) Q E g L m:=
 gY (aE (y:=fun s=>s.new (AO.li ((sortI (dX l)).map .int))) (fun s hs U=>by dsimp only [cU,one,sortedB];refine ac (hat hs h1 ..) ?_;dsimp only;exact ac (if_pos h2 ..) rfl) (wp_new h))
end
end
end Mine.Lake
end
section
set_option backward.match.sparseCases false
set_option genCtorIdx false
open PySem
namespace Mine.Lake
section
variable {C:b9}{F:Fns}{n:Nat}{env:AEnv}{E:Nat->G->Tm->Prop}{g g':G}{L L':Tm}{m:Vs}{Q:AV->G->Tm->Vs->Prop}{QB:Bool->G->Tm->Vs->Prop}{QU:Unit->G->Tm->Vs->Prop}{N:G->Tm->Vs->Prop}{R:AV->G->Tm->Vs->Prop}
theorem uZ(h:Q .none g L m):wp ((aL C (n+1)).E env .none) Q E g L m:=aF h
theorem wP{i:Int}(h:Q (.int i) g L m):wp ((aL C (n+1)).E env (.int i)) Q E g L m:=aF h
theorem ul{x:Nm}(h:Q (.str x) g L m):wp ((aL C (n+1)).E env (.str x)) Q E g L m:=aF h
theorem k_{x:Nm}{v:AV}(e:lk m x=some v)(h:Q v g L m):wp ((aL C (n+1)).E env (.loc x)) Q E g L m:=
 aE (y:=fun s=>.ok v s) (fun s hs hm=>by show lift (lk s.m x) s=_;refine ac hm (ac e ?_);rfl) (aF h)
theorem nA{x:Nm}{i:Nat}{v:AV}(e:lk env.cells x=some i)(e2:Lk g L i (.ce (some v)))(h:Q v g L m):wp ((aL C (n+1)).E env (.cel x)) Q E g L m:=
 aE (y:=fun s=>.ok v s) (fun s hs hm=>by show ig env x s=_;unfold ig;refine ac e ?_;dsimp only;exact ac (hat hs e2 ..) rfl) (aF h)
theorem nB{x:Nm}{v:AV}(e:f9 x=some v)(h:Q v g L m):wp ((aL C (n+1)).E env (.glo x)) Q E g L m:=ou e h
theorem um{e i:RE}(h:wp ((aL C n).E env e) (fun o g L m=>wp ((aL C n).E env i) (fun i g L m=>wp (getI o i) Q E g L m) E g L m) E g L m):wp ((aL C (n+1)).E env (.sub e i)) Q E g L m:=
 ay (wp_mono h (fun U U U U h=>ay h) fun U U U h=>h)
theorem jf{α β:Type}{f:α->St->Res β}{Q:List β->G->Tm->Vs->Prop}(h:Q [] g L m):wp (bx f []) Q E g L m:=aF h
theorem d0{α β:Type}{f:α->St->Res β}{a:α}{l:List α}{Q:List β->G->Tm->Vs->Prop}(h:wp (f a) (fun b g L m=>wp (bx f l) (fun r g L m=>Q (b::r) g L m) E g L m) E g L m):wp (bx f (a::l)) Q E g L m:=
 ay (wp_mono h (fun U U U U h=>ay (wp_mono h (fun U U U U h=>aF h) fun U U U h=>h)) fun U U U h=>h)
theorem jO{f:RE}{args:List RE}(h:wp ((aL C n).E env f) (fun y g L m=>wp (bx ((aL C n).E env) args) (fun as g L m=>wp (C y as) Q E g L m) E g L m) E g L m):wp ((aL C (n+1)).E env (.call f args)) Q E g L m:=
 ay (wp_mono h (fun U U U U h=>ay h) fun U U U h=>h)
def r8(C:b9)(F:Fns)(env:AEnv)(a:AV)(x:Nm)(args:List RE):St->Res AV:=fun s=>match fJ a x s with
  | some (.fn f self)=>(bx (F.E env) args s).bind fun as s=>C (.base f) (self::as) s
  | some (.bm n i)=>(bx (F.E env) args s).bind fun as s=>bB n i as s
  | .none=>.bad
theorem sY{o:RE}{x:Nm}{args:List RE}(h:wp ((aL C n).E env o) (fun a g L m=>wp (r8 C (aL C n) env a x args) Q E g L m) E g L m):wp ((aL C (n+1)).E env (.mcall o x args)) Q E g L m:=ay h
theorem us{i c d f:Nat}{l:Vs}{x:Nm}{args:List RE}(h1:Lk g L i (.inst c d))(h2:Lk g L d (.sd l))(h3:ek c x=some f)(h4:lk l x=none)(h:wp (bx (F.E env) args) (fun as g L m=>wp (C (.base f) (.obj i::as)) Q E g L m) E g L m):wp (r8 C F env (.obj i) x args) Q E g L m:=
 aE (y:=fun s=>(bx (F.E env) args s).bind fun as s=>C (.base f) (.obj i::as) s) (fun s hs U=>by unfold r8 fJ;dsimp only;refine ac (hat hs h1 ..) ?_;dsimp only;refine ac (hat hs h2 ..) ?_;dsimp only;refine ac h3 ?_;dsimp only;refine ac h4 ?_;rfl) (ay h)
theorem w6{i:Nat}{l:List AV}{x:Nm}{args:List RE}(h1:Lk g L i (.li l))(h2:x=.append∨x=.remove)(h:wp (bx (F.E env) args) (fun as g L m=>wp (bB x i as) Q E g L m) E g L m):wp (r8 C F env (.obj i) x args) Q E g L m:=
 aE (y:=fun s=>(bx (F.E env) args s).bind fun as s=>bB x i as s) (fun s hs U=>by unfold r8 fJ;dsimp only;refine ac (hat hs h1 ..) ?_;dsimp only;exact ac (if_pos h2 ..) rfl) (ay h)
theorem vi{i:Nat}{l:List (Int×AV)}{x:Nm}{args:List RE}(h1:Lk g L i (.idd l))(h2:x=.get∨x=.pop)(h:wp (bx (F.E env) args) (fun as g L m=>wp (bB x i as) Q E g L m) E g L m):wp (r8 C F env (.obj i) x args) Q E g L m:=
 aE (y:=fun s=>(bx (F.E env) args s).bind fun as s=>bB x i as s) (fun s hs U=>by unfold r8 fJ;dsimp only;refine ac (hat hs h1 ..) ?_;dsimp only;exact ac (if_pos h2 ..) rfl) (ay h)
theorem a_{op:Operator}{x y z:Int}(e:dY op x y=some z)(h:Q (.int z) g L m):wp (binop op (.int x) (.int y)) Q E g L m:=
 aE (y:=fun s=>.ok (.int z) s) (fun s hs U=>by show lift ((dY op x y).map AV.int) s=_;refine ac e ?_;rfl) (aF h)
theorem me{i j:Nat}{x y:List AV}(h1:Lk g L i (.li x))(h2:Lk g L j (.li y))(h3:(x++y).length<=1000)(h:∀ t,Q (.obj t) g ((t,.li (x++y))::L) m):wp (binop .Add (.obj i) (.obj j)) Q E g L m:=
 aE (y:=fun s=>s.new (.li (x++y))) (fun s hs U=>by dsimp only [binop,liAt];refine ac (bz hs h1 ..) (ac (bz hs h2 ..) ?_);dsimp only;exact ac (if_pos (aO h3) ..) rfl) (wp_new h)
theorem sF{e e2:RE}{es:List RE}(h:wp (F.E env e) (fun v g L m=>∃ b,v=.bool b/\(b=true->wp (kQ F env .And (e2::es)) Q E g L m)/\(b=false->Q (.bool false) g L m)) E g L m):wp (kQ F env .And (e::e2::es)) Q E g L m:=
 ay (wp_mono h (fun U U U U z0_=>az z0_ fun b e h1 h2=>by
  subst e;refine ay (aF ?_);induction b with
  | true=>exact h1 rfl
  | false=>exact aF (h2 rfl)) fun U U U h=>h)
theorem uO{e e2:RE}{es:List RE}(h:wp (F.E env e) (fun v g L m=>∃ b,v=.bool b/\(b=false->wp (kQ F env .Or (e2::es)) Q E g L m)/\(b=true->Q (.bool true) g L m)) E g L m):wp (kQ F env .Or (e::e2::es)) Q E g L m:=
 ay (wp_mono h (fun U U U U z0_=>az z0_ fun b e h1 h2=>by
  subst e;refine ay (aF ?_);induction b with
  | false=>exact h1 rfl
  | true=>exact aF (h2 rfl)) fun U U U h=>h)
theorem qh{a:AV}{op:CmpOp}{r:RE}(h:wp (F.E env r) (fun b g L m=>wp (dc op a b) QB E g L m) E g L m):wp (chain F env a [(op,r)]) QB E g L m:=ay h
theorem sO{a:AV}{op:CmpOp}{r:RE}{p:CmpOp×RE}{rest:List (CmpOp×RE)}(h:wp (F.E env r) (fun b g L m=>wp (dc op a b) (fun c g L m=>(c=true->wp (chain F env b (p::rest)) QB E g L m)/\(c=false->QB false g L m)) E g L m) E g L m):wp (chain F env a ((op,r)::p::rest)) QB E g L m:=
 ay (wp_mono h (fun U U U U h=>ay (wp_mono h (fun c U U U h=>by
  induction c with
  | true=>exact h.1 rfl
  | false=>exact aF (h.2 rfl)) fun U U U h=>h)) fun U U U h=>h)
theorem dp{op:CmpOp}{a b:AV}{r:Bool}(e:∀ s,Hs s g L->eO op a b s=some r)(h:QB r g L m):wp (dc op a b) QB E g L m:=
 aE (y:=fun s=>.ok r s) (fun s hs U=>by unfold dc;refine ac (e s hs ..) ?_;rfl) (aF h)
theorem sQ{x y:List UInt8}(h:QB (!decide (x=y)) g L m):wp (dc .NotEq (.bytes x) (.bytes y)) QB E g L m:=dp (fun U U=>rfl) h
theorem oS{i j d d':Nat}(h1:Lk g L i (.inst 189 d))(h2:Lk g L j (.inst 189 d'))(h:QB (!decide (i=j)) g L m):wp (dc .IsNot (.obj i) (.obj j)) QB E g L m:=
 dp (fun s hs=>by unfold eO xI;dsimp only [eqI];refine ac (hat hs h1 ..) (ac (hat hs h2 ..) ?_);rfl) h
theorem wR{es:List RE}(h:wp (bx ((aL C n).E env) es) (fun vs g L m=>vs.length<=1000/\∀ i,Q (.obj i) g ((i,.tu vs)::L) m) E g L m):wp ((aL C (n+1)).E env (.tup es)) Q E g L m:=
 ay (wp_mono h (fun vs U U U h=>aE (y:=fun s=>s.new (.tu vs)) (fun s U U=>if_pos (aO h.1)) (wp_new h.2)) fun U U U h=>h)
theorem sX(h:∀ i,Q (.obj i) g ((i,.idd [])::L) m):wp ((aL C (n+1)).E env (.dict [])) Q E g L m:=
 aE (y:=fun s=>s.new (.idd [])) (fun s U U=>rfl) (wp_new h)
theorem uY{kv:Nm×RE}{kvs:List (Nm×RE)}(h1:(kv::kvs).length<=15/\((kv::kvs).map (·.1)).Nodup)(h:∀ i,wp (bx ((aL C n).E env) ((kv::kvs).map (·.2))) (fun vs g L m=>Lk g L i (.idd [])/\∃ g' L',Up g L i (.sd (((kv::kvs).map (·.1)).zip vs)) g' L'/\Q (.obj i) g' L' m) E g ((i,.idd [])::L) m):wp ((aL C (n+1)).E env (.dict (kv::kvs))) Q E g L m:=by
 refine aE (y:=fun s=>(s.new (.idd [])).bind fun d s=>(bx ((aL C n).E env) ((kv::kvs).map (·.2)) s).bind fun vs s=>
   match d,kv::kvs,s.at d with
   | d,[],_=>.ok d s
   | .obj i,kvs,some (.idd [])=>.ok (.obj i) (s.set i (.sd ((kvs.map (·.1)).zip vs)))
   | _,_,_=>.bad) (fun s U U=>if_pos h1) ?_
 refine ay (wp_new fun i=>ay (wp_mono (h i) (fun vs g L m ⟨h2,g',L',hu,h3⟩=>?_) fun U U U h=>h));exact aE (y:=fun s=>.ok (.obj i) (s.set i (.sd (((kv::kvs).map (·.1)).zip vs)))) (fun s hs U=>by exact ac (bz hs h2 ..) rfl) (cj h2 hu h3)
theorem wQ{body:RE}{frees:List Nm}{cells:List (Nm×Nat)}{t:Nat}(h1:closeC env frees=some cells)(h2:env.tab=t+1)(h:∀ i,Q (.obj i) g ((i,.lam body cells)::L) m):wp ((aL C (n+1)).E env (.lam body frees)) Q E g L m:=
 aE (y:=fun s=>s.new (.lam body cells)) (fun s U U=>by show (match closeC env frees,env.tab with | some cells,_+1=>_ | _,_=>_)=_;exact ac h1 (ac h2 rfl)) (wp_new h)
theorem yF{e:RE}(he:(aL C (n+1)).T env e=fun s=>((aL C n).E env e s).bind fun v s=>fT v s)(h:wp ((aL C n).E env e) (fun v g L m=>∃ b,v=.bool b/\QB b g L m) E g L m):wp ((aL C (n+1)).T env e) QB E g L m:=by
 refine ac he ?_;exact ay (wp_mono h (fun U U U U z0_=>af z0_ fun b e h=>by subst e;exact aF h) fun U U U h=>h)
theorem vV{f:RE}{as:List RE}(h:wp ((aL C n).E env (.call f as)) (fun v g L m=>∃ b,v=.bool b/\QB b g L m) E g L m):wp ((aL C (n+1)).T env (.call f as)) QB E g L m:=yF rfl h
theorem xz{a:RE}(h:wp ((aL C n).T env a) (fun b g L m=>QB (!b) g L m) E g L m):wp ((aL C (n+1)).T env (.un .Not a)) QB E g L m:=ay (wp_mono h (fun U U U U h=>aF h) fun U U U h=>h)
theorem xy{op:BoolOp}{es:List RE}(h:wp (dP (aL C n) env op es) QB E g L m):wp ((aL C (n+1)).T env (.bop op es)) QB E g L m:=h
theorem ed{op:BoolOp}(h:QB (op==.And) g L m):wp (dP F env op []) QB E g L m:=aF h
theorem nl{e:RE}{es:List RE}(h:wp (F.T env e) (fun b g L m=>(b=true->wp (dP F env .And es) QB E g L m)/\(b=false->QB false g L m)) E g L m):wp (dP F env .And (e::es)) QB E g L m:=
 ay (wp_mono h (fun b U U U h=>by
  induction b with
  | true=>exact h.1 rfl
  | false=>exact aF (h.2 rfl)) fun U U U h=>h)
theorem lZ{e:RE}{es:List RE}(h:wp (F.T env e) (fun b g L m=>(b=false->wp (dP F env .Or es) QB E g L m)/\(b=true->QB true g L m)) E g L m):wp (dP F env .Or (e::es)) QB E g L m:=
 ay (wp_mono h (fun b U U U h=>by
  induction b with
  | false=>exact h.1 rfl
  | true=>exact aF (h.2 rfl)) fun U U U h=>h)
theorem uy{l:RE}{ops:List (CmpOp×RE)}(h:wp ((aL C n).E env l) (fun a g L m=>wp (chain (aL C n) env a ops) QB E g L m) E g L m):wp ((aL C (n+1)).T env (.cmp l ops)) QB E g L m:=ay h
theorem rq(h:N g L m):wpS ((aL C (n+1)).S env []) N R E g L m:=aF h
theorem tO{x:RS}{l:List RS}(h:wpS (step1 (aL C n) env x) (fun g L m=>wpS ((aL C (n+1)).S env l) N R E g L m) R E g L m):wpS ((aL C (n+1)).S env (x::l)) N R E g L m:=
 ay (wp_mono h (fun fl U U U h=>by
  induction fl with
  | next=>exact h
  | ret v=>exact aF h) fun U U U h=>h)
theorem wF{x:Nm}{v:AV}(h:QU () g L (st m x v)):wp (asgT F env (.one (.loc x)) v) QU E g L m:=fun s hs hm=>(aw g L hs (by refine ac (show (s.var x v).m=st s.m x v from rfl) (ac hm ?_);exact h))
theorem wE{x:Nm}{i:Nat}{v:AV}{o:Option AV}(e:lk env.cells x=some i)(h1:Lk g L i (.ce o))(hu:Up g L i (.ce (some v)) g' L')(h:QU () g' L' m):wp (asgT F env (.one (.cel x)) v) QU E g L m:=
 aE (y:=fun s=>.ok () (s.set i (.ce (some v)))) (fun s hs U=>by show iz env x v s=_;unfold iz;refine ac e ?_;dsimp only;exact ac (hat hs h1 ..) rfl) (cj h1 hu h)
theorem wG{ts:List RT1}{i:Nat}{vs:List AV}(h1:Lk g L i (.tu vs))(h2:ts.length=vs.length)(h:wp (asgL F env ts vs) QU E g L m):wp (asgT F env (.tup ts) (.obj i)) QU E g L m:=
 aE (y:=fun s=>asgL F env ts vs s) (fun s hs U=>by show iE F env ts s (s.at (.obj i))=_;refine ac (bz hs h1 ..) ?_;exact if_pos h2) h
theorem vK{e:RE}(h:wp (F.E env e) R E g L m):wpS (step1 F env (.ret e)) N R E g L m:=ay (wp_mono h (fun U U U U h=>aF h) fun U U U h=>h)
theorem rp{t:RE}{a b:List RS}(h:wp (F.T env t) (fun c g L m=>(c=true->wpS (F.S env a) N R E g L m)/\(c=false->wpS (F.S env b) N R E g L m)) E g L m):wpS (step1 F env (.ite t a b)) N R E g L m:=
 ay (wp_mono h (fun c U U U h=>by
  induction c with
  | true=>exact h.1 rfl
  | false=>exact h.2 rfl) fun U U U h=>h)
theorem tP{e:RE}(h:wp (F.E env e) (fun U g L m=>N g L m) E g L m):wpS (step1 F env (.expr e)) N R E g L m:=ay (wp_mono h (fun U U U U h=>aF h) fun U U U h=>h)
theorem ru{x:Nm}{c:Nat}(e:excTab x=some c)(h:E c g L):wpS (step1 F env (.raise x)) N R E g L m:=
 aE (y:=fun s=>.exc c s) (fun s U U=>by show (match excTab x with | some C=>_ | .none=>_)=_;exact ac e rfl) (v8 h)
theorem vN{body:List RS}{hs:List (Nm×Nm)}(h:wpS (F.S env body) N R (fun c g L=>∃ h,hs.find? (fun h=>decide (excTab h.1=some c))=some h/\∀ i m,R (.obj i) g ((i,.tu [.str h.2,.none])::L) m) g L m):wpS (step1 F env (.tryE body hs)) N R E g L m:=fun s hs' hm=>by
 have h1:=h s hs' hm
 have e:step1 F env (.tryE body hs) s=(match F.S env body s with
  | .exc C s=>(match hs.find? (fun h:Nm×Nm=>decide (excTab h.1=some C)) with
   | some h=>(s.new (.tu [.str h.2,.none])).bind fun v s=>.ok (.ret v) s
   | .none=>.bad)
  | r=>r:Res Flow):=rfl
 refine ac e ?_;generalize F.S env body s=r at h1 ⊢;induction r with
 | ok v s'=>exact h1
 | bad=>exact h1
 | exc c s'=>
  obtain ⟨g',L',h2,hd,h3,h4⟩:=h1
  dsimp only;refine ac h3 ?_;have h5:=ay (f:=fun v s=>(.ok (.ret v) s:Res Flow)) (Q:=fun fl g L m=>match fl with | .next=>N g L m | .ret v=>R v g L m) (E:=E) (wp_new (o:=.tu [.str hd.2,.none]) (g:=g') (L:=L') (m:=s'.m) fun i=>aF (h4 i s'.m)) s' h2 rfl;exact h5
inductive Sfx(L:Tm):Tm->Prop
 | refl:Sfx L L
 | cons {p:Nat×AO} {L':Tm}:Sfx L L'->Sfx L (p::L')
theorem Sfx.J{L L':Tm}{D:Hp}(h:Sfx L L')(hj:J g L' D):J g L D:=by
 induction h with
 | refl=>exact hj
 | cons _ ih=>exact ih hj.tail
theorem Hs.sfx{s:St}(h:Hs s g L')(hs:Sfx L L'):Hs s g L:=⟨hs.J h.1,h.2⟩
def bindL:List Nm->List AV->Vs->Option Vs
 | [],[],m=>some m
 | p::ps,v::vs,m=>bindL ps vs (st m p v)
 | _,_,_=>none
theorem g6:∀ {ps:List Nm} {vs:List AV} {m':Vs} {s:St},bindL ps vs s.m=some m'->bindsR [] ps vs s=.ok () { s with m:=m' }:=by
 intro l_
 induction l_ with
 | nil=>
  intro c1_ c2_ s h
  induction c1_ using List.casesOn with
  | nil=>
    obtain rfl:=Option.some.inj h;rfl
  | cons y1_ y2_=>
    exact aA h
 | cons p ps ih_=>
  intro c1_ m' s h
  induction c1_ using List.casesOn with
  | nil=>
    exact aA h
  | cons v vs=>
    exact ih_ (s:=s.var p v) h
theorem Hs.vars{s:St}{m':Vs}(h:Hs s g L):Hs { s with m:=m' } g L:=⟨h.1,h.2⟩
theorem oq{F:Fns}{env:AEnv}{body:List RS}{m m':Vs}(h:wpS (F.S env body) (fun g' L' U=>Sfx L L'/\Q .none g' L m) (fun v g' L' U=>Sfx L L'/\Q v g' L m) (fun C g' L'=>Sfx L L'/\E C g' L) g L' m') :
  wp (fun s=>back m (dO (F.S env body s))) Q E g L' m':=fun s hs hm=>by
 have h1:=h s hs hm
 have key:(fun s=>back m (dO (F.S env body s))) s=back m (dO (F.S env body s)):=rfl
 refine ac key ?_;generalize F.S env body s=r at h1 ⊢;induction r with
 | bad=>exact h1
 | exc c s'=>refine ai h1 fun g' L' h2 h3 h4=>?_;clear h1;exact(aw g' L ((h2.sfx h3).vars) h4)
 | ok fl s'=>
  refine aI h1 fun g' L' h2 h3=>?_;clear h1;induction fl with
  | next=>exact(aw g' L ((h2.sfx h3.1).vars) h3.2)
  | ret v=>exact(aw g' L ((h2.sfx h3.1).vars) h3.2)
theorem yx{T:Nat->Option FI}{k a tab:Nat}{ps:List Nm}{body:List RS}{args:List AV}{m m':Vs}(ht:T a=some ⟨ps,[],tab,body⟩)(hi:bW a=none)(hb:bindL ps args []=some m')
  (h:wpS ((aL (lvl T k) 60).S ⟨[],tab⟩ body) (fun g' L' U=>Sfx L L'/\Q .none g' L m) (fun v g' L' U=>Sfx L L'/\Q v g' L m) (fun C g' L'=>Sfx L L'/\E C g' L) g L m'):wp (lvl T (k+1) (.base a) args) Q E g L m:=by
 intro s hs hm
 have e:lvl T (k+1) (.base a) args s=back m (dO ((aL (lvl T k) 60).S ⟨[],tab⟩ body { s with m:=m' })):=by
  refine ac (fH hi ht ..) ?_;show back s.m ((bindsR [] ps args { s with m:=[] }).bind fun U s=>_)=_;refine ac (g6 (s:={ s with m:=[] }) hb ..) (ac hm ?_);rfl
 refine ac e ?_;exact oq h _ hs.vars rfl
theorem jT{T:Nat->Option FI}{k a i tab:Nat}{ps:List Nm}{body:List RS}{args:List AV}{m:Vs}(hi:bW a=some i)(ht:T i=some ⟨ps,[],tab,body⟩)
  (h:∀ d o,∃ m',bindL ps (.obj o::args) []=some m'/\wpS ((aL (lvl T k) 60).S ⟨[],tab⟩ body) (fun g' L' U=>Sfx L L'/\Q (.obj o) g' L' m) (fun v g' L' U=>v=.none/\Q (.obj o) g' L' m) (fun C g' L'=>Sfx L L'/\E C g' L) g ((o,.inst a d)::(d,.sd [])::L) m'):wp (lvl T (k+1) (.base a) args) Q E g L m:=by
 intro s hs hm
 refine af (h s.n (s.n+1)) fun m' hb h=>?_;have e:lvl T (k+1) (.base a) args s=(back m (dO ((aL (lvl T k) 60).S ⟨[],tab⟩ body { ((s.push (.sd [])).push (.inst a s.n)) with m:=m' }))).bind (made (s.n+1)):=by
  refine ac (jX hi ht ..) ?_;show (back s.m ((bindsR [] ps (.obj (s.n+1)::args) { ((s.push (.sd [])).push (.inst a s.n)) with m:=[] }).bind fun U s=>_)).bind _=_;refine ac (g6 (s:={ ((s.push (.sd [])).push (.inst a s.n)) with m:=[] }) hb ..) (ac hm ?_);rfl
 refine ac e ?_;have h1:J g ((s.n,.sd [])::L) (s.push (.sd [])).H:=hs.1.alloc (hs.2 _ (Nat.le_refl _));have h2:Hs (s.push (.sd [])) g ((s.n,.sd [])::L):=⟨h1,fun j hj=>by
  have hj:s.n+1<=j:=hj
  show (if j=s.n then _ else s.H j)=none;refine ac (if_neg (by lia) ..) ?_;exact hs.2 _ (by lia)⟩
 have h3:J g ((s.n+1,.inst a s.n)::(s.n,.sd [])::L) ((s.push (.sd [])).push (.inst a s.n)).H:=h2.1.alloc (h2.2 _ (Nat.le_refl _))
 have h4:Hs ((s.push (.sd [])).push (.inst a s.n)) g ((s.n+1,.inst a s.n)::(s.n,.sd [])::L):=⟨h3,fun j hj=>by
  have hj:s.n+2<=j:=hj
  show (if j=s.n+1 then _ else if j=s.n then _ else s.H j)=none;refine ac (if_neg (by lia) ..) (ac (if_neg (by lia) ..) ?_);exact hs.2 _ (by lia)⟩
 have h5:=h { ((s.push (.sd [])).push (.inst a s.n)) with m:=m' } h4.vars rfl
 generalize (aL (lvl T k) 60).S ⟨[],tab⟩ body { ((s.push (.sd [])).push (.inst a s.n)) with m:=m' }=r at h5 ⊢
 induction r with
 | bad=>exact h5
 | exc c s'=>refine ai h5 fun g' L' h6 h7 h8=>?_;clear h5;exact(aw g' L ((h6.sfx h7).vars) h8)
 | ok fl s'=>
  refine aI h5 fun g' L' h6 h7=>?_;clear h5;induction fl with
  | next=>exact(aw g' L' h6.vars h7.2)
  | ret v=>refine aq h7 fun z0 h8=>?_;clear h7;subst z0;exact(aw g' L' h6.vars h8)
theorem w0{T:Nat->Option FI}{k i:Nat}{body:RE}{cells:List (Nm×Nat)}(h1:Lk g L i (.lam body cells))(h:wp ((aL (lvl T k) 60).E ⟨cells,0⟩ body) (fun v g' L' U=>Sfx L L'/\Q v g' L m) (fun C g' L'=>Sfx L L'/\E C g' L) g L []):wp (lvl T (k+1) (.obj i) []) Q E g L m:=by
 intro s hs hm
 have e:lvl T (k+1) (.obj i) [] s=back m ((aL (lvl T k) 60).E ⟨cells,0⟩ body { s with m:=[] }):=by
  refine ac (fI (hat hs h1) ..) ?_;show back s.m _=_;exact ac (hm ..) rfl
 refine ac e ?_;have h2:=h { s with m:=[] } hs.vars rfl;generalize (aL (lvl T k) 60).E ⟨cells,0⟩ body { s with m:=[] }=r at h2 ⊢;induction r with
 | bad=>exact h2
 | exc c s'=>refine ai h2 fun g' L' h3 h4 h5=>?_;clear h2;exact(aw g' L ((h3.sfx h4).vars) h5)
 | ok v s'=>refine ai h2 fun g' L' h3 h4 h5=>?_;clear h2;exact(aw g' L ((h3.sfx h4).vars) h5)
end
end Mine.Lake
end
section
set_option backward.match.sparseCases false
open PySem
namespace Mine.Lake
section
variable {C:b9}{F:Fns}{n:Nat}{env:AEnv}{E:Nat->G->Tm->Prop}{g g':G}{L L':Tm}{m:Vs}{Q:AV->G->Tm->Vs->Prop}{N:G->Tm->Vs->Prop}{R:AV->G->Tm->Vs->Prop}{body:List AV->St->Res Flow}
abbrev o_:Nat->G->Tm->Prop:=fun U U U=>False
theorem mK{k:Itk}{f j:Nat}(h1:∀ s,Hs s g L->ga k j s=.ok none s)(h:N g L m):wpS (loopR k body (f+1) j) N R E g L m:=
 aE (y:=fun s=>.ok .next s) (fun s hs U=>by show (ga k j s).bind _=_;refine ac (h1 s hs ..) ?_;rfl) (aF h)
theorem fG{k:Itk}{f j:Nat}{vs:List AV}(h1:∀ s,Hs s g L->ga k j s=.ok (some vs) s)(h:wpS (body vs) (fun g L m=>wpS (loopR k body f (j+1)) N R E g L m) R o_ g L m):wpS (loopR k body (f+1) j) N R E g L m:=by
 intro s hs hm
 have e:loopR k body (f+1) j s=r7 (loopR k body f (j+1)) (body vs s):=by
  show (ga k j s).bind _=_;refine ac (h1 s hs ..) ?_;rfl
 refine ac e ?_;have h2:=h s hs hm;generalize body vs s=r at h2 ⊢;induction r with
 | bad=>exact h2
 | exc c s'=>refine aI h2 fun U U U h3=>?_;clear h2;exact h3.elim
 | ok fl s'=>
  refine aI h2 fun g' L' h3 h4=>?_;clear h2;induction fl with
  | next=>exact h4 s' h3 rfl
  | ret v=>exact(aw g' L' h3 h4)
theorem jW{k:Itk}{len:Nat}{vs:Nat->List AV}(I:Nat->G->Tm->Vs->Prop)(hs:∀ j g L m,j<len->I j g L m->∀ s,Hs s g L->ga k j s=.ok (some (vs j)) s)(he:∀ g L m,I len g L m->∀ s,Hs s g L->ga k len s=.ok none s)
  (hb:∀ j g L m,j<len->I j g L m->wpS (body (vs j)) (I (j+1)) R o_ g L m)(hN:∀ g L m,I len g L m->N g L m):    ∀ (f j:Nat) {g:G} {L:Tm} {m:Vs},I j g L m->j<=len->len - j<f->wpS (loopR k body f j) N R E g L m:=by
 intro l_
 induction l_ with
 | zero=>
  intro j g L m c5_ c6_ h
  exact absurd h (Nat.not_lt_zero _)
 | succ f ih_=>
  intro j g L m hI hj hf
  by_cases q:j=len
  ·subst q;exact mK (he g L m hI) (hN g L m hI)
  ·have hlt:j<len:=by lia
   refine fG (hs j g L m hlt hI) (wp_mono (hb j g L m hlt hI) (fun fl g L m h=>?_) fun U U U h=>h);induction fl with
   | next=>exact ih_ (j+1) h (by lia) (by lia)
   | ret v=>exact h
theorem nU{i j:Nat}{l:List AV}(h:Lk g L i (.li l)){s:St}(hs:Hs s g L):ga (.list i) j s=.ok (l[j]?.map fun v=>[v]) s:=by dsimp only [ga,onLi,onFrz];exact ac (hat hs h ..) rfl
theorem nS{i j:Nat}{l:List AV}(h:Lk g L i (.li l)){s:St}(hs:Hs s g L):ga (.enum i) j s=.ok (l[j]?.map fun v=>[.int j,v]) s:=by dsimp only [ga,onLi,onFrz];exact ac (hat hs h ..) rfl
theorem nT{i j:Nat}{l:List (Int×AV)}(h:Lk g L i (.frz l)){s:St}(hs:Hs s g L):ga (.keys i) j s=.ok (l[j]?.map fun v=>[.int v.1]) s:=by dsimp only [ga,onLi,onFrz];exact ac (hat hs h ..) rfl
theorem cX{i:Nat}{l:List AV}{f:Nat}(I:Nat->G->Tm->Vs->Prop)(hl:∀ j g L m,I j g L m->Lk g L i (.li l))(hb:∀ j v g L m,l[j]?=some v->I j g L m->wpS (body [v]) (I (j+1)) R o_ g L m)(hN:∀ g L m,I l.length g L m->N g L m)
  (h0:I 0 g L m)(hf:l.length<f):wpS (loopR (.list i) body f 0) N R E g L m:=by
 have key:∀ j,j<l.length->∃ v,l[j]?=some v:=fun j hj=>⟨l[j],List.getElem?_eq_getElem hj⟩
 refine jW (vs:=fun j=>[(l[j]?).getD .none]) I (fun j g L m hj hI s hs=>?_) (fun g L m hI s hs=>?_) (fun j g L m hj hI=>?_) hN f 0 h0 (Nat.zero_le _) (by omega)
 ·refine aj (key j hj) fun v hv=>?_;refine ac (nU (hl j g L m hI) hs ..) (ac hv ?_);rfl
 ·refine ac (nU (hl _ g L m hI) hs ..) (ac (List.getElem?_eq_none (Nat.le_refl _) ..) ?_);rfl
 ·refine aj (key j hj) fun v hv=>?_;refine ac hv ?_;exact hb j v g L m hv hI
theorem nO{i:Nat}{l:List AV}{f:Nat}(I:Nat->G->Tm->Vs->Prop)(hl:∀ j g L m,I j g L m->Lk g L i (.li l))(hb:∀ j v g L m,l[j]?=some v->I j g L m->wpS (body [.int j,v]) (I (j+1)) R o_ g L m)(hN:∀ g L m,I l.length g L m->N g L m)
  (h0:I 0 g L m)(hf:l.length<f):wpS (loopR (.enum i) body f 0) N R E g L m:=by
 have key:∀ j,j<l.length->∃ v,l[j]?=some v:=fun j hj=>⟨l[j],List.getElem?_eq_getElem hj⟩
 refine jW (vs:=fun j=>[.int j,(l[j]?).getD .none]) I (fun j g L m hj hI s hs=>?_) (fun g L m hI s hs=>?_) (fun j g L m hj hI=>?_) hN f 0 h0 (Nat.zero_le _) (by omega)
 ·refine aj (key j hj) fun v hv=>?_;refine ac (nS (hl j g L m hI) hs ..) (ac hv ?_);rfl
 ·refine ac (nS (hl _ g L m hI) hs ..) (ac (List.getElem?_eq_none (Nat.le_refl _) ..) ?_);rfl
 ·refine aj (key j hj) fun v hv=>?_;refine ac hv ?_;exact hb j v g L m hv hI
theorem fF{len f:Nat}(I:Nat->G->Tm->Vs->Prop)(hb:∀ j g L m,j<len->I j g L m->wpS (body [.int j]) (I (j+1)) R o_ g L m)(hN:∀ g L m,I len g L m->N g L m)
  (h0:I 0 g L m)(hf:len<f):wpS (loopR (.range len) body f 0) N R E g L m:=
 jW (vs:=fun j=>[.int j]) I (fun j g L m hj hI s hs=>by show Res.ok (if j<len then _ else _) s=_;exact ac (if_pos hj ..) rfl) (fun g L m hI s hs=>by show Res.ok (if len<len then _ else _) s=_;rw [if_neg (Nat.lt_irrefl _)]) hb hN f 0 h0 (Nat.zero_le _) (by omega)
theorem nP{i:Nat}{l:List (Int×AV)}{f:Nat}(I:Nat->G->Tm->Vs->Prop)(hl:∀ j g L m,I j g L m->Lk g L i (.frz l))(hb:∀ j v g L m,l[j]?=some v->I j g L m->wpS (body [.int v.1]) (I (j+1)) R o_ g L m)(hN:∀ g L m,I l.length g L m->N g L m)
  (h0:I 0 g L m)(hf:l.length<f):wpS (loopR (.keys i) body f 0) N R E g L m:=by
 have key:∀ j,j<l.length->∃ v,l[j]?=some v:=fun j hj=>⟨l[j],List.getElem?_eq_getElem hj⟩
 refine jW (vs:=fun j=>[.int ((l[j]?).getD (0,.none)).1]) I (fun j g L m hj hI s hs=>?_) (fun g L m hI s hs=>?_) (fun j g L m hj hI=>?_) hN f 0 h0 (Nat.zero_le _) (by omega)
 ·refine aj (key j hj) fun v hv=>?_;refine ac (nT (hl j g L m hI) hs ..) (ac hv ?_);rfl
 ·refine ac (nT (hl _ g L m hI) hs ..) (ac (List.getElem?_eq_none (Nat.le_refl _) ..) ?_);rfl
 ·refine aj (key j hj) fun v hv=>?_;refine ac hv ?_;exact hb j v g L m hv hI
theorem nM{i:Nat}{l:List (Int×AV)}{g1:G}{L1:Tm}(h1:Lk g L i (.idd l))(hu:Up g L i (.frz l) g1 L1)
  (h:wpS (loopR (.keys i) body 100 0) (fun g' L' m=>∃ l' g2 L2,Lk g' L' i (.frz l')/\Up g' L' i (.idd l') g2 L2/\N g2 L2 m) (fun v g' L' m=>∃ l' g2 L2,Lk g' L' i (.frz l')/\Up g' L' i (.idd l') g2 L2/\R v g2 L2 m) o_ g1 L1 m):wpS (loopK (.keys i) body) N R E g L m:=by
 intro s hs hm
 have e:loopK (.keys i) body s=(match loopR (.keys i) body 100 0 (s.set i (.frz l)) with
   | .ok fl s=>(match s.H i with | some (.frz l)=>.ok fl (s.set i (.idd l)) | _=>.bad)
   | _=>.bad):=by
  unfold loopK;dsimp only;refine ac (hat hs h1 ..) ?_;first | done | rfl
 refine ac e ?_;have h2:=h (s.set i (.frz l)) (hs.set h1 hu) hm;generalize loopR (.keys i) body 100 0 (s.set i (.frz l))=r at h2 ⊢;induction r with
 | bad=>exact h2
 | exc c s'=>refine aI h2 fun U U U h3=>?_;clear h2;exact h3.elim
 | ok fl s'=>
  refine aI h2 fun g' L' h3 h4=>?_;clear h2;induction fl with
  | next=>
   refine ar h4 fun l' g2 L2 q1 q2 q3=>?_;clear h4;dsimp only;refine ac (hat h3 q1 ..) ?_;exact(aw g2 L2 (h3.set q1 q2) q3)
  | ret v=>
   refine ar h4 fun l' g2 L2 q1 q2 q3=>?_;clear h4;dsimp only;refine ac (hat h3 q1 ..) ?_;exact(aw g2 L2 (h3.set q1 q2) q3)
theorem vF{t:RT}{kind:Nat}{iter:RE}{bd:List RS}(h:wp (F.E env iter) (fun v g L m=>∃ kI,(∀ s,Hs s g L->itkOf kind v s=some kI)/\wpS (loopK kI (fun vs s=>(dT F env t vs s).bind fun U s=>F.S env bd s)) N R E g L m) E g L m):wpS (step1 F env (.for t kind iter bd)) N R E g L m:=
 ay (wp_mono h (fun v g L m z0_=>af z0_ fun kI h1 h2=>aE (y:=loopK kI (fun vs s=>(dT F env t vs s).bind fun U s=>F.S env bd s)) (fun s hs U=>by exact ac (h1 s hs ..) rfl) h2) fun U U U h=>h)
theorem cM{i:Nat}{l:List AV}(h:Lk g L i (.li l)):∀ s,Hs s g L->itkOf 0 (.obj i) s=some (.list i):=fun s hs=>by dsimp only [itkOf];refine ac (hat hs h ..) ?_;rfl
theorem nJ{i:Nat}{l:List (Int×AV)}(h:Lk g L i (.idd l)):∀ s,Hs s g L->itkOf 0 (.obj i) s=some (.keys i):=fun s hs=>by dsimp only [itkOf];refine ac (hat hs h ..) ?_;rfl
theorem nI{i:Nat}{l:List AV}(h:Lk g L i (.li l)):∀ s,Hs s g L->itkOf 2 (.obj i) s=some (.enum i):=fun s hs=>by dsimp only [itkOf];refine ac (hat hs h ..) ?_;rfl
theorem dZ{i:Int}(h:0<=i/\i<1000):∀ s,Hs s g L->itkOf 1 (.int i) s=some (.range i.toNat):=fun s hs=>by
 exact if_pos h
theorem vc{b:List UInt8}(h:b.length<=1000):∀ s,Hs s g L->itkOf 3 (.bytes b) s=some (.rev b):=fun s hs=>by
 exact if_pos (aO h)
theorem eR{x:Nm}{v:AV}{bd:List RS}(h:wpS (F.S env bd) N R E g L (st m x v)):wpS (fun s=>(dT F env (.one (.loc x)) [v] s).bind fun U s=>F.S env bd s) N R E g L m:=
 fun s hs hm=>h (s.var x v) hs.vars (by show st s.m x v=_;exact ac hm rfl)
theorem qN{x y:Nm}{u v:AV}{bd:List RS}(h:wpS (F.S env bd) N R E g L (st (st m x u) y v)):wpS (fun s=>(dT F env (.tup [.loc x,.loc y]) [u,v] s).bind fun U s=>F.S env bd s) N R E g L m:=
 fun s hs hm=>h ((s.var x u).var y v) hs.vars (by show st (st s.m x u) y v=_;exact ac hm rfl)
def cB(F:Fns)(env:AEnv)(x:Nm)(ifs:List RE)(elt:RE)(i:Nat):List AV->St->Res Flow:=fun vs s=>(asgL F env [.loc x] vs s).bind fun U s=>(dP F env .And ifs s).bind fun b s=>
     if b then (F.E env elt s).bind fun v s=>apB i v s
     else .ok .next s
theorem sN{x:Nm}{ifs:List RE}{elt:RE}{i:Nat}{v:AV}(h:wp (dP F env .And ifs) (fun b g L m=>(b=true->wp (F.E env elt) (fun v g L m=>∃ l g' L',Lk g L i (.li l)/\l.length<1000/\Up g L i (.li (l++[v])) g' L'/\N g' L' m) E g L m)/\(b=false->N g L m)) E g L (st m x v)):wpS (cB F env x ifs elt i [v]) N R E g L m:=by
 suffices hh:wpS (fun s=>(dP F env .And ifs s).bind fun b s=>
     if b then (F.E env elt s).bind fun v s=>apB i v s
     else .ok .next s) N R E g L (st m x v) from fun s hs hm=>hh (s.var x v) hs.vars (by show st s.m x v=_;exact ac hm rfl)
 refine ay (wp_mono h (fun b g L m h=>?_) fun U U U h=>h);induction b with
 | false=>exact aF (h.2 rfl)
 | true=>
  refine ay (f:=fun v s=>(apB i v s:Res Flow)) (wp_mono (h.1 rfl) (fun v g L m z0_=>aK z0_ fun l g' L' h1 h2 h3 h4=>?_) fun U U U h=>h);exact aE (y:=fun s=>.ok .next (s.set i (.li (l++[v])))) (fun s hs U=>by show fK (s.H i) _ _=_;refine ac (hat hs h1 ..) ?_;exact if_pos h2) (cj h1 h3 h4)
theorem cT{elt:RE}{x:Nm}{kind:Nat}{iter:RE}{ifs:List RE}{frees:List Nm}
  (h:wp ((aL C n).E env iter) (fun v g L m=>∃ kI cells,(∀ s,Hs s g L->itkOf kind v s=some kI)/\closeC env frees=some cells/\∀ acc,wpS (loopK kI (cB (aL C n) ⟨cells,env.tab⟩ x ifs elt acc)) (fun g' L' U=>Q (.obj acc) g' L' m) (fun U U U U=>False) o_ g ((acc,.li [])::L) []) E g L m):wp ((aL C (n+1)).E env (.comp elt x kind iter ifs frees)) Q E g L m:=by
 refine ay (wp_mono h (fun v g L m z0_=>ai z0_ fun kI cells h1 h2 h3=>?_) fun U U U h=>h);refine aE (y:=fun s=>(s.new (.li [])).bind fun (acc:AV) (s:St)=>(match acc with
   | .obj i=>(loopK kI (cB (aL C n) ⟨cells,env.tab⟩ x ifs elt i) { s with m:=[] }).bind fun (fl:Flow) (s':St)=>(match fl with | .next=>.ok (.obj i) { s' with m:=s.m } | .ret _=>.bad:Res AV)
   | _=>.bad:Res AV)) (fun s hs U=>by refine ac (h1 s hs ..) (ac h2 ?_);rfl) ?_
 refine ay (wp_new fun acc=>?_);intro s hs hm;have h4:=h3 acc { s with m:=[] } hs.vars rfl;dsimp only;generalize loopK kI (cB (aL C n) ⟨cells,env.tab⟩ x ifs elt acc) { s with m:=[] }=r at h4 ⊢;induction r with
 | bad=>exact h4
 | exc c s'=>refine aI h4 fun U U U h5=>?_;clear h4;exact h5.elim
 | ok fl s'=>
  refine aI h4 fun g' L' h5 h6=>?_;clear h4;induction fl with
  | next=>exact(aw g' L' h5.vars (by refine ac hm ?_;exact h6))
  | ret v=>exact h6.elim
def cellsP:List Nm->List (Nm×Nat)->Tm->(List (Nm×Nat)->Tm->Prop)->Prop
 | [],cs,L,K=>K cs L
 | x::l,cs,L,K=>∀ i,cellsP l ((x,i)::cs) ((i,.ce none)::L) K
def bindP(g:G)(cs:List (Nm×Nat)):List Nm->List AV->Tm->Vs->(Tm->Vs->Prop)->Prop
 | [],[],L,m,K=>K L m
 | p::ps,v::vs,L,m,K=>fK (lk cs p) (fun i=>∃ o L',Lk g L i (.ce o)/\Up g L i (.ce (some v)) g L'/\bindP g cs ps vs L' m K) (bindP g cs ps vs L (st m p v) K)
 | _,_,_,_,_=>False
theorem oR:∀ {xs:List Nm} {cs:List (Nm×Nat)} {L:Tm} {K:List (Nm×Nat)->Tm->Prop} {s:St},cellsP xs cs L K->Hs s g L->∃ L',Hs (aR xs cs s).2 g L'/\K (aR xs cs s).1 L'/\(aR xs cs s).2.m=s.m:=by
 intro l_
 induction l_ with
 | nil=>
  intro cs L K s h hs
  exact(aH L hs h rfl)
 | cons x xs ih_=>
  intro cs L K s h hs
  have h2:Hs (s.push (.ce none)) g ((s.n,.ce none)::L):=⟨hs.1.alloc (hs.2 _ (Nat.le_refl _)),fun j hj=>by
   have hj:s.n+1<=j:=hj
   show (if j=s.n then _ else s.H j)=none;refine ac (if_neg (by lia) ..) ?_;exact hs.2 _ (by lia)⟩
  exact ih_ (h s.n) h2
theorem pO{cs:List (Nm×Nat)}:∀ {ps:List Nm} {vs:List AV} {L:Tm} {m:Vs} {K:Tm->Vs->Prop} {s:St},bindP g cs ps vs L m K->Hs s g L->s.m=m->∃ s',bindsR cs ps vs s=.ok () s'/\∃ L',Hs s' g L'/\K L' s'.m:=by
 intro l_
 induction l_ with
 | nil=>
  intro c1_ L m K s h hs hm
  induction c1_ using List.casesOn with
  | nil=>
    exact⟨s,rfl,L,hs,by refine ac hm ?_;exact h⟩
  | cons y1_ y2_=>
    exact h.elim
 | cons p ps ih_=>
  intro c1_ L m K s h hs hm
  induction c1_ using List.casesOn with
  | nil=>
    exact h.elim
  | cons v vs=>
    have h:fK (lk cs p) (fun i=>∃ o L',Lk g L i (.ce o)/\Up g L i (.ce (some v)) g L'/\bindP g cs ps vs L' m K) (bindP g cs ps vs L (st m p v) K):=h
    show ∃ s',((match lk cs p with | some i=>.ok () (s.set i (.ce (some v))) | .none=>.ok () (s.var p v):Res Unit).bind fun U s=>bindsR cs ps vs s)=.ok () s'/\_;induction e:lk cs p with
    | none=>
     rw [e] at h;exact ih_ (s:=s.var p v) h hs.vars (by show st s.m p v=_;exact ac hm rfl)
    | some i=>
     rw [e] at h;refine ai h fun o L' h1 h2 h3=>?_;clear h;exact ih_ (s:=s.set i (.ce (some v))) h3 (hs.set h1 h2) hm
theorem ur{T:Nat->Option FI}{k a tab:Nat}{ps xs:List Nm}{body:List RS}{args:List AV}{m:Vs}(ht:T a=some ⟨ps,xs,tab,body⟩)(hi:bW a=none)
  (h:cellsP xs [] L fun cs L1=>bindP g cs ps args L1 [] fun L2 m'=>wpS ((aL (lvl T k) 60).S ⟨cs,tab⟩ body) (fun g' L' U=>Sfx L L'/\Q .none g' L m) (fun v g' L' U=>Sfx L L'/\Q v g' L m) (fun C g' L'=>Sfx L L'/\E C g' L) g L2 m'):wp (lvl T (k+1) (.base a) args) Q E g L m:=by
 intro s hs hm
 refine az (oR (s:={ s with m:=[] }) h hs.vars) fun L1 h1 h2 h3=>?_;obtain ⟨s',e1,L2,h4,h5⟩:=pO h2 h1 (by exact ac h3 rfl);have e:lvl T (k+1) (.base a) args s=back m (dO ((aL (lvl T k) 60).S ⟨(aR xs [] { s with m:=[] }).1,tab⟩ body s')):=by
  refine ac (fH hi ht ..) ?_;show back s.m ((bindsR (aR xs [] { s with m:=[] }).1 ps args (aR xs [] { s with m:=[] }).2).bind fun U s=>_)=_;refine ac e1 (ac hm ?_);rfl
 refine ac e ?_;exact oq h5 _ h4 rfl
end
section
variable {g:G}{L:Tm}
theorem Lk.pool(hl:g.live=true):Lk g L g.p.i (.li [.int g.p.w,.int g.p.k]):=Lk.of .pool (aC hl)
theorem Lk.world(hl:g.live=true):Lk g L g.w.i (.sd (ch g.w)):=Lk.of .world (aC hl)
theorem Lk.wd(hl:g.live=true):Lk g L g.w.iwd (.li (g.w.ds.map fun p=>.obj p.1)):=Lk.of .wd (aC hl)
theorem Lk.wr(hl:g.live=true):Lk g L g.w.iwr (.li (g.w.row.map .int)):=Lk.of .wr (aC hl)
theorem Lk.wo(hl:g.live=true):Lk g L g.w.iwo (.idd (aZ (fun p=>.obj p.1) g.w.oct)):=Lk.of .wo (aC hl)
theorem Lk.wh(hl:g.live=true):Lk g L g.w.iwh (.idd (aZ .int g.w.held)):=Lk.of .wh (aC hl)
theorem Lk.wp(hl:g.live=true):Lk g L g.w.iwp (.idd (aZ .int g.w.pins)):=Lk.of .wp (aC hl)
theorem Lk.wk(hl:g.live=true)(hf:g.w.kfz=false):Lk g L g.w.iwk (.idd (aZ .obj g.w.kept)):=Lk.of .wk (b_ hl (by show some (_,ite _ _ _)=_;rw [hf];rfl))
theorem Lk.wkf(hl:g.live=true)(hf:g.w.kfz=true):Lk g L g.w.iwk (.frz (aZ .obj g.w.kept)):=Lk.of .wk (b_ hl (by show some (_,ite _ _ _)=_;rw [hf];rfl))
theorem Lk.ol(hl:g.live=true):Lk g L g.w.iol (.li (g.w.old.map .obj)):=Lk.of .ol (aC hl)
theorem Lk.dI(hl:g.live=true):Lk g L g.k.i (.inst 402 g.k.d):=Lk.of .dI (aC hl)
theorem Lk.dD(hl:g.live=true):Lk g L g.k.d (.sd (iX g.k)):=Lk.of .dD (aC hl)
theorem Lk.lat(hl:g.live=true):Lk g L g.k.ilat (.idd (aZ .bytes g.k.lat)):=Lk.of .lat (aC hl)
theorem Lk.unf(hl:g.live=true):Lk g L g.k.iun (.li g.k.unf):=Lk.of .unf (aC hl)
theorem Lk.cI(hl:g.live=true):Lk g L g.c.i (.inst 304 g.c.d):=Lk.of .cI (aC hl)
theorem Lk.cD(hl:g.live=true):Lk g L g.c.d (.sd (dh g.k g.c)):=Lk.of .cD (aC hl)
theorem Lk.cr(hl:g.live=true):Lk g L g.c.icr (.li (g.c.row.map .obj)):=Lk.of .cr (aC hl)
theorem Lk.cb(hl:g.live=true):Lk g L g.c.icb (.idd (aZ .obj g.c.by_)):=Lk.of .cb (aC hl)
theorem Lk.oc{x:Int}{i:Nat}{l:List Int}(hl:g.live=true)(h:lk g.w.oct x=some (i,l)):Lk g L i (.li (l.map .int)):=Lk.of (.oc x) (b_ hl (lW h))
theorem Lk.ds{j i:Nat}{l:List Int}(hl:g.live=true)(h:g.w.ds[j]?=some (i,l)):Lk g L i (.li (l.map .int)):=Lk.of (.ds j) (b_ hl (lW h))
theorem Lk.bI{i:Nat}{u:Bu}(hl:g.live=true)(h:lk g.b i=some u):Lk g L i (.inst 189 u.d):=Lk.of (.bI i) (b_ hl (lW h))
theorem Lk.bD{i:Nat}{u:Bu}(hl:g.live=true)(h:lk g.b i=some u):Lk g L u.d (.sd (dC u)):=Lk.of (.bD i) (b_ hl (lW h))
theorem Lk.bA{i:Nat}{u:Bu}(hl:g.live=true)(h:lk g.b i=some u):Lk g L u.a (.ba u.oct):=Lk.of (.bA i) (b_ hl (lW h))
end
section
variable {α β γ:Type}[DecidableEq α]
theorem bp(f:β->γ):∀ (l:List (α×β)) (x:α),lk (aZ f l) x=(lk l x).map f:=by
 intro l_
 induction l_ with
 | nil=>
  intro c1_
  exact rfl
 | cons p_ l ih_=>
  intro x
  obtain ⟨a,b⟩:=p_
  show (if a=x then some (f b) else lk (aZ f l) x)=_;simp only [br,aP];split
  ·rfl
  ·exact ih_ x
theorem df(f:β->γ):∀ (l:List (α×β)) (x:α) (v:β),st (aZ f l) x (f v)=aZ f (st l x v):=by
 intro l_
 induction l_ with
 | nil=>
  intro c1_ c2_
  exact rfl
 | cons p_ l ih_=>
  intro x v
  obtain ⟨a,b⟩:=p_
  show (if a=x then (a,f v)::aZ f l else (a,f b)::st (aZ f l) x (f v))=_;simp only [b8,bE];split
  ·rfl
  ·refine ac (ih_ x v ..) ?_;rfl
theorem ka(f:β->γ):∀ (l:List (α×β)) (x:α),rm (aZ f l) x=aZ f (rm l x):=by
 intro l_
 induction l_ with
 | nil=>
  intro c1_
  exact rfl
 | cons p_ l ih_=>
  intro x
  obtain ⟨a,b⟩:=p_
  show (if a=x then aZ f l else (a,f b)::rm (aZ f l) x)=_;simp only [eU,dK];split
  ·rfl
  ·refine ac (ih_ x ..) ?_;rfl
theorem bh(f:β->γ)(l:List (α×β)):(aZ f l).length=l.length:=by simp [aZ]
end
theorem bP{α β:Type}[DecidableEq α]{l:List (α×β)}{x:α}{v:β}:lk (st l x v) x=some v:=by rw [bw,if_pos rfl]
theorem lk_st_nq{α β:Type}[DecidableEq α]{l:List (α×β)}{x y:α}{v:β}(h:x≠y):lk (st l x v) y=lk l y:=by rw [bw,if_neg h]
theorem km{α β γ:Type}[DecidableEq α]{l:List (α×β)}{x y:α}{u v:β}{f:β->γ}(h:lk l x=some u)(e:f v=f u):(lk (st l x v) y).map f=(lk l y).map f:=by
 by_cases q:x=y
 ·subst q;exact ac (bP ..) (ac (h ..) (congrArg some e))
 ·exact ac (lk_st_nq q ..) rfl
section
variable {g:G}{L:Tm}
theorem Up.pool(hl:g.live=true)(w k:Int):Up g L g.p.i (.li [.int w,.int k]) { g with p:={ g.p with w:=w,k:=k } } L:=
 Up.of .pool (o:=.li [.int g.p.w,.int g.p.k]) (aC hl) (aC hl) fun r hr=>by induction r <;> first | rfl | exact absurd rfl hr
theorem Up.met(hl:g.live=true)(v:Int):Up g L g.w.i (.sd (st (ch g.w) .met (.int v))) { g with w:={ g.w with met:=v } } L:=
 Up.of .world (aC hl) (aC hl) fun r hr=>by induction r <;> first | rfl | exact absurd rfl hr
theorem Up.seen(hl:g.live=true)(v:Int):Up g L g.w.i (.sd (st (ch g.w) .seen (.int v))) { g with w:={ g.w with seen:=v } } L:=
 Up.of .world (aC hl) (aC hl) fun r hr=>by induction r <;> first | rfl | exact absurd rfl hr
theorem Up.written(hl:g.live=true)(v:Int):Up g L g.w.i (.sd (st (ch g.w) .written (.int v))) { g with w:={ g.w with written:=v } } L:=
 Up.of .world (aC hl) (aC hl) fun r hr=>by induction r <;> first | rfl | exact absurd rfl hr
theorem Up.wr(hl:g.live=true){l:List AV}(row:List Int)(e:l=row.map .int):Up g L g.w.iwr (.li l) { g with w:={ g.w with row:=row } } L:=by
 subst e;exact Up.of .wr (aC hl) (aC hl) fun r hr=>by induction r <;> first | rfl | exact absurd rfl hr
theorem Up.wh(hl:g.live=true){l:List (Int×AV)}(h:List (Int×Int))(e:l=aZ .int h):Up g L g.w.iwh (.idd l) { g with w:={ g.w with held:=h } } L:=by
 subst e;exact Up.of .wh (aC hl) (aC hl) fun r hr=>by induction r <;> first | rfl | exact absurd rfl hr
theorem Up.wp(hl:g.live=true){l:List (Int×AV)}(h:List (Int×Int))(e:l=aZ .int h):Up g L g.w.iwp (.idd l) { g with w:={ g.w with pins:=h } } L:=by
 subst e;exact Up.of .wp (aC hl) (aC hl) fun r hr=>by induction r <;> first | rfl | exact absurd rfl hr
theorem Up.wk(hl:g.live=true){l:List (Int×AV)}(h:List (Int×Nat))(e:l=aZ .obj h):Up g L g.w.iwk (.idd l) { g with w:={ g.w with kept:=h,kfz:=false } } L:=by
 subst e;exact Up.of .wk (aC hl) (aC hl) fun r hr=>by induction r <;> first | rfl | exact absurd rfl hr
theorem Up.wkf(hl:g.live=true):Up g L g.w.iwk (.frz (aZ .obj g.w.kept)) { g with w:={ g.w with kfz:=true } } L:=
 Up.of .wk (aC hl) (aC hl) fun r hr=>by induction r <;> first | rfl | exact absurd rfl hr
theorem Up.ol(hl:g.live=true){l:List AV}(h:List Nat)(e:l=h.map .obj):Up g L g.w.iol (.li l) { g with w:={ g.w with old:=h } } L:=by
 subst e;exact Up.of .ol (aC hl) (aC hl) fun r hr=>by induction r <;> first | rfl | exact absurd rfl hr
theorem Up.dkw(hl:g.live=true)(v:Int):Up g L g.k.d (.sd (st (iX g.k) .writes (.int v))) { g with k:={ g.k with writes:=v } } L:=
 Up.of .dD (aC hl) (aC hl) fun r hr=>by induction r <;> first | rfl | exact absurd rfl hr
theorem Up.lat(hl:g.live=true){l:List (Int×AV)}(h:List (Int×List UInt8))(e:l=aZ .bytes h):Up g L g.k.ilat (.idd l) { g with k:={ g.k with lat:=h } } L:=by
 subst e;exact Up.of .lat (aC hl) (aC hl) fun r hr=>by induction r <;> first | rfl | exact absurd rfl hr
theorem Up.unf(hl:g.live=true)(l:List AV):Up g L g.k.iun (.li l) { g with k:={ g.k with unf:=l } } L:=
 Up.of .unf (aC hl) (aC hl) fun r hr=>by induction r <;> first | rfl | exact absurd rfl hr
theorem Up.hits(hl:g.live=true)(v:Int):Up g L g.c.d (.sd (st (dh g.k g.c) .hits (.int v))) { g with c:={ g.c with hits:=v } } L:=
 Up.of .cD (aC hl) (aC hl) fun r hr=>by induction r <;> first | rfl | exact absurd rfl hr
theorem Up.reads(hl:g.live=true)(v:Int):Up g L g.c.d (.sd (st (dh g.k g.c) .reads (.int v))) { g with c:={ g.c with reads:=v } } L:=
 Up.of .cD (aC hl) (aC hl) fun r hr=>by induction r <;> first | rfl | exact absurd rfl hr
theorem Up.writes(hl:g.live=true)(v:Int):Up g L g.c.d (.sd (st (dh g.k g.c) .writes (.int v))) { g with c:={ g.c with writes:=v } } L:=
 Up.of .cD (aC hl) (aC hl) fun r hr=>by induction r <;> first | rfl | exact absurd rfl hr
theorem Up.cr(hl:g.live=true){l:List AV}(h:List Nat)(e:l=h.map .obj):Up g L g.c.icr (.li l) { g with c:={ g.c with row:=h } } L:=by
 subst e;exact Up.of .cr (aC hl) (aC hl) fun r hr=>by induction r <;> first | rfl | exact absurd rfl hr
theorem Up.cb(hl:g.live=true){l:List (Int×AV)}(h:List (Int×Nat))(e:l=aZ .obj h):Up g L g.c.icb (.idd l) { g with c:={ g.c with by_:=h } } L:=by
 subst e;exact Up.of .cb (aC hl) (aC hl) fun r hr=>by induction r <;> first | rfl | exact absurd rfl hr
theorem Up.bD{i:Nat}{u:Bu}(hl:g.live=true)(h:lk g.b i=some u){l:Vs}(hol pin:Int)(e:l=dC { u with hol:=hol,pin:=pin }):Up g L u.d (.sd l) { g with b:=st g.b i { u with hol:=hol,pin:=pin } } L:=by
 subst e;refine Up.of (.bD i) (o:=.sd (dC u)) (b_ hl (lW h)) (b_ hl (lW bP)) fun r hr=>?_;induction r with
 | bI j=>exact eH hl hl (km h rfl)
 | bD j=>exact eH hl hl (congrArg (Option.map _) (lk_st_nq fun q=>hr (by exact ac q rfl)))
 | bA j=>exact eH hl hl (km h rfl)
 | _=>rfl
theorem Up.bA{i:Nat}{u:Bu}(hl:g.live=true)(h:lk g.b i=some u)(o:List UInt8):Up g L u.a (.ba o) { g with b:=st g.b i { u with oct:=o } } L:=by
 refine Up.of (.bA i) (o:=.ba u.oct) (b_ hl (lW h)) (b_ hl (lW bP)) fun r hr=>?_;induction r with
 | bI j=>exact eH hl hl (km h rfl)
 | bA j=>exact eH hl hl (congrArg (Option.map _) (lk_st_nq fun q=>hr (by exact ac q rfl)))
 | bD j=>exact eH hl hl (km h rfl)
 | _=>rfl
theorem Up.oc{x:Int}{i:Nat}{l0:List Int}(hl:g.live=true)(h:lk g.w.oct x=some (i,l0)){l:List AV}(l':List Int)(e:l=l'.map .int):Up g L i (.li l) { g with w:={ g.w with oct:=st g.w.oct x (i,l') } } L:=by
 subst e;have hw:aZ (fun p:Nat×List Int=>AV.obj p.1) (st g.w.oct x (i,l'))=aZ (fun p=>.obj p.1) g.w.oct:=by
  have:∀ l:List (Int×(Nat×List Int)),lk l x=some (i,l0)->aZ (fun p:Nat×List Int=>AV.obj p.1) (st l x (i,l'))=aZ (fun p=>.obj p.1) l:=by
   intro l
   induction l with
   | nil=>intro q;exact aA q
   | cons p l ih=>
    obtain ⟨a,b⟩:=p
    intro q
    simp only [br,aP] at q;simp only [b8,bE];by_cases z:a=x
    ·subst z;rw [if_pos rfl] at q ⊢;obtain rfl:=Option.some.inj q;rfl
    ·rw [if_neg z] at q ⊢;have h2:=ih q;unfold aZ at h2 ⊢;exact ac (List.map_cons ..) (ac (List.map_cons ..) (ac h2 rfl))
  exact this _ h
 refine Up.of (.oc x) (o:=.li (l0.map .int)) (b_ hl (lW h)) (b_ hl (lW bP)) fun r hr=>?_;induction r with
 | wo=>exact eH hl hl (congrArg (fun z=>some (_,AO.idd z)) hw)
 | oc y=>exact eH hl hl (congrArg (Option.map _) (lk_st_nq fun q=>hr (by exact ac q rfl)))
 | _=>rfl
theorem Up.newOc{A B:Tm}{x:Int}{t:Nat}{lt:List AV}{l:List (Int×AV)}(hl:g.live=true)(l':List Int)(et:lt=l'.map .int)(e:l=st (aZ (fun p=>.obj p.1) g.w.oct) x (.obj t)):Up g (A++(t,.li lt)::B) g.w.iwo (.idd l) { g with w:={ g.w with oct:=st g.w.oct x (t,l') } } (A++B):=by
 subst et;subst e;refine Up.tc A .wo (.oc x) (by nofun) (o:=.idd (aZ (fun p=>.obj p.1) g.w.oct)) (aC hl) (b_ hl (congrArg (fun z=>some (_,AO.idd z)) (df (fun p:Nat×List Int=>AV.obj p.1) g.w.oct x (t,l')).symm)) (b_ hl (lW bP)) fun r h1 h2=>?_;induction r with
  | wo=>exact absurd rfl h1
  | oc y=>exact eH hl hl (congrArg (Option.map _) (lk_st_nq fun q=>h2 (by exact ac q rfl)))
  | _=>rfl
theorem Up.newDs{A B:Tm}{j t:Nat}{lt:List AV}{l:List AV}(hl:g.live=true)(l':List Int)(hj:j<g.w.ds.length)(et:lt=l'.map .int)(e:l=(g.w.ds.map fun p=>AV.obj p.1).set j (.obj t)):Up g (A++(t,.li lt)::B) g.w.iwd (.li l) { g with w:={ g.w with ds:=g.w.ds.set j (t,l') } } (A++B):=by
 subst et;subst e;refine Up.tc A .wd (.ds j) (by nofun) (o:=.li (g.w.ds.map fun p=>.obj p.1)) (aC hl) (b_ hl (congrArg (fun z=>some (_,AO.li z)) List.map_set)) (b_ hl (lW (List.getElem?_set_self hj))) fun r h1 h2=>?_;induction r with
  | wd=>exact absurd rfl h1
  | ds y=>exact eH hl hl (congrArg (Option.map _) (List.getElem?_set_ne (fun q=>h2 (by exact ac q rfl))))
  | _=>rfl
theorem Up.newRow{A B:Tm}{t:Nat}{lt:List AV}(hl:g.live=true)(row:List Int)(et:lt=row.map .int):Up g (A++(t,.li lt)::B) g.w.i (.sd (st (ch g.w) .row (.obj t))) { g with w:={ g.w with iwr:=t,row:=row } } (A++B):=by
 subst et;refine Up.tc A .world .wr (by nofun) (o:=.sd (ch g.w)) (aC hl) (aC hl) (aC hl) fun r h1 h2=>?_;induction r <;> first | rfl | exact absurd rfl h1 | exact absurd rfl h2
theorem J.newBu{D:Hp}{i:Nat}{u:Bu}(hl:g.live=true)(hj:J g ((i,.inst 189 u.d)::(u.d,.sd (dC u))::(u.a,.ba u.oct)::L) D):J { g with b:=g.b++[(i,u)] } L D:=by
 have lkA:∀ j,lk (g.b++[(i,u)]) j=match lk g.b j with | some v=>some v | none=>if i=j then some u else none:=by
  intro j
  have:∀ l:List (Nat×Bu),lk (l++[(i,u)]) j=match lk l j with | some v=>some v | none=>if i=j then some u else none:=by
   intro l
   induction l with
   | nil=>simp only [List.nil_append,br,aP]
   | cons p l ih=>
    obtain ⟨a,b⟩:=p
    simp only [List.cons_append,br,aP];by_cases z:a=j
    ·simp [z]
    ·simp only [if_neg z,ih]
  exact this g.b
 have t1:=hj.tmp (i,.inst 189 u.d) (by simp)
 have t2:=hj.tmp (u.d,.sd (dC u)) (by simp)
 have t3:=hj.tmp (u.a,.ba u.oct) (by simp)
 have s1:=hj.sep (i,.inst 189 u.d) (by simp)
 have s2:=hj.sep (u.d,.sd (dC u)) (by simp)
 have s3:=hj.sep (u.a,.ba u.oct) (by simp)
 have nd:=hj.nd
 simp only [List.map_cons,List.nodup_cons,List.mem_cons,not_or] at nd;refine bK nd fun z0 z1 n6 n7=>?_;clear nd;refine aM z0 fun n1 n2 n3=>?_;clear z0;refine aq z1 fun n4 n5=>?_;clear z1;have news:∀ y,(lk (g.b++[(i,u)]) y=lk g.b y)∨(i=y/\lk (g.b++[(i,u)]) y=some u):=fun y=>by
  refine ac (lkA ..) ?_;induction q:lk g.b y with
  | some v=>exact .inl rfl
  | none=>
   by_cases z:i=y
   ·exact .inr ⟨z,if_pos z⟩
   ·exact .inl (if_neg z)
 have old:∀ {r:Ro} {y:Nat} {f:Bu->Nat×AO} {j:Nat} {o:AO},(lk (g.b++[(i,u)]) y).map f=some (j,o)->(lk g.b y).map f=some (j,o)∨(i=y/\f u=(j,o)):=fun {r y f j o} e=>by
  rcases news y with h | ⟨z,h⟩
  ·rw [h] at e;exact .inl e
  ·rw [h] at e;exact .inr ⟨z,Option.some.inj e⟩
 have cases3:∀ r j o,Mine.Lake.own { g with b:=g.b++[(i,u)] } r=some (j,o)->Mine.Lake.own g r=some (j,o)∨((r,j,o)∈[(Ro.bI i,i,AO.inst 189 u.d),(.bD i,u.d,.sd (dC u)),(.bA i,u.a,.ba u.oct)]):=by
  intro r j o e
  induction r with
  | bI y=>
   have e:=(aC (g:={ g with b:=g.b++[(i,u)] }) hl).symm.trans e
   rw [aC hl];rcases old (r:=.bI y) e with h | ⟨rfl,h⟩
   ·exact .inl h
   ·injection h with z0_ z1_;subst z0_;subst z1_;exact .inr (.head _)
  | bD y=>
   have e:=(aC (g:={ g with b:=g.b++[(i,u)] }) hl).symm.trans e
   rw [aC hl];rcases old (r:=.bI y) e with h | ⟨rfl,h⟩
   ·exact .inl h
   ·injection h with z0_ z1_;subst z0_;subst z1_;exact .inr (.tail _ (.head _))
  | bA y=>
   have e:=(aC (g:={ g with b:=g.b++[(i,u)] }) hl).symm.trans e
   refine ac (aC hl ..) ?_;rcases old (r:=.bI y) e with h | ⟨rfl,h⟩
   ·exact .inl h
   ·injection h with z0_ z1_;subst z0_;subst z1_;exact .inr (.tail _ (.tail _ (.head _)))
  | _=>exact .inl e
 have mem3:∀ {P:Ro->Nat->AO->Prop},P (.bI i) i (.inst 189 u.d)->P (.bD i) u.d (.sd (dC u))->P (.bA i) u.a (.ba u.oct)->∀ {r j o},(r,j,o)∈[(Ro.bI i,i,AO.inst 189 u.d),(.bD i,u.d,.sd (dC u)),(.bA i,u.a,.ba u.oct)]->P r j o:=fun {P} p1 p2 p3 {r j o} h=>by
  cases h with
  | head=>exact p1
  | tail _ h=>cases h with
   | head=>exact p2
   | tail _ h=>cases h with
    | head=>exact p3
    | tail _ h=>exact absurd h List.not_mem_nil
 have ff:∀ r j o,Mine.Lake.own g r=some (j,o)->∀ {r' o'},(r',j,o')∉[(Ro.bI i,i,AO.inst 189 u.d),(.bD i,u.d,.sd (dC u)),(.bA i,u.a,.ba u.oct)]:=fun r j o e {r' o'} h=>
  mem3 (P:=fun U k U=>k≠j) (fun z=>s1 r o (z▸e)) (fun z=>s2 r o (z▸e)) (fun z=>s3 r o (z▸e)) h rfl
 exact {
  own:=fun r j o e=>(cases3 r j o e).elim (hj.own r j o) fun h=>mem3 (P:=fun U j o=>D j=some o) t1 t2 t3 h
  inj:=fun r r' j o o' e e'=>by
   rcases cases3 r j o e with h | h
   ·rcases cases3 r' j o' e' with h' | h'
    ·exact hj.inj _ _ _ _ _ h h'
    ·exact(ff _ _ _ h h').elim
   ·rcases cases3 r' j o' e' with h' | h'
    ·exact(ff _ _ _ h' h).elim
    ·refine mem3 (P:=fun r j o=>∀ r' o',(r',j,o')∈[(Ro.bI i,i,AO.inst 189 u.d),(.bD i,u.d,.sd (dC u)),(.bA i,u.a,.ba u.oct)]->r=r') ?_ ?_ ?_ h r' o' h'
     ·exact fun r' o' h=>mem3 (P:=fun r j U=>i=j->Ro.bI i=r) (fun U=>rfl) (fun z=>absurd z n1) (fun z=>absurd z n2) h rfl
     ·exact fun r' o' h=>mem3 (P:=fun r j U=>u.d=j->Ro.bD i=r) (fun z=>absurd z.symm n1) (fun U=>rfl) (fun z=>absurd z n4) h rfl
     ·exact fun r' o' h=>mem3 (P:=fun r j U=>u.a=j->Ro.bA i=r) (fun z=>absurd z.symm n2) (fun z=>absurd z.symm n4) (fun U=>rfl) h rfl
  tmp:=fun p hp=>hj.tmp p (.tail _ (.tail _ (.tail _ hp)))
  nd:=n7
  sep:=fun p hp r o e=>by
   have hm:p.1∈L.map (·.1):=List.mem_map_of_mem (f:=fun q:Nat×AO=>q.1) hp
   rcases cases3 r _ o e with h | h
   ·exact hj.sep p (.tail _ (.tail _ (.tail _ hp))) r o h
   ·exact mem3 (P:=fun U j U=>j≠p.1) (fun z=>n3 (z▸hm)) (fun z=>n5 (z▸hm)) (fun z=>n6 (z▸hm)) h rfl }
end
section
variable {g:G}{L:Tm}{i:Nat}{o o':AO}{p1 p2 p3 p4 p5 p6 p7 p8:Nat×AO}
theorem Up.t5:Up g (p1::p2::p3::p4::p5::(i,o)::L) i o' g (p1::p2::p3::p4::p5::(i,o')::L):=Up.ta [p1,p2,p3,p4,p5]
theorem c_{cs:List (Nm×Nat)}{K:List (Nm×Nat)->Tm->Prop}(h:K cs L):cellsP [] cs L K:=h
theorem cp_cons{x:Nm}{l:List Nm}{cs:List (Nm×Nat)}{K:List (Nm×Nat)->Tm->Prop}(h:∀ i,cellsP l ((x,i)::cs) ((i,.ce none)::L) K):cellsP (x::l) cs L K:=h
theorem uP{cs:List (Nm×Nat)}{m:Vs}{K:Tm->Vs->Prop}(h:K L m):bindP g cs [] [] L m K:=h
theorem uQ{cs:List (Nm×Nat)}{p:Nm}{ps:List Nm}{v:AV}{vs:List AV}{m:Vs}{K:Tm->Vs->Prop}(e:lk cs p=none)(h:bindP g cs ps vs L (st m p v) K):bindP g cs (p::ps) (v::vs) L m K:=by
 show fK (lk cs p) _ _;refine ac e ?_;exact h
end
theorem qQ{α β:Type}[DecidableEq α]{l:List (α×β)}{x y:α}{v w:β}(h:x≠y)(e:lk l y=some w):lk (st l x v) y=some w:=by exact ac (bw ..) (ac (if_neg h ..) e)
theorem on{l:Vs}{x:Nm}{v:AV}:lk (st l x v) x=some v:=bP
theorem xB{l:Vs}{x y:Nm}{v w:AV}(h:x≠y)(e:lk l y=some w):lk (st l x v) y=some w:=qQ h e
section
variable {α:Type}{g g':G}{L L':Tm}{m:Vs}{E:Nat->G->Tm->Prop}
theorem s7{i:Nat}{o:AO}(hl:g.live=true):∀ D,J g ((i,o)::L) D->lk g.b i=none:=fun D hj=>by
 induction q:lk g.b i with
 | none=>rfl
 | some v=>exact absurd ((b_ hl (lW q)):own g (.bI i)=some (i,.inst 189 v.d)) (hj.sep (i,o) (List.mem_cons_self ..) (.bI i) (.inst 189 v.d))
theorem J.rot{p1 p2 p3:Nat×AO}{D:Hp}(h:J g (p1::p2::p3::L) D):J g (p2::p3::p1::L) D:=h.perm (fun p hp=>by simp at hp ⊢;rcases hp with h | h | h | h <;> simp [h]) (by
 have:=h.nd
 simp only [List.map_cons,List.nodup_cons,List.mem_cons,not_or] at this ⊢;refine bK this fun z0 z1 f g=>?_;clear this;refine aM z0 fun a b c=>?_;clear z0;refine aq z1 fun d e=>?_;clear z1;exact(bY (ao d (Ne.symm a) e) ⟨Ne.symm b,f⟩ c g))
theorem nL{T:Nat->Option FI}{k a tab:Nat}{ps:List Nm}{body:List RS}{args:List AV}{m m':Vs}{Q:AV->G->Tm->Vs->Prop}(ht:T a=some ⟨ps,[],tab,body⟩)(hi:bW a=none)(hb:bindL ps args []=some m')
  (h:wpS ((aL (lvl T k) 60).S ⟨[],tab⟩ body) (fun g' L' U=>Q .none g' L' m) (fun v g' L' U=>Q v g' L' m) E g L m'):wp (lvl T (k+1) (.base a) args) Q E g L m:=by
 intro s hs hm
 have e:lvl T (k+1) (.base a) args s=back m (dO ((aL (lvl T k) 60).S ⟨[],tab⟩ body { s with m:=m' })):=by
  refine ac (fH hi ht ..) ?_;show back s.m ((bindsR [] ps args { s with m:=[] }).bind fun U s=>_)=_;refine ac (g6 (s:={ s with m:=[] }) hb ..) (ac hm ?_);rfl
 refine ac e ?_;have h1:=h { s with m:=m' } hs.vars rfl;generalize (aL (lvl T k) 60).S ⟨[],tab⟩ body { s with m:=m' }=r at h1 ⊢;induction r with
 | bad=>exact h1
 | exc c s'=>refine aI h1 fun g' L' h2 h4=>?_;clear h1;exact(aw g' L' h2.vars h4)
 | ok fl s'=>
  refine aI h1 fun g' L' h2 h3=>?_;clear h1;induction fl with
  | next=>exact(aw g' L' h2.vars h3)
  | ret v=>exact(aw g' L' h2.vars h3)
end
structure Sy where
 c:Nat
 F:Tm
 V:Vs
 g:G
 L:Tm
 m:Vs
structure Out where
 q:List (Nat×Nat)
 p:Prop
def bL(g:G)(F:Tm):Prop:=∀ p∈F,∃ r,own g r=some p
def cE(q:List (Nat×Nat)):Prop:=q.map (·.1)=q.map (·.2)
def Ok(o:Out):Prop:=cE o.q/\o.p
def Vf(m V:Vs):Prop:=∀ x v,lk V x=some v->lk m x=some v
def Go(g:G)(L:Tm)(m:Vs)(K:Sy->Out):Prop:=∃ c F V,(bL g F/\Vf m V)/\Ok (K ⟨c,F,V,g,L,m⟩)
def Ct{α:Type}(K:α->Sy->Out):α->G->Tm->Vs->Prop:=fun v g L m=>Go g L m (K v)
def Cu(N:Sy->Out):G->Tm->Vs->Prop:=fun g L m=>Go g L m N
noncomputable def bl(p:Prop):Out:=⟨[],p⟩
noncomputable def bad:Out:=⟨[],False⟩
noncomputable def nth:Tm->Nat->Option (Nat×AO)
 | [],_=>none
 | p::l,n=>match n with | 0=>some p | n+1=>nth l n
noncomputable def tF(c:Nat)(F L:Tm):Option (Nat×AO):=bif Nat.blt ((c % 128)) 64 then nth F (c % 128 - 1) else nth L (c % 128 - 64)
noncomputable def op{α:Type}(x:Option α)(f:α->Out):Out:=match x with | some a=>f a | none=>bad
noncomputable def js(a b:Nat)(o:Out):Out:=⟨(b,a)::o.q,o.p⟩
noncomputable def rd(a:Nat)(s:Sy)(K:AO->Sy->Out)(B:Out):Out:=match s with
 | ⟨c,F,V,g,L,m⟩=>bif Nat.beq c 0 then B else op (tF c F L) fun p=>js a p.1 (K p.2 ⟨c / 128,F,V,g,L,m⟩)
noncomputable def uj(p:Nat×AO)(k:Tm->Out)(l:Tm):Out:=k (p::l)
noncomputable def tU(o:AO):Tm->Nat->(Tm->Out)->Out
 | [],_,_=>bad
 | p::l,n,k=>match n with | 0=>(match p with | (a,_)=>k ((a,o)::l)) | n+1=>tU o l n (uj p k)
noncomputable def wrt(a:Nat)(f:AO->Option AO)(s:Sy)(N:Sy->Out)(B:Out):Out:=match s with
 | ⟨c,F,V,g,L,m⟩=>bif Nat.beq c 0 then B else op (nth L (c % 128 - 64)) fun p=>op (f p.2) fun o=>js a p.1 (tU o L (c % 128 - 64) fun L'=>N ⟨c / 128,F,V,g,L',m⟩)
noncomputable def l3(o:AO):Option (Nat×Nat):=match o with | .inst C d=>some (C,d) | _=>none
noncomputable def l4(o:AO):Option Vs:=match o with | .sd l=>some l | _=>none
noncomputable def kF(o:AO):Option (Option AV):=match o with | .ce v=>some v | _=>none
noncomputable def pF(o:AO):Option (List (Int×AV)):=match o with | .idd l=>some l | _=>none
noncomputable def wK(o:AO):Option (List AV):=match o with | .tu l=>some l | _=>none
noncomputable def gU(v:AV):Option Nat:=match v with | .obj i=>some i | _=>none
noncomputable def gT(v:AV):Option Bool:=match v with | .bool b=>some b | _=>none
noncomputable def e8(v:AV):Option Int:=match v with | .int b=>some b | _=>none
structure XF where
 E:AEnv->RE->(AV->Sy->Out)->Sy->Out
 T:AEnv->RE->(Bool->Sy->Out)->Sy->Out
 S:AEnv->List RS->(Sy->Out)->Sy->Out
structure Kx where
 C:b9
 E:Nat->G->Tm->Prop
 R:AV->Sy->Out
noncomputable def cmp{α β γ:Type}(g:β->γ)(f:α->β)(a:α):γ:=g (f a)
noncomputable def wO{β:Type}(K:List β->Sy->Out)(b:β)(r:List β):Sy->Out:=K (b::r)
noncomputable def xw{β:Type}(K:Option β->Sy->Out)(b:β):Sy->Out:=K (some b)
noncomputable def cK{α:Type}(N:Sy->Out)(_:α):Sy->Out:=N
noncomputable def jY{α β:Type}(f:α->(β->Sy->Out)->Sy->Out):List α->(List β->Sy->Out)->Sy->Out
 | [],K=>K []
 | a::l,K=>f a (cmp (jY f l) (wO K))
noncomputable def vn{α β:Type}(f:α->(β->Sy->Out)->Sy->Out)(o:Option α)(K:Option β->Sy->Out)(s:Sy):Out:=match o with
 | none=>K none s
 | some a=>f a (xw K) s
noncomputable def tst(b:Bool)(A B:Sy->Out)(s:Sy):Out:=match s with
 | ⟨c,F,V,g,L,m⟩=>bif Nat.beq c 0 then bl ((b=true->Go g L m A)/\(b=false->Go g L m B)) else
  bif Nat.beq ((c % 128)) 1 then js (cond b 1 0) 1 (A ⟨c / 128,F,V,g,L,m⟩) else js (cond b 1 0) 0 (B ⟨c / 128,F,V,g,L,m⟩)
noncomputable def tsf(b:Bool)(A B:Sy->Out)(s:Sy):Out:=match s with
 | ⟨c,F,V,g,L,m⟩=>bif Nat.beq c 0 then bl ((b=false->Go g L m A)/\(b=true->Go g L m B)) else tst b B A s
noncomputable def rR(A B:Sy->Out)(b:Bool):Sy->Out:=tst b A B
noncomputable def yH(A B:Sy->Out)(b:Bool):Sy->Out:=tsf b A B
noncomputable def yQ(K:Bool->Sy->Out)(v:AV)(s:Sy):Out:=op (gT v) fun b=>K b s
noncomputable def zi(K:AV->Sy->Out)(b:Bool):Sy->Out:=K (.bool b)
noncomputable def zz(K:Bool->Sy->Out)(b:Bool):Sy->Out:=K (!b)
noncomputable def yr(A:Sy->Out)(K:AV->Sy->Out)(v:AV)(s:Sy):Out:=op (gT v) fun b=>tst b A (K (.bool false)) s
noncomputable def zA(A:Sy->Out)(K:AV->Sy->Out)(v:AV)(s:Sy):Out:=op (gT v) fun b=>tsf b A (K (.bool true)) s
@[irreducible] def wq{α:Type}(r:St->Res α)(Q:α->G->Tm->Vs->Prop)(E:Nat->G->Tm->Prop)(g:G)(L:Tm)(m:Vs):Prop:=wp r Q E g L m
@[irreducible] def xN(r:St->Res Flow)(N:G->Tm->Vs->Prop)(R:AV->G->Tm->Vs->Prop)(E:Nat->G->Tm->Prop)(g:G)(L:Tm)(m:Vs):Prop:=wpS r N R E g L m
theorem lN{α:Type}{r:St->Res α}{Q:α->G->Tm->Vs->Prop}{E:Nat->G->Tm->Prop}{g:G}{L:Tm}{m:Vs}:wq r Q E g L m=wp r Q E g L m:=by unfold wq;rfl
theorem m9{r:St->Res Flow}{N:G->Tm->Vs->Prop}{R:AV->G->Tm->Vs->Prop}{E:Nat->G->Tm->Prop}{g:G}{L:Tm}{m:Vs}:xN r N R E g L m=wpS r N R E g L m:=by unfold xN;rfl
section
variable (κ:Kx)
noncomputable def xb{α:Type}(r:St->Res α)(K:α->Sy->Out)(s:Sy):Out:=match s with | ⟨_,_,_,g,L,m⟩=>bl (wq r (Ct K) κ.E g L m)
def y5(n:Nm)(K:AV->Sy->Out)(o:AO)(s:Sy):Out:=op (l4 o) fun l=>op (lk l n) fun v=>K v s
def qy(a:AV)(n:Nm)(K:AV->Sy->Out)(s:Sy):Out:=op (gU a) fun i=>rd i s (fun o s=>op (l3 o) fun p=>rd p.2 s (fun o s=>cond (okData p.1 n) (y5 n K o s) bad) (xb κ (getA a n) K s)) (xb κ (getA a n) K s)
def qz(a i:AV)(K:AV->Sy->Out)(s:Sy):Out:=match i with
 | .str x=>op (gU a) fun j=>rd j s (fun o=>y5 x K o) (xb κ (getI a i) K s)
 | _=>xb κ (getI a i) K s
def uW(op:CmpOp)(a b:AV):Option Bool:=match a with
 | .int x=>(match b with
  | .int y=>(match op with
   | .Eq=>some (decide (x=y))
   | .NotEq=>some (!decide (x=y))
   | .Lt=>some (decide (x<y))
   | .LtE=>some (decide (x<=y))
   | .Gt=>some (decide (y<x))
   | .GtE=>some (decide (y<=x))
   | _=>none)
  | _=>none)
 | .bytes x=>(match b with
  | .bytes y=>(match op with
   | .Eq=>some (decide (x=y))
   | .NotEq=>some (!decide (x=y))
   | _=>none)
  | _=>none)
 | .str x=>(match b with
  | .str y=>(match op with
   | .Eq=>some (decide (x=y))
   | .NotEq=>some (!decide (x=y))
   | _=>none)
  | _=>none)
 | .none=>(match b with
  | .none=>(match op with
   | .Is=>some true
   | .IsNot=>some false
   | _=>none)
  | .obj _=>(match op with
   | .IsNot=>some true
   | _=>none)
  | _=>none)
 | .obj _=>(match b with
  | .none=>(match op with
   | .Is=>some false
   | .IsNot=>some true
   | _=>none)
  | _=>none)
 | _=>none
noncomputable def oI(r:St->Res AV)(o:Operator)(a b:AV)(K:AV->Sy->Out)(s:Sy):Out:=match s with
 | ⟨c,F,V,g,L,m⟩=>bif Nat.beq c 0 then xb κ r K ⟨c,F,V,g,L,m⟩ else op (e8 a) fun x=>op (e8 b) fun y=>op (dY o x y) fun z=>K (.int z) ⟨c / 128,F,V,g,L,m⟩
def nw(op:CmpOp)(a b:AV)(K:Bool->Sy->Out)(s:Sy):Out:=match uW op a b with
 | some r=>K r s
 | none=>xb κ (dc op a b) K s
noncomputable def p1(args:List AV)(k:AV->Option AV):Option AV:=match args with
 | []=>none
 | v::r=>(match r with | []=>k v | _::_=>none)
noncomputable def yA(v:AV):Option AV:=match v with
 | .int i=>some (.int i)
 | .bool b=>some (.int (if b then 1 else 0))
 | _=>none
noncomputable def yB(v:AV):Option AV:=match v with
 | .int _=>some (.bool true)
 | .none=>some (.bool false)
 | _=>none
noncomputable def wJ(v:AV):Option Bf:=match v with | .bf f=>some f | _=>none
noncomputable def q9(f:Bf)(args:List AV):Option AV:=match f with
 | .abs=>p1 args fun v=>(e8 v).map fun i=>.int i.natAbs
 | .int=>p1 args yA
 | .isinstance=>(match args with
  | []=>none
  | v::r=>p1 r fun u=>(wJ u).bind fun f=>(match f with | .int=>yB v | _=>none))
 | .bytes=>p1 args fun v=>(match v with | .bytes b=>some (.bytes b) | _=>none)
 | _=>none
noncomputable def qg(f:AV)(args:List AV)(K:AV->Sy->Out)(s:Sy):Out:=match f with
 | .bf b=>(match q9 b args with
  | some v=>K v s
  | none=>xb κ (κ.C f args) K s)
 | _=>xb κ (κ.C f args) K s
noncomputable def qA(l:List (Int×AV))(args:List AV):Option AV:=match args with
 | []=>none
 | v::r=>(e8 v).bind fun k=>(match r with | []=>some ((lk l k).getD .none) | d::r=>(match r with | []=>some ((lk l k).getD d) | _::_=>none))
noncomputable def zp(f:AV)(a:AV)(K:AV->Sy->Out)(as:List AV):Sy->Out:=xb κ (κ.C f (a::as)) K
def zx(n:Nm)(i:Nat)(K:AV->Sy->Out)(as:List AV):Sy->Out:=xb κ (bB n i as) K
def zv(n:Nm)(i:Nat)(K:AV->Sy->Out)(as:List AV)(s:Sy):Out:=cond (decide (n=.get)) (rd i s (fun o s=>op (pF o) fun l=>op (qA l as) fun v=>K v s) (xb κ (bB n i as) K s)) (xb κ (bB n i as) K s)
def yY(fu:Nat)(F:XF)(env:AEnv)(a:AV)(n:Nm)(args:List RE)(K:AV->Sy->Out)(s:Sy):Out:=op (gU a) fun i=>rd i s (fun o s=>match o with
 | .inst c d=>rd d s (fun o s=>op (l4 o) fun l=>op (ek c n) fun f=>cond (lk l n).isNone (jY (F.E env) args (zp κ (.base f) a K) s) bad) (xb κ (r8 κ.C (aL κ.C fu) env a n args) K s)
 | .li l=>cond (decide (n=.append∨n=.remove)) (jY (F.E env) args (zx κ n i K) s) bad
 | .idd _=>cond (decide (n=.get∨n=.pop)) (jY (F.E env) args (zv κ n i K) s) bad
 | _=>bad) (xb κ (r8 κ.C (aL κ.C fu) env a n args) K s)
noncomputable def sE(F:XF)(env:AEnv)(o:BoolOp):List RE->(AV->Sy->Out)->Sy->Out
 | [],_,_=>bad
 | e::es,K,s=>match es with
  | []=>F.E env e K s
  | _::_=>match o with
   | .And=>F.E env e (yr (sE F env o es K) K) s
   | .Or=>F.E env e (zA (sE F env o es K) K) s
def zm(o:CmpOp)(a:AV)(K:Bool->Sy->Out)(b:AV):Sy->Out:=nw κ o a b K
def zl(o:CmpOp)(a:AV)(G:AV->Sy->Out)(N:Sy->Out)(b:AV):Sy->Out:=nw κ o a b (rR (G b) N)
def jJ(F:XF)(env:AEnv):List (CmpOp×RE)->(Bool->Sy->Out)->AV->Sy->Out
 | [],_,_,_=>bad
 | p::ps,K,a,s=>match ps with
  | []=>F.E env p.2 (zm κ p.1 a K) s
  | _::_=>F.E env p.2 (zl κ p.1 a (jJ F env ps K) (K false)) s
noncomputable def pE(F:XF)(env:AEnv)(o:BoolOp):List RE->(Bool->Sy->Out)->Sy->Out
 | [],K,s=>K (match o with | .And=>true | .Or=>false) s
 | e::es,K,s=>match o with
   | .And=>F.T env e (rR (pE F env o es K) (K false)) s
   | .Or=>F.T env e (yH (pE F env o es K) (K true)) s
noncomputable def y8(o:UnaryOp)(v:AV)(K:AV->Sy->Out)(s:Sy):Out:=match o with
 | .Not=>op (gT v) fun b=>K (.bool (!b)) s
 | .USub=>op (e8 v) fun b=>K (.int (-b)) s
 | .Invert=>op (e8 v) fun b=>K (.int (Builtin.bitNot b)) s
 | _=>bad
noncomputable def tB(o:AO)(K:AV->Sy->Out)(s:Sy):Out:=match s with | ⟨_,_,_,g,L,m⟩=>bl (∀ t,Go g ((t,o)::L) m (K (.obj t)))
def zr(x:Nm)(K:AV->Sy->Out)(o:AV):Sy->Out:=qy κ o x K
def zt(K:AV->Sy->Out)(o i:AV):Sy->Out:=qz κ o i K
def zF(F:XF)(env:AEnv)(i:RE)(K:AV->Sy->Out)(o:AV):Sy->Out:=F.E env i (zt κ K o)
noncomputable def zD(K:AV->Sy->Out)(o:AV)(a b:Option AV):Sy->Out:=xb κ (ia o a b) K
noncomputable def zu(F:XF)(env:AEnv)(hi:Option RE)(k:Option AV->Option AV->Sy->Out)(a:Option AV):Sy->Out:=vn (F.E env) hi (k a)
noncomputable def yT(F:XF)(env:AEnv)(lo hi:Option RE)(k:AV->Option AV->Option AV->Sy->Out)(o:AV):Sy->Out:=vn (F.E env) lo (zu F env hi (k o))
noncomputable def zk(K:AV->Sy->Out)(f:AV)(as:List AV):Sy->Out:=qg κ f as K
noncomputable def zj(F:XF)(env:AEnv)(args:List RE)(K:AV->Sy->Out)(f:AV):Sy->Out:=jY (F.E env) args (zk κ K f)
def zy(n:Nat)(F:XF)(env:AEnv)(x:Nm)(args:List RE)(K:AV->Sy->Out)(a:AV):Sy->Out:=yY κ n F env a x args K
noncomputable def zh(o:Operator)(K:AV->Sy->Out)(a b:AV):Sy->Out:=oI κ (binop o a b) o a b K
noncomputable def zg(F:XF)(env:AEnv)(o:Operator)(b:RE)(K:AV->Sy->Out)(a:AV):Sy->Out:=F.E env b (zh κ o K a)
noncomputable def zI(o:UnaryOp)(K:AV->Sy->Out)(v:AV):Sy->Out:=y8 o v K
noncomputable def yU(f:List AV->AO)(K:AV->Sy->Out)(vs:List AV)(s:Sy):Out:=cond (bg vs) (tB (f vs) K s) bad
def rK(n:Nat)(F:XF)(env:AEnv)(e:RE)(K:AV->Sy->Out)(s:Sy):Out:=match e with
 | .none=>K .none s
 | .bool b=>K (.bool b) s
 | .int i=>K (.int i) s
 | .str x=>K (.str x) s
 | .loc x=>op (lk s.V x) fun v=>K v s
 | .cel x=>op (lk env.cells x) fun i=>rd i s (fun o s=>op (kF o) fun v=>op v fun v=>K v s) (xb κ ((aL κ.C (n+1)).E env e) K s)
 | .glo x=>op (f9 x) fun v=>K v s
 | .attr e x=>F.E env e (zr κ x K) s
 | .sub e i=>F.E env e (zF κ F env i K) s
 | .slc e lo hi=>F.E env e (yT F env lo hi (zD κ K)) s
 | .call f args=>F.E env f (zj κ F env args K) s
 | .mcall o x args=>F.E env o (zy κ n F env x args K) s
 | .bin o a b=>F.E env a (zg κ F env o b K) s
 | .un o a=>F.E env a (zI o K) s
 | .bop o es=>sE F env o es K s
 | .cmp l ops=>F.E env l (jJ κ F env ops (zi K)) s
 | .ife t a b=>F.T env t (rR (F.E env a K) (F.E env b K)) s
 | .list es=>jY (F.E env) es (yU .li K) s
 | .tup es=>jY (F.E env) es (yU .tu K) s
 | .dict kvs=>(match kvs with
  | []=>tB (.idd []) K s
  | _::_=>xb κ ((aL κ.C (n+1)).E env e) K s)
 | .comp ..=>xb κ ((aL κ.C (n+1)).E env e) K s
 | .lam body frees=>op (closeC env frees) fun cells=>(match env.tab with
  | 0=>bad
  | _+1=>tB (.lam body cells) K s)
def stepXT(F:XF)(env:AEnv)(e:RE)(K:Bool->Sy->Out)(s:Sy):Out:=match e with
 | .un o a=>(match o with
  | .Not=>F.T env a (zz K) s
  | _=>F.E env e (yQ K) s)
 | .bop o es=>pE F env o es K s
 | .ife t a b=>F.T env t (rR (F.T env a K) (F.T env b K)) s
 | .cmp l ops=>F.E env l (jJ κ F env ops K) s
 | _=>F.E env e (yQ K) s
def rE(a:AV)(n:Nm)(v:AV)(N:Sy->Out)(s:Sy):Out:=op (gU a) fun i=>rd i s (fun o s=>op (l3 o) fun p=>wrt p.2 (fun o=>match l4 o with
  | some l=>cond (okData p.1 n&&Nat.blt l.length 60) (some (.sd (st l n v))) none
  | none=>none) s N (xb κ (setA a n v) (cK N) s)) (xb κ (setA a n v) (cK N) s)
def uw(a i v:AV)(N:Sy->Out)(s:Sy):Out:=match i with
 | .str x=>op (gU a) fun j=>wrt j (fun o=>match l4 o with
  | some l=>cond (Nat.blt l.length 60) (some (.sd (st l x v))) none
  | none=>none) s N (xb κ (setI a i v) (cK N) s)
 | _=>xb κ (setI a i v) (cK N) s
def zB(x:Nm)(v:AV)(N:Sy->Out)(o:AV):Sy->Out:=rE κ o x v N
def zC(v:AV)(N:Sy->Out)(o i:AV):Sy->Out:=uw κ o i v N
noncomputable def yD(F:XF)(env:AEnv)(i:RE)(k:AV->AV->Sy->Out)(o:AV):Sy->Out:=F.E env i (k o)
def zE(v:AV)(N:Sy->Out)(o:AV)(a b:Option AV):Sy->Out:=xb κ (ki o a b v) (cK N)
def pH(n:Nat)(F:XF)(env:AEnv)(t:RT1)(v:AV)(N:Sy->Out)(s:Sy):Out:=match t with
 | .loc x=>(match s with | ⟨c,F,V,g,L,m⟩=>N ⟨c,F,st V x v,g,L,st m x v⟩)
 | .cel x=>op (lk env.cells x) fun i=>wrt i (fun o=>match kF o with | some _=>some (.ce (some v)) | none=>none) s N (xb κ (asg1 (aL κ.C n) env t v) (cK N) s)
 | .attr e x=>F.E env e (zB κ x v N) s
 | .sub e i=>F.E env e (yD F env i (zC κ v N)) s
 | .slc e lo hi=>F.E env e (yT F env lo hi (zE κ v N)) s
def pI(n:Nat)(F:XF)(env:AEnv):List RT1->List AV->(Sy->Out)->Sy->Out
 | [],vs,N,s=>(match vs with | []=>N s | _::_=>bad)
 | t::ts,vs,N,s=>(match vs with | []=>bad | v::vs=>pH κ n F env t v (pI n F env ts vs N) s)
def ui(n:Nat)(F:XF)(env:AEnv)(t:RT)(v:AV)(N:Sy->Out)(s:Sy):Out:=match t with
 | .one t=>pH κ n F env t v N s
 | .tup ts=>op (gU v) fun i=>rd i s (fun o s=>op (wK o) fun vs=>cond (Nat.beq ts.length vs.length) (pI κ n F env ts vs N s) bad) (xb κ (asgT (aL κ.C n) env t v) (cK N) s)
noncomputable def wU(n:Nat)(env:AEnv)(t:RT)(kind:Nat)(bd:List RS)(N:Sy->Out)(v:AV)(s:Sy):Out:=match s with
 | ⟨_,_,_,g,L,m⟩=>bl (∃ kI,(∀ s,Hs s g L->itkOf kind v s=some kI)/\wpS (loopK kI (fun vs s=>(dT (aL κ.C n) env t vs s).bind fun U s=>(aL κ.C n).S env bd s)) (Cu N) (Ct κ.R) κ.E g L m)
def zd(n:Nat)(F:XF)(env:AEnv)(t:RT)(N:Sy->Out)(v:AV):Sy->Out:=ui κ n F env t v N
noncomputable def zb(k:AV->Sy->Out)(o:Operator)(x b:AV):Sy->Out:=oI κ (iop o x b) o x b k
def zf(y:Nm)(N:Sy->Out)(a r:AV):Sy->Out:=rE κ a y r N
noncomputable def yO(F:XF)(env:AEnv)(v:RE)(o:Operator)(k:AV->Sy->Out)(x:AV):Sy->Out:=F.E env v (zb κ k o x)
def y9(F:XF)(env:AEnv)(y:Nm)(o:Operator)(v:RE)(N:Sy->Out)(a:AV):Sy->Out:=qy κ a y (yO κ F env v o (zf κ y N a))
def zw(N:Sy->Out)(a i r:AV):Sy->Out:=xb κ (setI a i r) (cK N)
def zc(F:XF)(env:AEnv)(o:Operator)(v:RE)(N:Sy->Out)(a i:AV):Sy->Out:=qz κ a i (yO κ F env v o (zw κ N a i))
noncomputable def zn(N:Sy->Out)(o i:AV):Sy->Out:=xb κ (jN o i) (cK N)
def rI(n:Nat)(F:XF)(env:AEnv)(x:RS)(N:Sy->Out)(s:Sy):Out:=match x with
 | .asg t e=>F.E env e (zd κ n F env t N) s
 | .augA e y o v=>F.E env e (y9 κ F env y o v N) s
 | .augS e i o v=>F.E env e (yD F env i (zc κ F env o v N)) s
 | .ret e=>F.E env e κ.R s
 | .retN=>κ.R .none s
 | .ite t a b=>F.T env t (rR (F.S env a N) (F.S env b N)) s
 | .expr e=>F.E env e (cK N) s
 | .del e i=>F.E env e (yD F env i (zn κ N)) s
 | .for t kind iter bd=>F.E env iter (wU κ n env t kind bd N) s
 | .raise c=>op (excTab c) fun c=>(match s with | ⟨_,_,_,g,L,_⟩=>bl (κ.E c g L))
 | _=>(match s with | ⟨_,_,_,g,L,m⟩=>bl (xN (step1 (aL κ.C n) env x) (Cu N) (Ct κ.R) κ.E g L m))
def stepXS(n:Nat)(F:XF)(env:AEnv):List RS->(Sy->Out)->Sy->Out
 | [],N,s=>N s
 | x::l,N,s=>rI κ n F env x (stepXS n F env l N) s
def f0:Nat->XF
 | 0=>⟨fun U U U U=>bad,fun U U U U=>bad,fun U U U U=>bad⟩
 | n+1=>⟨rK κ n (f0 n),stepXT κ (f0 n),stepXS κ n (f0 n)⟩
end
def yR(p:Nm)(v:AV)(K:Sy->Out)(s:Sy):Out:=match s with | ⟨c,F,V,g,L,m⟩=>K ⟨c,F,st V p v,g,L,st m p v⟩
def g7(cs:List (Nm×Nat)):List Nm->List AV->(Sy->Out)->Sy->Out
 | [],vs,N,s=>(match vs with | []=>N s | _::_=>bad)
 | p::ps,vs,N,s=>(match vs with
  | []=>bad
  | v::vs=>fK (lk cs p) (fun i=>wrt i (fun o=>fK (kF o) (fun U=>some (.ce (some v))) none) s (g7 cs ps vs N) bad)
    (yR p v (g7 cs ps vs N) s))
theorem Vf.s{m V:Vs}{x:Nm}{v:AV}(h:Vf m V):Vf (st m x v) (st V x v):=fun y w e=>by
 rw [bw] at e ⊢;by_cases q:x=y
 ·rw [if_pos q] at e ⊢;exact e
 ·rw [if_neg q] at e ⊢;exact h y w e
theorem Vf.n{m:Vs}:Vf m []:=fun U U h=>aA h
theorem Vf.c{m V:Vs}{x:Nm}{v:AV}(h:lk m x=some v)(r:Vf m V):Vf m ((x,v)::V):=fun y w e=>by
 rw [aP] at e;by_cases q:x=y
 ·rw [if_pos q] at e;refine bo q (ac h ?_);exact e
 ·rw [if_neg q] at e;exact r y w e
section
variable {κ:Kx}{α β:Type}{s:Sy}{g:G}{L:Tm}{m:Vs}
theorem bi{x:Option α}{f:α->Out}(h:Ok (op x f)):∃ a,x=some a/\Ok (f a):=by
 induction x with
 | none=>exact h.2.elim
 | some a=>exact(ag a rfl h)
theorem ej{b:Bool}{A:Out}(h:Ok (cond b A bad)):b=true/\Ok A:=by
 induction b with
 | false=>exact h.2.elim
 | true=>exact⟨rfl,h⟩
theorem gG{a b:Nat}{o:Out}(h:Ok (js a b o)):a=b/\Ok o:=by
 have h1:b::o.q.map (·.1)=a::o.q.map (·.2):=h.1
 rw [List.cons.injEq] at h1;exact(ao h1.1.symm h1.2 h.2)
theorem mQ:∀ {l:Tm} {n:Nat} {p:Nat×AO},nth l n=some p->p∈l:=by
 intro l_
 induction l_ with
 | nil=>
  intro c1_ c2_ h
  exact aA h
 | cons q l ih_=>
  intro c1_ p h
  induction c1_ using Nat.casesOn with
  | zero=>
    refine bo (Option.some.inj h ..) ?_;exact .head _
  | succ n=>
    exact .tail _ (ih_ (n:=n) h)
theorem bL.lk{F:Tm}{p:Nat×AO}(h:bL g F)(hp:p∈F):Lk g L p.1 p.2:=by
 refine aj (h p hp) fun r e=>?_;exact Lk.of r e
theorem tG{c:Nat}{F:Tm}{p:Nat×AO}(hF:bL g F)(h:tF c F L=some p):Lk g L p.1 p.2:=by
 unfold tF at h;induction e:Nat.blt ((c % 128)) 64 with
 | true=>rw [e] at h;exact hF.lk (mQ h)
 | false=>rw [e] at h;exact fun D hj=>hj.tmp p (mQ h)
theorem rd_ok{a:Nat}{K:AO->Sy->Out}{B:Out}(hF:bL s.g s.F/\Vf s.m s.V)(h:Ok (rd a s K B)):Ok B∨∃ o c,Lk s.g s.L a o/\Ok (K o ⟨c,s.F,s.V,s.g,s.L,s.m⟩):=by
 obtain ⟨c,F,V,g,L,m⟩:=s
 unfold rd at h;dsimp only at h;induction e:Nat.beq c 0 with
 | true=>rw [e] at h;exact .inl h
 | false=>
  rw [e] at h;replace h:Ok (op (tF c F L) fun p=>js a p.1 (K p.2 ⟨c / 128,F,V,g,L,m⟩)):=h;refine af (bi h) fun p hp h=>?_;refine aq (gG h) fun e2 h=>?_;exact .inr (aw p.2 _ (e2▸tG hF.1 hp) h)
theorem tV{l:Tm}{n:Nat}{p:Nat×AO}{o:AO}{k:Tm->Out}(e:nth l n=some p)(h:Ok (tU o l n k)):∃ A B,l=A++p::B/\Ok (k (A++(p.1,o)::B)):=by
 induction l generalizing n k with
 | nil=>exact aA e
 | cons q l ih=>
  induction n using Nat.casesOn with
  | zero=>
   obtain rfl:=Option.some.inj e;exact(aw [] l rfl h)
  | succ n=>
   refine aI (ih (n:=n) (k:=uj q k) e h) fun A B e1 h1=>?_;exact(aw (q::A) B (congrArg (q::·) e1) h1)
theorem wrt_ok{a:Nat}{f:AO->Option AO}{N:Sy->Out}{B:Out}(h:Ok (wrt a f s N B)):Ok B∨∃ o o' L' c,Lk s.g s.L a o/\f o=some o'/\Up s.g s.L a o' s.g L'/\Ok (N ⟨c,s.F,s.V,s.g,L',s.m⟩):=by
 obtain ⟨c,F,V,g,L,m⟩:=s
 unfold wrt at h;dsimp only at h;induction e:Nat.beq c 0 with
 | true=>rw [e] at h;exact .inl h
 | false=>
  rw [e] at h;replace h:Ok (op (nth L (c % 128 - 64)) fun p=>op (f p.2) fun o=>js a p.1 (tU o L (c % 128 - 64) fun L'=>N ⟨c / 128,F,V,g,L',m⟩)):=h;refine af (bi h) fun p hp h=>?_;refine af (bi h) fun o ho h=>?_;refine aq (gG h) fun e2 h=>?_;refine aI (tV hp h) fun A B e3 h=>?_;refine .inr (cu p.2 o _ _ (fun D hj=>e2▸hj.tmp p (mQ hp)) ho ?_ h);refine ac e2 ?_;subst e3;exact Up.ta A
theorem iB{b:Bool}{A B:Sy->Out}(hF:bL s.g s.F/\Vf s.m s.V)(h:Ok (tst b A B s)):(b=true->Go s.g s.L s.m A)/\(b=false->Go s.g s.L s.m B):=by
 obtain ⟨c,F,V,g,L,m⟩:=s
 unfold tst at h;dsimp only at h;induction e:Nat.beq c 0 with
 | true=>rw [e] at h;exact h.2
 | false=>
  rw [e] at h;induction e2:Nat.beq ((c % 128)) 1 with
  | true=>
   rw [e2] at h;have h2:Ok (js (cond b 1 0) 1 (A ⟨c / 128,F,V,g,L,m⟩)):=h;clear h;refine aq (gG h2) fun e3 h3=>?_;clear h2;induction b with
   | true=>exact⟨fun U=>(aD _ _ _ hF h3),(fun h=>yz h)⟩
   | false=>exact absurd e3 (by decide)
  | false=>
   rw [e2] at h;have h2:Ok (js (cond b 1 0) 0 (B ⟨c / 128,F,V,g,L,m⟩)):=h;clear h;refine aq (gG h2) fun e3 h3=>?_;clear h2;induction b with
   | false=>exact⟨(fun h=>gw h),fun U=>(aD _ _ _ hF h3)⟩
   | true=>exact absurd e3 (by decide)
theorem rQ{b:Bool}{A B:Sy->Out}(hF:bL s.g s.F/\Vf s.m s.V)(h:Ok (tsf b A B s)):(b=false->Go s.g s.L s.m A)/\(b=true->Go s.g s.L s.m B):=by
 obtain ⟨c,F,V,g,L,m⟩:=s
 unfold tsf at h;dsimp only at h;induction e:Nat.beq c 0 with
 | true=>rw [e] at h;exact h.2
 | false=>rw [e] at h;exact(iB (s:=⟨c,F,V,g,L,m⟩) hF h).symm
theorem Go.tst{b:Bool}{A B:Sy->Out}(h:Go g L m (Mine.Lake.tst b A B)):(b=true->Go g L m A)/\(b=false->Go g L m B):=by refine aU h fun c F V hF h=>?_;exact iB (s:=⟨c,F,V,g,L,m⟩) hF h
theorem Go.tsf{b:Bool}{A B:Sy->Out}(h:Go g L m (Mine.Lake.tsf b A B)):(b=false->Go g L m A)/\(b=true->Go g L m B):=by refine aU h fun c F V hF h=>?_;exact rQ (s:=⟨c,F,V,g,L,m⟩) hF h
def Snd(κ:Kx)(r:St->Res α)(X:(α->Sy->Out)->Sy->Out):Prop:=∀ K s,(bL s.g s.F/\Vf s.m s.V)->Ok (X K s)->wp r (Ct K) κ.E s.g s.L s.m
def SndN(κ:Kx)(r:St->Res Unit)(X:(Sy->Out)->Sy->Out):Prop:=∀ N s,(bL s.g s.F/\Vf s.m s.V)->Ok (X N s)->wp r (fun U=>Cu N) κ.E s.g s.L s.m
def SndS(κ:Kx)(r:St->Res Flow)(X:(Sy->Out)->Sy->Out):Prop:=∀ N s,(bL s.g s.F/\Vf s.m s.V)->Ok (X N s)->wpS r (Cu N) (Ct κ.R) κ.E s.g s.L s.m
theorem Snd.go{r:St->Res α}{X:(α->Sy->Out)->Sy->Out}{K:α->Sy->Out}(h:Snd κ r X)(hg:Go g L m (fun s=>X K s)):wp r (Ct K) κ.E g L m:=by
 refine aU hg fun c F V hF hk=>?_;clear hg;exact h K ⟨c,F,V,g,L,m⟩ hF hk
theorem SndN.go{r:St->Res Unit}{X:(Sy->Out)->Sy->Out}{K:Sy->Out}(h:SndN κ r X)(hg:Go g L m (fun s=>X K s)):wp r (fun U=>Cu K) κ.E g L m:=by
 refine aU hg fun c F V hF hk=>?_;clear hg;exact h K ⟨c,F,V,g,L,m⟩ hF hk
theorem SndS.go{r:St->Res Flow}{X:(Sy->Out)->Sy->Out}{N:Sy->Out}(h:SndS κ r X)(hg:Go g L m (X N)):wpS r (Cu N) (Ct κ.R) κ.E g L m:=by
 refine aU hg fun c F V hF hk=>?_;clear hg;exact h N ⟨c,F,V,g,L,m⟩ hF hk
theorem Snd.ret{v:α}:Snd κ (fun s=>.ok v s) (fun K s=>K v s):=fun K s hF h=>aF (aD s.c s.F s.V hF h)
theorem Snd.lift{o:Option α}:Snd κ (fun s=>Mine.Lake.lift o s) (fun K s=>op o fun v=>K v s):=fun K s hF h=>by
 refine af (bi h) fun v e h=>?_;exact ou e (aD s.c s.F s.V hF h)
theorem Snd.bind{x:St->Res α}{f:α->St->Res β}{X:(α->Sy->Out)->Sy->Out}{Y:α->(β->Sy->Out)->Sy->Out}(h1:Snd κ x X)(h2:∀ a,Snd κ (f a) (Y a)):Snd κ (fun s=>(x s).bind f) (fun K s=>X (fun a s=>Y a K s) s):=fun K s hF h=>
 ay (wp_mono (h1 _ s hF h) (fun a U U U h=>(h2 a).go h) fun U U U h=>h)
theorem Snd.bindN{x:St->Res α}{f:α->St->Res Unit}{X:(α->Sy->Out)->Sy->Out}{Y:α->(Sy->Out)->Sy->Out}(h1:Snd κ x X)(h2:∀ a,SndN κ (f a) (Y a)):SndN κ (fun s=>(x s).bind f) (fun K s=>X (fun a s=>Y a K s) s):=fun K s hF h=>
 ay (wp_mono (h1 _ s hF h) (fun a U U U h=>(h2 a).go h) fun U U U h=>h)
theorem SndN.bind{x:St->Res Unit}{f:Unit->St->Res Unit}{X Y:(Sy->Out)->Sy->Out}(h1:SndN κ x X)(h2:SndN κ (f ()) Y):SndN κ (fun s=>(x s).bind f) (fun K s=>X (fun s=>Y K s) s):=fun K s hF h=>
 ay (wp_mono (h1 _ s hF h) (fun a U U U h=>h2.go h) fun U U U h=>h)
theorem cf{r:St->Res α}{K:α->Sy->Out}(h:Ok (xb κ r K s)):wp r (Ct K) κ.E s.g s.L s.m:=lN▸h.2
theorem Snd.raw{r:St->Res α}:Snd κ r (fun K s=>xb κ r K s):=fun K s hF h=>cf h
theorem SndN.raw{r:St->Res Unit}:SndN κ r (fun N s=>xb κ r (fun U s=>N s) s):=fun K s hF h=>cf h
theorem Snd.tst{b:Bool}{x y:St->Res α}{X Y:(α->Sy->Out)->Sy->Out}(h1:Snd κ x X)(h2:Snd κ y Y):Snd κ (fun s=>if b=true then x s else y s) (fun K s=>Mine.Lake.tst b (fun s=>X K s) (fun s=>Y K s) s):=fun K s hF h=>by
 have h:=iB hF h
 induction b with
 | true=>exact h1.go (h.1 rfl)
 | false=>exact h2.go (h.2 rfl)
theorem Snd.bool{v:AV}:Snd κ (fT v) (fun K s=>op (gT v) fun b=>K b s):=fun K s hF h=>by
 refine af (bi h) fun b e h=>?_;induction v with
 | bool b'=>obtain rfl:=Option.some.inj e;exact aF (aD s.c s.F s.V hF h)
 | _=>exact aA e
theorem asObj_of{v:AV}{i:Nat}(h:gU v=some i):v=.obj i:=by
 induction v with
 | obj j=>exact ac (Option.some.inj h ..) rfl
 | _=>exact aA h
theorem iU{o:AO}{p:Nat×Nat}(h:l3 o=some p):o=.inst p.1 p.2:=by
 induction o with
 | inst C d=>exact bo (Option.some.inj h ..) rfl
 | _=>exact aA h
theorem e_{o:AO}{l:Vs}(h:l4 o=some l):o=.sd l:=by
 induction o with
 | sd l'=>exact bo (Option.some.inj h ..) rfl
 | _=>exact aA h
theorem pG{o:AO}{l:List (Int×AV)}(h:pF o=some l):o=.idd l:=by
 induction o with
 | idd l'=>exact bo (Option.some.inj h ..) rfl
 | _=>exact aA h
theorem sx{o:AO}{l:List AV}(h:wK o=some l):o=.tu l:=by
 induction o with
 | tu l'=>exact bo (Option.some.inj h ..) rfl
 | _=>exact aA h
theorem jt{o:AO}{l:Option AV}(h:kF o=some l):o=.ce l:=by
 induction o with
 | ce l'=>exact bo (Option.some.inj h ..) rfl
 | _=>exact aA h
theorem Snd.getA{a:AV}{n:Nm}:Snd κ (getA a n) (qy κ a n):=fun K s hF h=>by
 refine af (bi h) fun i e h=>?_
 cases asObj_of e
 rcases rd_ok hF h with h | ⟨o,c,h1,h⟩
 ·exact cf h
 ·refine af (bi h) fun p e h=>?_;rw [iU e] at h1;rcases rd_ok (s:=⟨c,s.F,s.V,s.g,s.L,s.m⟩) hF h with h | ⟨o,c,h2,h⟩
  ·exact cf h
  ·refine aq (ej h) fun h3 h=>?_;refine af (bi h) fun l e h=>?_;refine af (bi h) fun v e2 h=>?_;rw [e_ e] at h2;exact u9 h1 h2 h3 e2 (aD _ _ _ hF h)
theorem Snd.getI{a i:AV}:Snd κ (getI a i) (qz κ a i):=fun K s hF h=>by
 induction i with
 | str x=>
  refine af (bi h) fun j e h=>?_;rcases rd_ok hF h with h | ⟨o,c,h1,h⟩
  ·exact cf h
  ·refine af (bi h) fun l e1 h=>?_;refine af (bi h) fun v e2 h=>?_;rw [e_ e1] at h1;refine ac (asObj_of e ..) ?_;exact nE h1 e2 (aD _ _ _ hF h)
 | _=>exact cf h
theorem sP{o:CmpOp}{a b:AV}{r:Bool}(h:uW o a b=some r)(z:St):eO o a b z=some r:=by
 induction a with
 | int x=>induction b with
  | int y=>induction o with
   | In=>exact aA h
   | NotIn=>exact aA h
   | Is=>exact aA h
   | IsNot=>exact aA h
   | _=>refine bo h ?_;rfl
  | _=>exact aA h
 | bytes x=>induction b with
  | bytes y=>induction o with
   | Eq=>refine bo h ?_;rfl
   | NotEq=>refine bo h ?_;rfl
   | _=>exact aA h
  | _=>exact aA h
 | str x=>induction b with
  | str y=>induction o with
   | Eq=>refine bo h ?_;rfl
   | NotEq=>refine bo h ?_;rfl
   | _=>exact aA h
  | _=>exact aA h
 | none=>induction b with
  | none=>induction o with
   | Is=>refine bo h ?_;rfl
   | IsNot=>refine bo h ?_;rfl
   | _=>exact aA h
  | obj y=>induction o with
   | IsNot=>refine bo h ?_;rfl
   | _=>exact aA h
  | _=>exact aA h
 | obj x=>induction b with
  | none=>induction o with
   | Is=>refine bo h ?_;rfl
   | IsNot=>refine bo h ?_;rfl
   | _=>exact aA h
  | _=>exact aA h
 | _=>exact aA h
theorem Snd.cmp{o:CmpOp}{a b:AV}:Snd κ (dc o a b) (nw κ o a b):=fun K s hF h=>by
 unfold nw at h;induction e:uW o a b with
 | none=>rw [e] at h;exact cf h
 | some r=>rw [e] at h;exact dp (fun z U=>sP e z) (aD _ _ _ hF h)
theorem nW{args:List AV}{k:AV->Option AV}{v:AV}(h:p1 args k=some v):∃ a,args=[a]/\k a=some v:=by
 induction args using List.casesOn with
 | nil=>exact aA h
 | cons a r=>induction r using List.casesOn with
  | nil=>exact(ag a rfl h)
  | cons _ _=>exact aA h
theorem sv{v:AV}{f:Bf}(h:wJ v=some f):v=.bf f:=by
 induction v with
 | bf j=>exact ac (Option.some.inj h ..) rfl
 | _=>exact aA h
theorem e9{v:AV}{i:Int}(h:e8 v=some i):v=.int i:=by
 induction v with
 | int j=>exact ac (Option.some.inj h ..) rfl
 | _=>exact aA h
theorem Snd.bin{r:St->Res AV}{o:Operator}{a b:AV}(hr:∀ x y z,a=.int x->b=.int y->dY o x y=some z->r=fun s=>.ok (.int z) s):Snd κ r (oI κ r o a b):=fun K s hF h=>by
 obtain ⟨c,F,V,g,L,m⟩:=s
 unfold oI at h;dsimp only at h;induction e:Nat.beq c 0 with
 | true=>rw [e] at h;exact cf h
 | false=>
  rw [e] at h;replace h:Ok (op (e8 a) fun x=>op (e8 b) fun y=>op (dY o x y) fun z=>K (.int z) ⟨c / 128,F,V,g,L,m⟩):=h;refine af (bi h) fun x e1 h=>?_;refine af (bi h) fun y e2 h=>?_;refine af (bi h) fun z e3 h=>?_;refine ac (hr x y z (e9 e1) (e9 e2) e3 ..) ?_;exact aF (aD _ _ _ hF h)
theorem Snd.binop{o:Operator}{a b:AV}:Snd κ (binop o a b) (oI κ (binop o a b) o a b):=Snd.bin fun x y z h1 h2 h3=>by
 funext s
 refine ac h1 (ac h2 ?_);show Mine.Lake.lift ((dY o x y).map AV.int) s=_;refine ac h3 ?_;rfl
theorem Snd.iop{o:Operator}{a b:AV}:Snd κ (iop o a b) (oI κ (iop o a b) o a b):=Snd.bin fun x y z h1 h2 h3=>by
 funext s
 refine ac h1 (ac h2 ?_);show Mine.Lake.lift ((dY o x y).map AV.int) s=_;refine ac h3 ?_;rfl
theorem q_{f:Bf}{args:List AV}{v:AV}(h:q9 f args=some v)(z:St):cU f args z=.ok v z:=by
 induction f with
 | abs=>
  refine af (nW h) fun a e h=>?_;refine af (Option.map_eq_some_iff.mp h) fun i e2 h=>?_;refine ac e (ac (e9 e2 ..) (bo h ?_));rfl
 | int=>
  refine af (nW h) fun a e h=>?_;refine ac e ?_;induction a with
  | int i=>refine bo (Option.some.inj h ..) ?_;rfl
  | bool i=>refine bo (Option.some.inj h ..) ?_;rfl
  | _=>exact aA h
 | isinstance=>induction args using List.casesOn with
  | nil=>exact aA h
  | cons x r=>
   refine af (nW h) fun a e h=>?_;refine af (Option.bind_eq_some_iff.mp h) fun f e2 h=>?_;refine ac e (ac (sv e2 ..) ?_);induction f with
   | int=>induction x with
    | int _=>refine bo (Option.some.inj h ..) ?_;exact if_pos rfl
    | none=>refine bo (Option.some.inj h ..) ?_;exact if_pos rfl
    | _=>exact aA h
   | _=>exact aA h
 | bytes=>
  refine af (nW h) fun a e h=>?_;refine ac e ?_;induction a with
  | bytes b=>refine bo (Option.some.inj h ..) ?_;rfl
  | _=>exact aA h
 | _=>exact aA h
theorem qB{l:List (Int×AV)}{args:List AV}{v:AV}(h:qA l args=some v)(z:St):u_ l args z=.ok v z:=by
 induction args using List.casesOn with
 | nil=>exact aA h
 | cons x r=>
  refine af (Option.bind_eq_some_iff.mp h) fun k e h=>?_;refine ac (e9 e ..) ?_;induction r using List.casesOn with
  | nil=>refine bo (Option.some.inj h ..) ?_;rfl
  | cons d r=>induction r using List.casesOn with
   | nil=>refine bo (Option.some.inj h ..) ?_;rfl
   | cons _ _=>exact aA h
theorem Snd.map{f:α->St->Res β}{X:α->(β->Sy->Out)->Sy->Out}(h:∀ a,Snd κ (f a) (X a)):∀ l,Snd κ (bx f l) (jY X l):=by
 intro l_
 induction l_ with
 | nil=>
  exact Snd.ret
 | cons a l ih_=>
  exact(h a).bind fun b=>(ih_).bind fun r=>Snd.ret
theorem Snd.opt{f:α->St->Res β}{X:α->(β->Sy->Out)->Sy->Out}(h:∀ a,Snd κ (f a) (X a)):∀ o,Snd κ (iL f o) (vn X o)
 | none=>Snd.ret
 | some a=>(h a).bind fun b=>Snd.ret
structure Snds(κ:Kx)(F:Fns)(X:XF):Prop where
 e:∀ env e,Snd κ (F.E env e) (X.E env e)
 t:∀ env e,Snd κ (F.T env e) (X.T env e)
 s:∀ env l,SndS κ (F.S env l) (X.S env l)
variable {n:Nat}{X:XF}{env:AEnv}(hC:∀ f args,κ.C (.bf f) args=cU f args)(H:Snds κ (aL κ.C n) X)
include hC in
theorem Snd.call{f:AV}{args:List AV}:Snd κ (κ.C f args) (qg κ f args):=fun K s hF h=>by
 induction f with
 | bf b=>
  unfold qg at h;dsimp only at h;induction e:q9 b args with
  | none=>rw [e] at h;exact cf h
  | some v=>rw [e] at h;exact ac (hC ..) (aE (y:=fun z=>.ok v z) (fun z U U=>q_ e z) (aF (aD _ _ _ hF h)))
 | _=>exact cf h
include H
theorem Snd.mc{a:AV}{x:Nm}{args:List RE}:Snd κ (r8 κ.C (aL κ.C n) env a x args) (yY κ n X env a x args):=fun K s hF h=>by
 refine af (bi h) fun i e h=>?_;rcases rd_ok hF h with h | ⟨o,c,h1,h⟩
 ·exact cf h
 ·have M:=Snd.map (fun a=>H.e env a) args
  cases asObj_of e
  induction o with
  | inst C' d=>
   rcases rd_ok (s:=⟨c,s.F,s.V,s.g,s.L,s.m⟩) hF h with h | ⟨o,c,h2,h⟩
   ·exact cf h
   ·refine af (bi h) fun l e h=>?_;refine af (bi h) fun f e2 h=>?_;refine aq (ej h) fun e3 h=>?_;rw [e_ e] at h2;exact us h1 h2 e2 (Option.isNone_iff_eq_none.mp e3) (wp_mono (M _ ⟨c,s.F,s.V,s.g,s.L,s.m⟩ hF h) (fun v U U U h=>Snd.raw.go h) fun U U U h=>h)
  | li l=>
   refine aq (ej h) fun e3 h=>?_;exact w6 h1 (of_decide_eq_true e3) (wp_mono (M _ ⟨c,s.F,s.V,s.g,s.L,s.m⟩ hF h) (fun v U U U h=>Snd.raw.go h) fun U U U h=>h)
  | idd l=>
   refine aq (ej h) fun e3 h=>?_;refine vi h1 (of_decide_eq_true e3) (wp_mono (M _ ⟨c,s.F,s.V,s.g,s.L,s.m⟩ hF h) (fun v g L m z0_=>aU z0_ fun c F' V hF h=>?_) fun U U U h=>h);replace h:Ok (cond (decide (x=.get)) (rd i ⟨c,F',V,g,L,m⟩ _ _) (xb κ (bB x i v) K ⟨c,F',V,g,L,m⟩)):=h;by_cases q:x=.get
   ·rw [show decide (x=.get)=true from decide_eq_true q] at h;replace h:Ok (rd i ⟨c,F',V,g,L,m⟩ (fun o s=>op (pF o) fun l=>op (qA l v) fun v=>K v s) (xb κ (bB x i v) K ⟨c,F',V,g,L,m⟩)):=h;rcases rd_ok (s:=⟨c,F',V,g,L,m⟩) hF h with h | ⟨o,c,h2,h⟩
    ·exact cf h
    ·refine af (bi h) fun l e h=>?_;refine af (bi h) fun r e1 h=>?_;rw [pG e] at h2;exact aE (y:=fun z=>.ok r z) (fun z hs U=>by unfold bB;refine ac (hat hs h2 ..) (ac q ?_);exact qB e1 z) (aF (aD _ _ _ hF h))
   ·rw [show decide (x=.get)=false from decide_eq_false q] at h;exact cf (s:=⟨c,F',V,g,L,m⟩) h
  | _=>exact h.2.elim
theorem Snd.bop{o:BoolOp}:∀ es,Snd κ (kQ (aL κ.C n) env o es) (sE X env o es):=by
 intro l_
 induction l_ with
 | nil=>
  exact fun K s hF h=>h.2.elim
 | cons e t_ ih_=>
  induction t_ using List.casesOn with
  | nil=>
    exact H.e env e
  | cons e2 es=>
    exact fun K s hF h=>by
     induction o with
     | And=>
      refine sF (wp_mono (H.e env e _ s hF h) (fun v g L m z0_=>aU z0_ fun c F' V hF h=>?_) fun U U U h=>h);refine af (bi h) fun b e h=>?_;have h:=iB (s:=⟨c,F',V,g,L,m⟩) hF h;refine(aH b ?_ (fun q=>(ih_).go (h.1 q)) h.2);induction v with
      | bool b=>obtain rfl:=Option.some.inj e;rfl
      | _=>exact aA e
     | Or=>
      refine uO (wp_mono (H.e env e _ s hF h) (fun v g L m z0_=>aU z0_ fun c F' V hF h=>?_) fun U U U h=>h);refine af (bi h) fun b e h=>?_;have h:=rQ (s:=⟨c,F',V,g,L,m⟩) hF h;refine(aH b ?_ (fun q=>(ih_).go (h.1 q)) h.2);induction v with
      | bool b=>obtain rfl:=Option.some.inj e;rfl
      | _=>exact aA e
theorem Snd.all{o:BoolOp}:∀ es,Snd κ (dP (aL κ.C n) env o es) (pE X env o es):=by
 intro l_
 induction l_ with
 | nil=>
  exact fun K s hF h=>by
   induction o with
   | And=>exact ed (aD _ _ _ hF h)
   | Or=>exact ed (aD _ _ _ hF h)
 | cons e es ih_=>
  exact fun K s hF h=>by
   induction o with
   | And=>exact nl (wp_mono (H.t env e _ s hF h) (fun v g L m h=>have h:=Go.tst h;⟨fun q=>(ih_).go (h.1 q),h.2⟩) fun U U U h=>h)
   | Or=>exact lZ (wp_mono (H.t env e _ s hF h) (fun v g L m h=>have h:=Go.tsf h;⟨fun q=>(ih_).go (h.1 q),h.2⟩) fun U U U h=>h)
theorem Snd.chain(a:AV)(ops:List (CmpOp×RE)):Snd κ (chain (aL κ.C n) env a ops) (fun K=>jJ κ X env ops K a):=by
 induction ops generalizing a with
 | nil=>exact fun K s hF h=>h.2.elim
 | cons p ops ih=>induction ops using List.casesOn with
  | nil=>exact(H.e env p.2).bind fun b=>Snd.cmp
  | cons p2 ops=>exact fun K s hF h=>sO (op:=p.1) (r:=p.2) (wp_mono (H.e env p.2 _ s hF h) (fun v g L m h=>wp_mono (Snd.cmp.go h) (fun c g L m h=>have h:=Go.tst h;⟨fun q=>(ih v).go (h.1 q),h.2⟩) fun U U U h=>h) fun U U U h=>h)
omit H in
theorem Snd.un{o:UnaryOp}{x:St->Res AV}{Y:(AV->Sy->Out)->Sy->Out}(h:Snd κ x Y):Snd κ (fun s=>match o with
  | .Not=>(x s).bind fun v s=>(fT v s).bind fun b s=>.ok (.bool (!b)) s
  | o=>(x s).bind fun v s=>rS o v s) (fun K s=>Y (fun v s=>y8 o v K s) s):=by
 induction o with
 | Not=>exact h.bind fun v=>Snd.bool.bind fun b=>Snd.ret
 | USub=>
  refine h.bind fun v K s hF h=>?_;refine af (bi h) fun b e h=>?_;induction v with
  | int b=>obtain rfl:=Option.some.inj e;exact aF (aD _ _ _ hF h)
  | _=>exact aA e
 | Invert=>
  refine h.bind fun v K s hF h=>?_;refine af (bi h) fun b e h=>?_;induction v with
  | int b=>obtain rfl:=Option.some.inj e;exact aF (aD _ _ _ hF h)
  | _=>exact aA e
 | UAdd=>exact h.bind fun v K s hF h=>h.2.elim
omit H in
theorem Snd.okL{vs:List AV}{o:AO}:Snd κ (fun s=>if bg vs=true then s.new o else .bad) (fun K s=>cond (bg vs) (tB o K s) bad):=fun K s hF h=>by
 refine aq (ej h) fun e h=>?_;refine ac e ?_;exact wp_new h.2
include hC
theorem Snd.stepE(e:RE):Snd κ (stepE κ.C (aL κ.C n) env e) (rK κ n X env e):=by
 cases e with
 | none=>exact Snd.ret
 | bool b=>exact Snd.ret
 | int i=>exact Snd.ret
 | str x=>exact Snd.ret
 | loc x=>
   intro K s hF h
   refine af (bi h) fun v e h=>?_;exact aE (y:=fun s=>.ok v s) (fun z U hm=>by show Mine.Lake.lift (lk z.m x) z=_;refine ac hm (ac (hF.2 _ _ e ..) ?_);rfl) (aF (aD _ _ _ hF h))
 | cel x=>
   intro K s hF h
   refine af (bi h) fun i e h=>?_;rcases rd_ok hF h with h | ⟨o,c,h1,h⟩
   ·exact cf h
   ·refine af (bi h) fun v e1 h=>?_;refine af (bi h) fun v' e2 h=>?_;rw [jt e1,e2] at h1;exact aE (y:=fun s=>.ok v' s) (fun z hs U=>by show ig env x z=_;unfold ig;refine ac e ?_;dsimp only;exact ac (hat hs h1 ..) rfl) (aF (aD _ _ _ hF h))
 | glo x=>exact Snd.lift
 | attr e n=>exact(H.e env e).bind fun o=>Snd.getA
 | sub e i=>exact(H.e env e).bind fun o=>(H.e env i).bind fun i=>Snd.getI
 | slc e lo hi=>exact(H.e env e).bind fun o=>(Snd.opt (fun a=>H.e env a) lo).bind fun a=>(Snd.opt (fun a=>H.e env a) hi).bind fun b=>Snd.raw
 | call f args=>exact(H.e env f).bind fun f=>(Snd.map (fun a=>H.e env a) args).bind fun as=>Snd.call hC
 | mcall o n args=>exact(H.e env o).bind fun a=>Snd.mc H
 | bin o a b=>exact(H.e env a).bind fun a=>(H.e env b).bind fun b=>Snd.binop
 | un o a=>exact Snd.un (H.e env a)
 | bop o es=>exact Snd.bop H es
 | cmp l ops=>exact(H.e env l).bind fun a=>(Snd.chain H a ops).bind fun b=>Snd.ret
 | ife t a b=>exact(H.t env t).bind fun c=>Snd.tst (H.e env a) (H.e env b)
 | list es=>exact(Snd.map (fun a=>H.e env a) es).bind fun vs=>Snd.okL
 | tup es=>exact(Snd.map (fun a=>H.e env a) es).bind fun vs=>Snd.okL
 | dict kvs=>induction kvs using List.casesOn with
  | nil=>exact fun K s hF h=>sX (C:=κ.C) (n:=0) (env:=env) h.2
  | cons _ _=>exact Snd.raw
 | comp elt x kind iter ifs frees=>exact Snd.raw
 | lam body frees=>
   intro K s hF h
   refine af (bi h) fun cells e h=>?_;have e2:∃ t,env.tab=t+1:=by
    induction q:env.tab using Nat.casesOn with
    | zero=>rw [q] at h;exact h.2.elim
    | succ t=>exact⟨t,rfl⟩
   refine aj e2 fun t e2=>?_;rw [e2] at h;exact wQ (C:=κ.C) (n:=0) e e2 h.2
omit hC
theorem Snd.stepT(e:RE):Snd κ (stepT (aL κ.C n) env e) (stepXT κ X env e):=by
 induction e using RE.casesOn with
 | un o a=>induction o with
  | Not=>exact(H.t env a).bind fun b=>Snd.ret
  | _=>exact(H.e env _).bind fun v=>Snd.bool
 | bop o es=>exact Snd.all H es
 | ife t a b=>exact(H.t env t).bind fun c=>Snd.tst (H.t env a) (H.t env b)
 | cmp l ops=>exact(H.e env l).bind fun a=>Snd.chain H a ops
 | _=>exact(H.e env _).bind fun v=>Snd.bool
omit H in
theorem SndN.setA{a:AV}{n:Nm}{v:AV}:SndN κ (setA a n v) (rE κ a n v):=fun N s hF h=>by
 refine af (bi h) fun i e h=>?_
 cases asObj_of e
 rcases rd_ok hF h with h | ⟨o,c,h1,h⟩
 ·exact cf h
 ·refine af (bi h) fun p e h=>?_;rw [iU e] at h1;rcases wrt_ok (s:=⟨c,s.F,s.V,s.g,s.L,s.m⟩) h with h | ⟨o,o',L',c,h2,e1,hu,h⟩
  ·exact cf h
  ·induction q:l4 o with
   | none=>rw [q] at e1;exact aA e1
   | some l=>
    rw [q] at e1;rw [e_ q] at h2;dsimp only at e1;induction q2:(okData p.1 n&&Nat.blt l.length 60) with
    | false=>rw [q2] at e1;exact aA e1
    | true=>
     rw [q2] at e1;rw [<- Option.some.inj e1] at hu;refine aq (Bool.and_eq_true_iff.mp q2) fun h3 h4=>?_;exact dj h1 h2 h3 (Nat.blt_eq.mp h4) hu (aD _ _ _ hF h)
omit H in
theorem SndN.setI{a i v:AV}:SndN κ (setI a i v) (uw κ a i v):=fun N s hF h=>by
 induction i with
 | str x=>
  refine af (bi h) fun j e h=>?_
  cases asObj_of e
  rcases wrt_ok h with h | ⟨o,o',L',c,h2,e1,hu,h⟩
  ·exact cf h
  ·induction q:l4 o with
   | none=>rw [q] at e1;exact aA e1
   | some l=>
    rw [q] at e1;rw [e_ q] at h2;dsimp only at e1;induction q2:Nat.blt l.length 60 with
    | false=>rw [q2] at e1;exact aA e1
    | true=>
     rw [q2] at e1;rw [<- Option.some.inj e1] at hu;exact dL h2 (Nat.blt_eq.mp q2) hu (aD _ _ _ hF h)
 | _=>exact cf h
theorem SndN.asg1{t:RT1}{v:AV}:SndN κ (asg1 (aL κ.C n) env t v) (pH κ n X env t v):=by
 induction t with
 | loc x=>exact fun N s hF h=>wF (F:=aL κ.C n) (env:=env) (QU:=fun U=>Cu N) (aD _ _ _ ⟨hF.1,Vf.s hF.2⟩ h)
 | cel x=>
  intro N s hF h
  refine af (bi h) fun i e h=>?_;rcases wrt_ok h with h | ⟨o,o',L',c,h2,e1,hu,h⟩
  ·exact cf h
  ·induction q:kF o with
   | none=>rw [q] at e1;exact aA e1
   | some l=>
    rw [q] at e1;rw [jt q] at h2;rw [<- Option.some.inj e1] at hu;exact wE (F:=aL κ.C n) (QU:=fun U=>Cu N) e h2 hu (aD _ _ _ hF h)
 | attr e n=>exact(H.e env e).bindN fun o=>SndN.setA
 | sub e i=>exact(H.e env e).bindN fun o=>(H.e env i).bindN fun i=>SndN.setI
 | slc e lo hi=>exact(H.e env e).bindN fun o=>(Snd.opt (fun a=>H.e env a) lo).bindN fun a=>(Snd.opt (fun a=>H.e env a) hi).bindN fun b=>SndN.raw
theorem SndN.asgL:∀ (ts:List RT1) (vs:List AV),SndN κ (asgL (aL κ.C n) env ts vs) (pI κ n X env ts vs):=by
 intro l_
 induction l_ with
 | nil=>
  intro c1_
  induction c1_ using List.casesOn with
  | nil=>
    exact fun N s hF h=>aF (aD _ _ _ hF h)
  | cons y1_ y2_=>
    exact fun N s hF h=>h.2.elim
 | cons t ts ih_=>
  intro c1_
  induction c1_ using List.casesOn with
  | nil=>
    exact fun N s hF h=>h.2.elim
  | cons v vs=>
    exact(SndN.asg1 H).bind (ih_ vs)
theorem SndN.asgT{t:RT}{v:AV}:SndN κ (asgT (aL κ.C n) env t v) (ui κ n X env t v):=by
 induction t with
 | one t=>exact SndN.asg1 H
 | tup ts=>
  intro N s hF h
  refine af (bi h) fun i e h=>?_;rcases rd_ok hF h with h | ⟨o,c,h1,h⟩
  ·exact cf h
  ·refine af (bi h) fun vs e1 h=>?_;refine aq (ej h) fun e2 h=>?_;rw [sx e1] at h1;refine ac (asObj_of e ..) ?_;exact wG (QU:=fun U=>Cu N) h1 (Nat.eq_of_beq_eq_true e2) (SndN.asgL H ts vs N ⟨c,s.F,s.V,s.g,s.L,s.m⟩ hF h)
omit H in
theorem Snd.nx{α:Type}{x:St->Res α}{f:α->St->Res Unit}{Y:(α->Sy->Out)->Sy->Out}{ρ:α->(Sy->Out)->Sy->Out}(h1:Snd κ x Y)(h2:∀ a,SndN κ (f a) (ρ a)):SndS κ (fun s=>(x s).bind fun a s=>(f a s).bind fun U s=>.ok .next s) (fun N s=>Y (fun a=>ρ a N) s):=fun N s hF h=>
 ay (wp_mono (h1 _ s hF h) (fun a U U U h=>ay (wp_mono ((h2 a).go h) (fun U U U U h=>aF h) fun U U U h=>h)) fun U U U h=>h)
omit H in
theorem Snd.bS{α:Type}{x:St->Res α}{f:α->St->Res Flow}{Y:(α->Sy->Out)->Sy->Out}{ρ:α->(Sy->Out)->Sy->Out}(h1:Snd κ x Y)(h2:∀ a,SndS κ (f a) (ρ a)):SndS κ (fun s=>(x s).bind f) (fun N s=>Y (fun a=>ρ a N) s):=fun N s hF h=>
 ay (wp_mono (h1 _ s hF h) (fun a U U U h=>(h2 a).go h) fun U U U h=>h)
theorem SndS.step1(x:RS):SndS κ (step1 (aL κ.C n) env x) (rI κ n X env x):=by
 induction x using RS.casesOn with
 | asg t e=>exact(H.e env e).nx fun v=>SndN.asgT H
 | augA e n o v=>exact(H.e env e).bS fun a=>Snd.getA.bS fun x=>(H.e env v).bS fun b=>Snd.iop.nx fun r=>SndN.setA
 | augS e i o v=>exact(H.e env e).bS fun a=>(H.e env i).bS fun i=>Snd.getI.bS fun x=>(H.e env v).bS fun b=>Snd.iop.nx fun r=>SndN.raw
 | ret e=>exact fun N s hF h=>vK (H.e env e κ.R s hF h)
 | retN=>exact fun N s hF h=>aF (aD _ _ _ hF h)
 | ite t a b=>exact fun N s hF h=>rp (wp_mono (H.t env t _ s hF h) (fun c g L m h=>have h:=Go.tst h;⟨fun q=>(H.s env a).go (h.1 q),fun q=>(H.s env b).go (h.2 q)⟩) fun U U U h=>h)
 | «for» t kind iter body=>exact fun N s hF h=>vF (wp_mono (H.e env iter _ s hF h) (fun v g L m z0_=>aU z0_ fun U U U U h=>h.2) fun U U U h=>h)
 | expr e=>exact fun N s hF h=>tP (wp_mono (H.e env e _ s hF h) (fun U U U U h=>h) fun U U U h=>h)
 | del e i=>exact(H.e env e).bS fun o=>(H.e env i).bS fun i=>fun N s hF h=>ay (wp_mono (SndN.raw N s hF h) (fun U U U U h=>aF h) fun U U U h=>h)
 | raise c=>
  intro N s hF h
  refine af (bi h) fun c e h=>?_;exact ru e h.2
 | tryE body hs=>exact fun N s hF h=>m9▸h.2
 | bad=>exact fun N s hF h=>m9▸h.2
theorem SndS.stepS:∀ l,SndS κ (stepS (aL κ.C n) env l) (stepXS κ n X env l):=by
 intro l_
 induction l_ with
 | nil=>
  exact fun N s hF h=>aF (aD _ _ _ hF h)
 | cons x l ih_=>
  exact fun N s hF h=>ay (wp_mono (SndS.step1 H x _ s hF h) (fun fl U U U h=>by
   induction fl with
   | next=>exact(ih_).go h
   | ret v=>exact aF h) fun U U U h=>h)
omit H in
include hC in
theorem iO:∀ n,Snds κ (aL κ.C n) (f0 κ n)
 | 0=>⟨fun U U U U U h=>h.2.elim,fun U U U U U h=>h.2.elim,fun U U U U U h=>h.2.elim⟩
 | n+1=>⟨fun env e=>Snd.stepE hC (iO n) e,fun env e=>Snd.stepT (iO n) e,fun env l=>SndS.stepS (iO n) l⟩
end
section
variable {k a tab:Nat}{ps:List Nm}{body:List RS}{args:List AV}{E:Nat->G->Tm->Prop}{g:G}{L:Tm}{m m':Vs}{Q:AV->G->Tm->Vs->Prop}
noncomputable def Rx(L:Tm)(Q:AV->G->Tm->Vs->Prop)(m:Vs)(v:AV)(s:Sy):Out:=match s with | ⟨_,_,_,g',L',_⟩=>bl (Sfx L L'/\Q v g' L m)
@[reducible] def Fx(k:Nat)(E:Nat->G->Tm->Prop)(L:Tm)(Q:AV->G->Tm->Vs->Prop)(m:Vs):Kx:=⟨lvl aG (k+1),fun C g' L'=>Sfx L L'/\E C g' L,Rx L Q m⟩
theorem rx{g':G}{L':Tm}{m':Vs}{v:AV}(h:Go g' L' m' (Rx L Q m v)):Sfx L L'/\Q v g' L m:=by refine aU h fun U U U U h=>?_;exact h.2
theorem ak:cE []:=rfl
theorem bT{i0:Nat}:cE [(i0,i0)]:=rfl
theorem aX{i0 i1:Nat}:cE [(i0,i0),(i1,i1)]:=rfl
theorem cR{i0 i1 i2:Nat}:cE [(i0,i0),(i1,i1),(i2,i2)]:=rfl
theorem ec{i0 i1 i2 i3:Nat}:cE [(i0,i0),(i1,i1),(i2,i2),(i3,i3)]:=rfl
theorem wj{i0 i1 i2 i3 i4:Nat}:cE [(i0,i0),(i1,i1),(i2,i2),(i3,i3),(i4,i4)]:=rfl
theorem wH{i0 i1 i2 i3 i4 i5:Nat}:cE [(i0,i0),(i1,i1),(i2,i2),(i3,i3),(i4,i4),(i5,i5)]:=rfl
theorem yM{i0 i1 i2 i3 i4 i5 i6:Nat}:cE [(i0,i0),(i1,i1),(i2,i2),(i3,i3),(i4,i4),(i5,i5),(i6,i6)]:=rfl
theorem xH{i0 i1 i2 i3 i4 i5 i6 i7:Nat}:cE [(i0,i0),(i1,i1),(i2,i2),(i3,i3),(i4,i4),(i5,i5),(i6,i6),(i7,i7)]:=rfl
theorem zM{i0 i1 i2 i3 i4 i5 i6 i7 i8:Nat}:cE [(i0,i0),(i1,i1),(i2,i2),(i3,i3),(i4,i4),(i5,i5),(i6,i6),(i7,i7),(i8,i8)]:=rfl
theorem y_{i0 i1 i2 i3 i4 i5 i6 i7 i8 i9:Nat}:cE [(i0,i0),(i1,i1),(i2,i2),(i3,i3),(i4,i4),(i5,i5),(i6,i6),(i7,i7),(i8,i8),(i9,i9)]:=rfl
theorem za{i0 i1 i2 i3 i4 i5 i6 i7 i8 i9 i10:Nat}:cE [(i0,i0),(i1,i1),(i2,i2),(i3,i3),(i4,i4),(i5,i5),(i6,i6),(i7,i7),(i8,i8),(i9,i9),(i10,i10)]:=rfl
theorem yq{i0 i1 i2 i3 i4 i5 i6 i7 i8 i9 i10 i11:Nat}:cE [(i0,i0),(i1,i1),(i2,i2),(i3,i3),(i4,i4),(i5,i5),(i6,i6),(i7,i7),(i8,i8),(i9,i9),(i10,i10),(i11,i11)]:=rfl
theorem gy(c:Nat){F:Tm}{V:Vs}{K:Sy->Out}(hV:Vf m V)(hF:bL g F)(hq:cE (K ⟨c,F,V,g,L,m⟩).q)(h:(K ⟨c,F,V,g,L,m⟩).p):Go g L m K:=(aY c F V ⟨hF,hV⟩ hq h)
theorem gx(c:Nat){F:Tm}{K:Sy->Out}(hF:bL g F)(hq:cE (K ⟨c,F,m,g,L,m⟩).q)(h:(K ⟨c,F,m,g,L,m⟩).p):Go g L m K:=(aY c F m ⟨hF,fun U U h=>h⟩ hq h)
theorem g0{K:Sy->Out}(hq:cE (K ⟨0,[],m,g,L,m⟩).q)(h:(K ⟨0,[],m,g,L,m⟩).p):Go g L m K:=gx 0 (fun U h=>absurd h List.not_mem_nil) hq h
theorem gh{K:Sy->Out}{V:Vs}(hV:Vf m V)(hq:cE (K ⟨0,[],V,g,L,m⟩).q)(h:(K ⟨0,[],V,g,L,m⟩).p):Go g L m K:=gy 0 hV (fun U h=>absurd h List.not_mem_nil) hq h
theorem aW(ht:aG a=some ⟨ps,[],tab,body⟩)(hi:bW a=none)(hb:bindL ps args []=some m')
  (h:Go g L m' ((f0 (Fx k E L Q m) 60).S ⟨[],tab⟩ body (Rx L Q m .none))):wp (lvl aG (k+2) (.base a) args) Q E g L m:=
 yx ht hi hb (wp_mono (SndS.go ((iO (κ:=Fx k E L Q m) (fun U U=>rfl) 60).s ⟨[],tab⟩ body) h) (fun fl g L m h=>by
  induction fl with
  | next=>exact rx h
  | ret v=>exact rx h) fun U U U h=>h)
theorem kY{K K':List (Nm×Nat)->Tm->Prop}(h:∀ cs L,K cs L->K' cs L):∀ {xs:List Nm} {cs:List (Nm×Nat)} {L:Tm},cellsP xs cs L K->cellsP xs cs L K':=by
 intro l_
 induction l_ with
 | nil=>
  intro c1_ c2_ q
  exact h _ _ q
 | cons x xs ih_=>
  intro cs L q
  exact fun i=>ih_ (q i)
theorem mf{cs:List (Nm×Nat)}{K K':Tm->Vs->Prop}(h:∀ L m,K L m->K' L m):∀ {ps:List Nm} {vs:List AV} {L:Tm} {m:Vs},bindP g cs ps vs L m K->bindP g cs ps vs L m K':=by
 intro l_
 induction l_ with
 | nil=>
  intro c1_ c2_ c3_ q
  induction c1_ using List.casesOn with
  | nil=>
    exact h _ _ q
  | cons y1_ y2_=>
    exact q.elim
 | cons p ps ih_=>
  intro c1_ L m q
  induction c1_ using List.casesOn with
  | nil=>
    exact q.elim
  | cons v vs=>
    have q:fK (lk cs p) (fun i=>∃ o L',Lk g L i (.ce o)/\Up g L i (.ce (some v)) g L'/\bindP g cs ps vs L' m K) (bindP g cs ps vs L (st m p v) K):=q
    show fK (lk cs p) _ _;induction e:lk cs p with
    | none=>rw [e] at q;exact ih_ q
    | some i=>
     rw [e] at q;refine ai q fun o L' q1 q2 q3=>?_;clear q;exact(ax o L' q1 q2 (ih_ q3))
theorem pP{cs:List (Nm×Nat)}{N:Sy->Out}:∀ {ps:List Nm} {vs:List AV} {s:Sy},(bL s.g s.F/\Vf s.m s.V)->Ok (g7 cs ps vs N s)->bindP s.g cs ps vs s.L s.m fun L m=>Go s.g L m N:=by
 intro l_
 induction l_ with
 | nil=>
  intro c1_ s hF h
  induction c1_ using List.casesOn with
  | nil=>
    exact(aD _ _ _ hF h)
  | cons y1_ y2_=>
    exact h.2.elim
 | cons p ps ih_=>
  intro c1_ s hF h
  induction c1_ using List.casesOn with
  | nil=>
    exact h.2.elim
  | cons v vs=>
    have h:Ok (fK (lk cs p) (fun i=>wrt i (fun o=>fK (kF o) (fun U=>some (.ce (some v))) none) s (g7 cs ps vs N) bad) (yR p v (g7 cs ps vs N) s)):=h
    show fK (lk cs p) _ _;induction e:lk cs p with
    | none=>
     rw [e] at h;obtain ⟨c,F,V,g,L,m⟩:=s;exact ih_ (s:=⟨c,F,st V p v,g,L,st m p v⟩) ⟨hF.1,Vf.s hF.2⟩ h
    | some i=>
     rw [e] at h;have h:Ok (wrt i (fun o=>fK (kF o) (fun U=>some (.ce (some v))) none) s (g7 cs ps vs N) bad):=h;rcases wrt_ok h with h | ⟨o,o',L',c,h2,e1,hu,h⟩
     ·exact h.2.elim
     ·induction q:kF o with
      | none=>rw [q] at e1;exact aA e1
      | some l=>
       rw [q] at e1;rw [jt q] at h2;rw [<- Option.some.inj e1] at hu;exact(ax _ _ h2 hu (ih_ (s:=⟨c,s.F,s.V,s.g,L',s.m⟩) hF h))
theorem eK{xs:List Nm}(ht:aG a=some ⟨ps,xs,tab,body⟩)(hi:bW a=none)
  (h:cellsP xs [] L fun cs L1=>Go g L1 [] (g7 cs ps args ((f0 (Fx k E L Q m) 60).S ⟨cs,tab⟩ body (Rx L Q m .none)))):wp (lvl aG (k+2) (.base a) args) Q E g L m:=
 ur ht hi (kY (fun cs L1 z0_=>aU z0_ fun c F V hF h=>mf (fun L2 m' h=>wp_mono (SndS.go ((iO (κ:=Fx k E L Q m) (fun U U=>rfl) 60).s ⟨cs,tab⟩ body) h) (fun fl g L m h=>by
  induction fl with
  | next=>exact rx h
  | ret v=>exact rx h) fun U U U h=>h) (pP (s:=⟨c,F,V,g,L1,[]⟩) hF h)) h)
@[irreducible] def En(p:Prop):Prop:=p
theorem en{p:Prop}(h:p):En p:=by unfold En;exact h
theorem yS{p:Prop}(h:En p):p:=by unfold En at h;exact h
noncomputable def Nb(N:G->Tm->Vs->Prop)(s:Sy):Out:=match s with | ⟨_,_,_,g,L,m⟩=>bl (En (N g L m))
noncomputable def Qb{α:Type}(Q:α->G->Tm->Vs->Prop)(v:α)(s:Sy):Out:=match s with | ⟨_,_,_,g,L,m⟩=>bl (En (Q v g L m))
theorem nb{N:G->Tm->Vs->Prop}(h:Go g L m (Nb N)):N g L m:=by refine aU h fun U U U U h=>?_;exact yS h.2
theorem qb{α:Type}{Q:α->G->Tm->Vs->Prop}{v:α}(h:Go g L m (Qb Q v)):Q v g L m:=by refine aU h fun U U U U h=>?_;exact yS h.2
@[reducible] def Bx(k:Nat)(E:Nat->G->Tm->Prop)(Q:AV->G->Tm->Vs->Prop):Kx:=⟨lvl aG (k+1),E,Qb Q⟩
theorem kB{n:Nat}{env:AEnv}{N:G->Tm->Vs->Prop}(h:Go g L m ((f0 (Bx k E Q) n).S env body (Nb N))):wpS ((aL (lvl aG (k+1)) n).S env body) N Q E g L m:=
 wp_mono (SndS.go ((iO (κ:=Bx k E Q) (fun U U=>rfl) n).s env body) h) (fun fl g L m h=>by
  induction fl with
  | next=>exact nb h
  | ret v=>exact qb h) fun U U U h=>h
theorem pB{n:Nat}{env:AEnv}{e:RE}(h:Go g L m ((f0 (Bx k E Q) n).E env e (Qb Q))):wp ((aL (lvl aG (k+1)) n).E env e) Q E g L m:=
 wp_mono (Snd.go ((iO (κ:=Bx k E Q) (fun U U=>rfl) n).e env e) h) (fun v g L m h=>qb h) fun U U U h=>h
theorem zL{n:Nat}{env:AEnv}{es:List RE}{Q:List AV->G->Tm->Vs->Prop}(h:Go g L m (jY ((f0 (Bx k E fun U U U U=>False) n).E env) es (Qb Q))):wp (bx ((aL (lvl aG (k+1)) n).E env) es) Q E g L m:=
 wp_mono ((Snd.map (fun a=>(iO (κ:=Bx k E fun U U U U=>False) (fun U U=>rfl) n).e env a) es).go h) (fun v g L m h=>qb h) fun U U U h=>h
theorem lO{n i:Nat}{env:AEnv}{x:Nm}{ifs:List RE}{elt:RE}{v:AV}{N:G->Tm->Vs->Prop}(h:Go g L (st m x v) (pE (f0 (Bx k E fun U U U U=>False) n) env .And ifs (fun b=>tst b ((f0 (Bx k E fun U U U U=>False) n).E env elt (Qb fun v g L m=>∃ l g' L',Lk g L i (.li l)/\l.length<1000/\Up g L i (.li (l++[v])) g' L'/\N g' L' m)) (Nb N)))):wpS (cB (aL (lvl aG (k+1)) n) env x ifs elt i [v]) N Q E g L m:=
 have H:=iO (κ:=Bx k E fun U U U U=>False) (fun U U=>rfl) n
 sN (wp_mono ((Snd.all H ifs).go h) (fun b g L m z0_=>aU z0_ fun c F V hF h=>have h:=iB (s:=⟨c,F,V,g,L,m⟩) hF h
  ⟨fun q=>wp_mono ((H.e env elt).go (h.1 q)) (fun v g L m h=>qb h) fun U U U h=>h,fun q=>nb (h.2 q)⟩) fun U U U h=>h)
theorem xE{i:Nat}{body:RE}{cells:List (Nm×Nat)}(h1:Lk g L i (.lam body cells))(h:Go g L [] ((f0 (Fx k E L Q m) 60).E ⟨cells,0⟩ body (Rx L Q m))):wp (lvl aG (k+2) (.obj i) []) Q E g L m:=
 w0 h1 (wp_mono (Snd.go ((iO (κ:=Fx k E L Q m) (fun U U=>rfl) 60).e ⟨cells,0⟩ body) h) (fun v g L m h=>rx h) fun U U U h=>h)
theorem bL.nil:bL g []:=fun U h=>absurd h List.not_mem_nil
theorem bL.app{F F':Tm}(h:bL g F)(h':bL g F'):bL g (F++F'):=fun p hp=>(List.mem_append.mp hp).elim (h p) (h' p)
noncomputable def zq(g:G):Tm:=[(g.p.i,.li [.int g.p.w,.int g.p.k]),(g.w.i,.sd (ch g.w)),(g.w.iwd,.li (g.w.ds.map fun p=>.obj p.1)),(g.w.iwr,.li (g.w.row.map .int)),(g.w.iwo,.idd (aZ (fun p=>.obj p.1) g.w.oct)),(g.w.iwh,.idd (aZ .int g.w.held)),(g.w.iwp,.idd (aZ .int g.w.pins)),(g.w.iol,.li (g.w.old.map .obj)),(g.k.i,.inst 402 g.k.d),(g.k.d,.sd (iX g.k)),(g.k.ilat,.idd (aZ .bytes g.k.lat)),(g.k.iun,.li g.k.unf),(g.c.i,.inst 304 g.c.d),(g.c.d,.sd (dh g.k g.c)),(g.c.icr,.li (g.c.row.map .obj)),(g.c.icb,.idd (aZ .obj g.c.by_))]
theorem fa{r:Ro}{p:Nat×AO}{F:Tm}(h:own g r=some p)(h2:bL g F):bL g (p::F):=fun q hq=>by
 rcases List.mem_cons.mp hq with rfl | hq
 ·exact⟨r,h⟩
 ·exact h2 q hq
theorem fw(hl:g.live=true):bL g (zq g):=by
 have e:({ g with live:=true }:G)=g:=by induction g;subst hl;rfl
 have f:∀ {r p},own { g with live:=true } r=some p->own g r=some p:=fun h=>by rw [e] at h;exact h
 exact fa (r:=.pool) (f rfl) (fa (r:=.world) (f rfl) (fa (r:=.wd) (f rfl) (fa (r:=.wr) (f rfl) (fa (r:=.wo) (f rfl) (fa (r:=.wh) (f rfl) (fa (r:=.wp) (f rfl) (fa (r:=.ol) (f rfl) (fa (r:=.dI) (f rfl) (fa (r:=.dD) (f rfl) (fa (r:=.lat) (f rfl) (fa (r:=.unf) (f rfl) (fa (r:=.cI) (f rfl) (fa (r:=.cD) (f rfl) (fa (r:=.cr) (f rfl) (fa (r:=.cb) (f rfl) bL.nil)))))))))))))))
noncomputable def zo(i:Nat)(u:Bu):Tm:=[(i,.inst 189 u.d),(u.d,.sd (dC u)),(u.a,.ba u.oct)]
theorem fb{i:Nat}{u:Bu}(hl:g.live=true)(h:lk g.b i=some u):bL g (zo i u):=by
 have e:({ g with live:=true }:G)=g:=by induction g;subst hl;rfl
 have f:∀ {r p},own { g with live:=true } r=some p->own g r=some p:=fun h=>by rw [e] at h;exact h
 exact fa (r:=.bI i) (f (show (lk g.b i).map _=_ by refine ac h ?_;rfl)) (fa (r:=.bD i) (f (show (lk g.b i).map _=_ by refine ac h ?_;rfl)) (fa (r:=.bA i) (f (show (lk g.b i).map _=_ by refine ac h ?_;rfl)) bL.nil))
theorem fk(hl:g.live=true)(hf:g.w.kfz=false):bL g [(g.w.iwk,.idd (aZ .obj g.w.kept))]:=
 fa (r:=.wk) (b_ hl (by show some (_,ite _ _ _)=_;rw [hf];rfl)) bL.nil
theorem wk{α:Type}{r:St->Res α}{Q:α->G->Tm->Vs->Prop}(h:wp r Q E g L m):wq r Q E g L m:=lN▸h
theorem wc{f:AV}{L':Tm}{m':Vs}{K:AV->Sy->Out}(h:wp (lvl aG (k+1) f args) (Ct K) (Fx k E L' Q m').E g L m):wq ((Fx k E L' Q m').C f args) (Ct K) (Fx k E L' Q m').E g L m:=lN▸h
theorem wg{κ:Kx}{f:AV}{K:AV->Sy->Out}(e:κ.C=lvl aG (k+1))(h:wp (lvl aG (k+1) f args) (Ct K) κ.E g L m):wq (κ.C f args) (Ct K) κ.E g L m:=lN▸e▸h
theorem wb{f:AV}{K:AV->Sy->Out}(h:wp (lvl aG (k+1) f args) (Ct K) (Bx k E Q).E g L m):wq ((Bx k E Q).C f args) (Ct K) (Bx k E Q).E g L m:=lN▸h
theorem zK{r:St->Res Flow}{N:G->Tm->Vs->Prop}(h:wpS r N Q E g L m):xN r N Q E g L m:=m9▸h
theorem ex{α:Type}{p:α->Prop}(h:∃ a,p a):∃ a,p a:=h
theorem an{A B:Prop}(h:A/\B):A/\B:=h
theorem fi{L L':Tm}{P:Prop}(n:Nat)(e:L'.drop n=L)(h:P):Sfx L L'/\P:=⟨e▸(by
 clear e;induction L' generalizing n with
 | nil=>induction n <;> exact .refl
 | cons p l ih=>induction n using Nat.casesOn with
  | zero=>exact .refl
  | succ n=>exact .cons (ih n)),h⟩
theorem nt{α:Type}{f:α->AV}{l:List (Int×α)}{i:Nat}{x:Int}{y:α}(h1:Lk g L i (.idd (aZ f l)))(e:lk l x=some y)(h:Q (f y) g L m):wp (bB .get i [.int x]) Q E g L m:=pQ h1 (ac (bp ..) (ac (e ..) (h)))
theorem nr{α:Type}{f:α->AV}{l:List (Int×α)}{i:Nat}{x:Int}(h1:Lk g L i (.idd (aZ f l)))(e:lk l x=none)(h:Q .none g L m):wp (bB .get i [.int x]) Q E g L m:=pQ h1 (ac (bp ..) (ac (e ..) (h)))
end
end Mine.Lake
end
section
open PySem
namespace Mine.Lake
section
variable {E:Nat->G->Tm->Prop}{g:G}{L:Tm}{m:Vs}{Q:AV->G->Tm->Vs->Prop}{k:Nat}{i:Nat}{u:Bu}
theorem oO(hl:g.live=true)(hb:lk g.b i=some u)(h:Q (.bool (decide (u.hol=0)&&decide (u.pin=0))) g L m):wp (lvl aG (k+2) (.base 118) [.obj i]) Q E g L m:=by
 refine aW xQ rfl rfl ?_;refine gx 257 (fb hl hb) aX (an ?_);refine⟨fun hc=>?_,fun hc=>?_⟩
 ·refine gx 257 (fb hl hb) aX (fi 0 rfl ?_);rw [hc] at h;exact h
 ·refine g0 ak (fi 0 rfl ?_);rw [hc] at h;exact h
theorem dU(hl:g.live=true)(hb:lk g.b i=some u)(hn:u.oct.length<=1000)(h:Q (.bytes u.oct) g L m):wp (lvl aG (k+3) (.base 125) [.obj i]) Q E g L m:=by
 refine aW xR rfl rfl ?_;refine gx 257 (fb hl hb) aX (wc ?_);refine gW (Lk.bA hl hb) hn ?_;refine g0 ak (fi 0 rfl ?_);exact h
theorem cP{p c:Int}(hl:g.live=true)(hb:lk g.b i=some u)(hn:u.oct.length<=1000)(h1:(0<=p/\0<=c/\p+c<=u.oct.length)->Q .none g L m)(h2:¬ (0<=p/\0<=c/\p+c<=u.oct.length)->E 52 g L):wp (lvl aG (k+3) (.base 132) [.obj i,.int p,.int c]) Q E g L m:=by
 refine aW xS rfl rfl ?_;refine g0 ak (an ?_);refine⟨fun hc=>?_,fun hc=>?_⟩
 ·refine g0 ak (an ?_);refine⟨fun hd=>?_,fun hd=>?_⟩
  ·refine gx 32897 (fb hl hb) aX (wc ?_);refine gX (Lk.bA hl hb) hn ?_;refine g0 ak (an ?_);refine⟨fun he=>?_,fun he=>?_⟩
   ·refine gx 2 .nil bT (fi 0 rfl ?_);exact h1 (by simp at hc hd he;lia)
   ·refine gx 1 .nil bT (fi 0 rfl ?_);exact h2 (by simp at hc hd he;lia)
  ·refine gx 1 .nil bT (fi 0 rfl ?_);exact h2 (by simp at hc hd;lia)
 ·refine gx 1 .nil bT (fi 0 rfl ?_);exact h2 (by simp at hc;lia)
end
section
variable {E:Nat->G->Tm->Prop}{g:G}{L:Tm}{m:Vs}{Q:AV->G->Tm->Vs->Prop}{k:Nat}{i:Nat}{u:Bu}
theorem nC{p c:Int}{n:Nat}(h:0<=p/\0<=c/\p+c<=n):ends (some (.int p)) (some (.int (p+c))) n=some (p.toNat,(p+c).toNat):=if_pos ⟨h.1,by lia,h.2.2⟩
theorem hU{p c:Int}(hl:g.live=true)(hb:lk g.b i=some u)(hn:u.oct.length<=1000)(h1:(0<=p/\0<=c/\p+c<=u.oct.length)->Q (.bytes ((u.oct.take (p+c).toNat).drop p.toNat)) g L m)(h2:¬ (0<=p/\0<=c/\p+c<=u.oct.length)->E 52 g L):wp (lvl aG (k+4) (.base 139) [.obj i,.int p,.int c]) Q E g L m:=by
 refine aW xT rfl rfl ?_;refine gx 257 (fb hl hb) aX (wc ?_);refine cP hl hb hn (fun hc=>?_) (fun hc=>⟨.refl,h2 hc⟩);refine gx 16641 (fb hl hb) aX (wk ?_);refine s_ (Lk.bA hl hb) hn (nC hc) fun j=>?_;refine g0 ak (wc ?_);refine gW Lk.t0 (by simp;omega) ?_;refine g0 ak (fi 1 rfl ?_);exact h1 hc
theorem qc{p:Int}{o:List UInt8}(hl:g.live=true)(hb:lk g.b i=some u)(hn:u.oct.length<=1000)(ho:o.length<=1000)(h1:(0<=p/\p+o.length<=u.oct.length)->Q .none { g with b:=st g.b i { u with oct:=u.oct.take p.toNat++o++u.oct.drop (p+o.length).toNat } } L m)(h2:¬ (0<=p/\p+o.length<=u.oct.length)->E 52 g L):wp (lvl aG (k+4) (.base 146) [.obj i,.int p,.bytes o]) Q E g L m:=by
 refine aW xU rfl rfl ?_;refine gx 257 (fb hl hb) aX (wc ?_);refine de ho ?_;refine g0 ak (wc ?_);refine cP hl hb hn (fun hc=>?_) (fun hc=>⟨.refl,h2 (by lia)⟩);refine gx 257 (fb hl hb) aX (wc ?_);refine de ho ?_;refine gx 1 .nil ak (wk ?_);refine kj (Lk.bA hl hb) hn (nC hc) (by lia) (Up.bA hl hb _) ?_;refine g0 ak (fi 0 rfl ?_);exact h1 ⟨hc.1,hc.2.2⟩
theorem mj{o:List UInt8}(hl:g.live=true)(hb:lk g.b i=some u)(hn:u.oct.length<=1000)(ho:o.length<=1000)(h1:o.length=u.oct.length->Q .none { g with b:=st g.b i { u with oct:=o } } L m)(h2:o.length≠u.oct.length->E 52 g L):wp (lvl aG (k+3) (.base 153) [.obj i,.bytes o]) Q E g L m:=by
 refine aW xV rfl rfl ?_;refine g0 ak (wc ?_);refine de ho ?_;refine gx 257 (fb hl hb) aX (wc ?_);refine gX (Lk.bA hl hb) hn ?_;refine g0 ak (an ?_);refine⟨fun hc=>?_,fun hc=>?_⟩
 ·refine g0 ak (fi 0 rfl ?_);exact h2 (by simp at hc;lia)
 ·have hc:o.length=u.oct.length:=by simp at hc;lia
  refine gx 257 (fb hl hb) aX (wk ?_);refine kj (Lk.bA hl hb) hn rfl (by omega) (Up.bA hl hb _) ?_;refine g0 ak (fi 0 rfl ?_)
  simpa using h1 hc
theorem sI(hl:g.live=true)(hb:lk g.b i=some u)(hn:u.oct.length<1000)(h1:Q .none { g with b:=st g.b i { u with oct:=List.replicate u.oct.length 0 } } L m):wp (lvl aG (k+3) (.base 160) [.obj i]) Q E g L m:=by
 refine aW xW rfl rfl ?_;refine gx 257 (fb hl hb) aX (wc ?_);refine gX (Lk.bA hl hb) (by lia) ?_;refine g0 ak (wc ?_);refine dm (by lia) ?_;refine gx 257 (fb hl hb) aX (wk ?_);refine kj (Lk.bA hl hb) (by lia) rfl (by simp) (Up.bA hl hb _) ?_;refine g0 ak (fi 0 rfl ?_)
 simpa using h1
theorem p8{p:Int}:dY .FloorDiv p 8=some (p.fdiv 8):=by
 show (if (8:Int)=0 then Option.none else if sm 8=true then some (p.fdiv 8) else Option.none)=_;exact(if_neg (by decide)).trans (if_pos rfl)
theorem pY{p:Int}(hl:g.live=true)(hb:lk g.b i=some u)(hn:u.oct.length<=1000)(h1:∀ b,0<=p.fdiv 8->u.oct[(p.fdiv 8).toNat]?=some b->Q (.int (Builtin.bitAnd (Int.fdiv (UInt8.toNat b:Int) (2 ^ (Builtin.bitAnd p 7).toNat)) 1)) g L m)(h3:0<=Builtin.bitAnd p 7)(h2:¬ (0<=p.fdiv 8/\p.fdiv 8+1<=u.oct.length)->E 52 g L):wp (lvl aG (k+4) (.base 179) [.obj i,.int p]) Q E g L m:=by
 refine aW xX rfl rfl ?_;refine gx 257 (fb hl hb) aX (wk ?_);refine a_ (z:=p.fdiv 8) p8 ?_;refine g0 ak (wc ?_);refine cP hl hb hn (fun hc=>?_) (fun hc=>⟨.refl,h2 (by omega)⟩);refine gx 257 (fb hl hb) aX (wk ?_);refine a_ (z:=p.fdiv 8) p8 ?_;have hlt:(p.fdiv 8).toNat<u.oct.length:=by omega
 refine g0 ak (wk ?_);refine nD (b:=u.oct[(p.fdiv 8).toNat]) (Lk.bA hl hb) hn (by
  have:dR (p.fdiv 8) u.oct.length=some (p.fdiv 8).toNat:=by unfold dR;exact ac (if_pos hc.1 ..) (ac (if_pos (by omega) ..) rfl)
  refine ac this ?_;exact List.getElem?_eq_getElem hlt) ?_
 refine gx 1 .nil ak (wk ?_);refine a_ (by show (if 0<=_ then some _ else none)=_;exact ac (if_pos h3 ..) rfl) ?_;refine gx 1 .nil ak (fi 0 rfl ?_);exact h1 _ hc.1 (List.getElem?_eq_getElem hlt)
theorem oQ{p v:Int}{b:UInt8}{b':UInt8}(hl:g.live=true)(hb:lk g.b i=some u)(hn:u.oct.length<=1000)(hp:0<=p.fdiv 8/\p.fdiv 8+1<=u.oct.length)(h3:0<=Builtin.bitAnd p 7/\Builtin.bitAnd p 7<=1000)(hv:sm v=true)(hb1:u.oct[(p.fdiv 8).toNat]?=some b)
  (hb2:cz (.int (Builtin.bitOr (Builtin.bitAnd (UInt8.toNat b:Int) (Builtin.bitNot (1 * 2 ^ (Builtin.bitAnd p 7).toNat))) (1 * 2 ^ (Builtin.bitAnd p 7).toNat * v)))=some b')(h1:Q .none { g with b:=st g.b i { u with oct:=u.oct.set (p.fdiv 8).toNat b' } } L m):wp (lvl aG (k+4) (.base 186) [.obj i,.int p,.int v]) Q E g L m:=by
 refine aW wu rfl rfl ?_;refine gx 257 (fb hl hb) aX (wk ?_);refine a_ (z:=p.fdiv 8) p8 ?_;refine g0 ak (wc ?_);refine cP hl hb hn (fun hc=>?_) (fun hc=>absurd (by omega) hc);refine gx 1 .nil ak (wk ?_);refine a_ (z:=1 * 2 ^ (Builtin.bitAnd p 7).toNat) (by show (if _ then some _ else none)=_;exact ac (if_pos (by simp [sm,h3]) ..) rfl) ?_;refine gx 257 (fb hl hb) aX (wk ?_);refine a_ (z:=p.fdiv 8) p8 ?_;have hix:dR (p.fdiv 8) u.oct.length=some (p.fdiv 8).toNat:=by unfold dR;exact ac (if_pos hc.1 ..) (ac (if_pos (by omega) ..) rfl)
 refine g0 ak (wk ?_);refine nD (b:=b) (Lk.bA hl hb) hn (by refine ac hix ?_;exact hb1) ?_;refine gx 1 .nil ak (wk ?_);refine a_ (z:=1 * 2 ^ (Builtin.bitAnd p 7).toNat * v) (by show (if _ then some _ else none)=_;exact ac (if_pos (by simp [hv]) ..) rfl) ?_;refine gx 32897 (fb hl hb) aX (wk ?_);refine a_ (z:=p.fdiv 8) p8 ?_;refine g0 ak (wk ?_);refine tT (Lk.bA hl hb) hn hix hb2 (Up.bA hl hb _) ?_;refine g0 ak (fi 0 rfl ?_);exact h1
theorem eE{p v:Int}(hl:g.live=true)(hb:lk g.b i=some u)(hn:u.oct.length<=1000)(hp:¬ (0<=p.fdiv 8/\p.fdiv 8+1<=u.oct.length))(h2:E 52 g L):wp (lvl aG (k+4) (.base 186) [.obj i,.int p,.int v]) Q E g L m:=by
 refine aW wu rfl rfl ?_;refine gx 257 (fb hl hb) aX (wk ?_);refine a_ (z:=p.fdiv 8) p8 ?_;refine g0 ak (wc ?_);exact cP hl hb hn (fun hc=>absurd (by omega) hp) (fun hc=>⟨.refl,h2⟩)
end
section
variable {E:Nat->G->Tm->Prop}{g:G}{L:Tm}{m:Vs}{Q:AV->G->Tm->Vs->Prop}{k:Nat}{i:Nat}{u:Bu}
theorem oP{p:Int}{b0 b1:UInt8}(hl:g.live=true)(hb:lk g.b i=some u)(hn:u.oct.length<=1000)(hp:0<=p/\p+2<=u.oct.length)(hs:(u.oct.take (p+2).toNat).drop p.toNat=[b0,b1])(h:Q (.int (Builtin.bitOr (Builtin.bitOr (0 * 2 ^ 8) (UInt8.toNat b1:Int) * 2 ^ 8) (UInt8.toNat b0:Int))) g L m)
  (hsm:sm (Builtin.bitOr (0 * 2 ^ 8) (UInt8.toNat b1:Int))=true):wp (lvl aG (k+5) (.base 167) [.obj i,.int p,.int 2]) Q E g L m:=by
 refine aW ws rfl rfl ?_;refine gx 257 (fb hl hb) aX (wc ?_);refine hU hl hb hn (fun hc=>?_) (fun hc=>absurd (by lia) hc);refine ac hs ?_;refine g0 ak (ex ?_);refine(ag _ (vc (by simp)) ?_);refine fG (f:=99) (vs:=[.int (UInt8.toNat b1)]) (fun s U=>rfl) (eR (kB ?_));refine g0 ak (wk ?_);refine a_ (z:=0 * 2 ^ 8) rfl ?_;refine gx 1 .nil ak (en ?_);refine fG (f:=98) (vs:=[.int (UInt8.toNat b0)]) (fun s U=>rfl) (eR (kB ?_));refine g0 ak (wk ?_);refine a_ (z:=Builtin.bitOr (0 * 2 ^ 8) (UInt8.toNat b1:Int) * 2 ^ 8) (by show (if _ then some _ else none)=_;rw [if_pos (by refine ac hsm ?_;rfl)];rfl) ?_;refine gx 1 .nil ak (en ?_);refine mK (f:=97) (fun s U=>rfl) ?_;refine g0 ak (fi 0 rfl ?_);exact h
theorem jI{p c:Int}(hl:g.live=true)(hb:lk g.b i=some u)(hn:u.oct.length<=1000)(hp:¬ (0<=p/\0<=c/\p+c<=u.oct.length))(h:E 52 g L):wp (lvl aG (k+5) (.base 167) [.obj i,.int p,.int c]) Q E g L m:=by
 refine aW ws rfl rfl ?_;refine gx 257 (fb hl hb) aX (wc ?_);exact hU hl hb hn (fun hc=>absurd hc hp) (fun hc=>⟨.refl,h⟩)
theorem iH{p v:Int}{b0 b1:UInt8}(hl:g.live=true)(hb:lk g.b i=some u)(hn:u.oct.length<=1000)(hp:0<=p/\p+2<=u.oct.length)(hv:0<=v/\v.fdiv (2 ^ 16)=0)(h0:cz (.int (Builtin.bitAnd (v.fdiv (2 ^ 0)) 255))=some b0)(h1:cz (.int (Builtin.bitAnd (v.fdiv (2 ^ 8)) 255))=some b1)
  (h:Q .none { g with b:=st g.b i { u with oct:=u.oct.take p.toNat++[b0,b1]++u.oct.drop (p+2).toNat } } L m):wp (lvl aG (k+5) (.base 172) [.obj i,.int p,.int 2,.int v]) Q E g L m:=by
 refine eK wt rfl (cp_cons fun j=>c_ ?_);refine gx 8256 .nil aX (an ?_);refine⟨fun hc=>?_,fun hc=>?_⟩
 ·refine gx 192 .nil bT (wk ?_);refine a_ (z:=v.fdiv (2 ^ 16)) rfl ?_;refine g0 ak (an ?_);refine⟨fun hd=>?_,fun hd=>?_⟩
  ·refine gx 32898 (fb hl hb) cR (wk ?_);refine cT (pB ?_);refine g0 ak (en (ex ?_));refine(ax _ _ (dZ (by decide)) rfl (fun acc=>?_));have step:∀ (b:Int) (at_:Int) (l:List AV) (N:G->Tm->Vs->Prop) (m:Vs),0<=8 * at_->l.length<1000->(∀ m,N g ((acc,.li (l++[.int (Builtin.bitAnd (v.fdiv (2 ^ (8 * at_).toNat)) 255)]))::(j,.ce (some (.int v)))::L) m)->
     wpS (cB (aL (lvl aG (k+4)) 56) ⟨[(.value,j)],0⟩ .at [] (.bin .BitAnd (.bin .RShift (.cel .value) (.bin .Mult (.int 8) (.loc .at))) (.int 255)) acc [.int at_]) N (fun U U U U=>False) o_ g ((acc,.li l)::(j,.ce (some (.int v)))::L) m:=by
    intro b at_ l N m hz hlen hN
    refine lO ?_;refine gy 24705 (.s .n) .nil aX (wk ?_);refine a_ (z:=v.fdiv (2 ^ (8 * at_).toNat)) (by show (if 0<=8 * at_ then some _ else none)=_;rw [if_pos hz]) ?_;refine gy 1 (.s .n) .nil ak (en (ex ?_));exact(ck _ _ _ Lk.t0 hlen Up.t0 (hN _))
   refine fG (f:=99) (vs:=[.int 0]) (fun s U=>rfl) (step v 0 [] _ _ (by decide) (by decide) fun m=>?_);refine fG (f:=98) (vs:=[.int 1]) (fun s U=>rfl) (step v 1 [_] _ _ (by decide) (by simp) fun m=>?_);refine mK (f:=97) (fun s U=>rfl) ?_;refine g0 ak (wc ?_);refine bG (b:=[b0,b1]) Lk.t0 (by simp) ?_ ?_
   ·show jC _ (cz (.int _)) (jC _ (cz (.int _)) (some []))=_;exact ac (show (8 * 0:Int).toNat=0 from rfl) (ac (show (8 * 1:Int).toNat=8 from rfl) (ac h0 (ac h1 rfl)))
   refine g0 ak (wc ?_);refine qc hl hb hn (by simp) (fun hf=>?_) (fun hf=>absurd (by simp;omega) hf);refine g0 ak (fi 2 rfl ?_);exact h
  ·exfalso;rw [hv.2] at hd;simp at hd
 ·exfalso;simp at hc;omega
theorem dn{p c v:Int}(hc0:0<=c/\c<=8)(hv:v<0∨v.fdiv (2 ^ (8 * c).toNat)≠0)(h:E 52 g L):wp (lvl aG (k+5) (.base 172) [.obj i,.int p,.int c,.int v]) Q E g L m:=by
 refine eK wt rfl (cp_cons fun j=>c_ ?_);refine gx 8256 .nil aX (an ?_);refine⟨fun hc=>?_,fun hc=>?_⟩
 ·refine gx 192 .nil bT (wk ?_);refine a_ (z:=v.fdiv (2 ^ (8 * c).toNat)) (by show (if 0<=8 * c then some _ else none)=_;exact ac (if_pos (by lia) ..) rfl) ?_;refine g0 ak (an ?_);refine⟨fun hd=>?_,fun hd=>?_⟩
  ·exfalso;simp at hc hd;rcases hv with hv | hv
   ·lia
   ·exact hv hd
  ·refine gx 1 .nil bT (fi 1 rfl ?_);exact h
 ·refine gx 1 .nil bT (fi 1 rfl ?_);exact h
end
section
variable {E:Nat->G->Tm->Prop}{g:G}{L:Tm}{m:Vs}{Q:AV->G->Tm->Vs->Prop}{k:Nat}{i:Nat}{u:Bu}
theorem bJ{α β:Type}(f:α->β):∀ (l:List α) (n:Nat),(l.map f).eraseIdx n=(l.eraseIdx n).map f:=by
 intro l_
 induction l_ with
 | nil=>
  intro c1_
  exact rfl
 | cons a l ih_=>
  intro c1_
  induction c1_ using Nat.casesOn with
  | zero=>
    exact rfl
  | succ n=>
    simp [ih_ n]
theorem fq(hl:g.live=true)(h:Q .none g L m):wp (lvl aG (k+2) (.base 329) [.obj g.k.i]) Q E g L m:=by
 refine aW yc rfl rfl ?_;refine gx 34057 (fw hl) cR (fi 0 rfl ?_);exact h
theorem eD{x:Int}(hl:g.live=true)(hx:0<=x/\x<g.k.blocks)(h:Q .none g L m):wp (lvl aG (k+3) (.base 336) [.obj g.k.i,.int x]) Q E g L m:=by
 refine aW yd rfl rfl ?_;refine gx 2 .nil bT (an ?_);refine⟨fun U=>?_,fun hc=>?_⟩
 ·refine gx 1289 (fw hl) aX (an ?_);refine⟨fun U=>?_,fun hc=>?_⟩
  ·refine gx 2 .nil bT (fi 0 rfl ?_);exact h
  ·exfalso;simp at hc;lia
 ·exfalso;simp at hc;lia
theorem qd{x:Int}(hl:g.live=true)(hx:0<=x/\x<g.k.blocks)(h:Q (.bytes ((lk g.k.lat x).getD [0,0,0,0])) g L m):wp (lvl aG (k+4) (.base 343) [.obj g.k.i,.int x]) Q E g L m:=by
 refine aW ye rfl rfl ?_;refine gx 1289 (fw hl) aX (wc ?_);refine fq hl ?_;refine gx 1289 (fw hl) aX (wc ?_);refine eD hl hx ?_;refine gx 2703410441 (fw hl) wj (wc ?_);refine dm (by decide) ?_;refine gx 11 (fw hl) bT (fi 0 rfl ?_);refine ac (bp ..) ?_;induction q:lk g.k.lat x with
 | none=>rw [q] at h;exact h
 | some b=>rw [q] at h;exact h
theorem pZ{x:Int}{o:List UInt8}(hl:g.live=true)(hx:0<=x/\x<g.k.blocks)(ho:o.length=4)(h1:g.k.lat.length<900)(h2:g.k.unf.length<1000)
  (h:∀ t,Q .none { g with k:={ g.k with writes:=g.k.writes+1,lat:=st g.k.lat x o,unf:=g.k.unf++[.obj t] } } L m):wp (lvl aG (k+4) (.base 350) [.obj g.k.i,.int x,.bytes o]) Q E g L m:=by
 refine aW yf rfl rfl ?_;refine gx 1289 (fw hl) aX (wc ?_);refine fq hl ?_;refine gx 1289 (fw hl) aX (wc ?_);refine eD hl hx ?_;refine g0 ak (wc ?_);refine de (by lia) ?_;refine gx 1289 (fw hl) aX (an ?_);refine⟨fun hc=>?_,fun U=>?_⟩
 ·exfalso;simp at hc;lia
 refine gx 5071293644834057 (fw hl) yM (wk ?_);refine dj (Lk.dI hl) (Lk.dD hl) rfl (by simp [iX]) (Up.dkw hl _) ?_;refine gx 1289 (fw hl) aX (wk ?_);refine ca (Lk.lat (by assumption)) (ac (bh ..) h1) (Up.lat (by exact hl) _ (df AV.bytes _ _ _)) ?_;refine gx 197897 (fw hl) cR fun t1=>?_;refine g0 ak (wk ?_);refine cF (Lk.unf (by assumption)) h2 (Up.unf (by exact hl) _) ?_;refine g0 ak (fi 1 rfl ?_);exact h t1
end
section
variable {E:Nat->G->Tm->Prop}{g:G}{L:Tm}{m:Vs}{Q:AV->G->Tm->Vs->Prop}{k:Nat}{i:Nat}{u:Bu}
theorem cW{x:Int}(hl:g.live=true)(h1:0<=x/\x<g.k.blocks->Q .none g L m)(h2:¬ (0<=x/\x<g.k.blocks)->E 64 g L):wp (lvl aG (k+3) (.base 214) [.obj g.c.i,.int x]) Q E g L m:=by
 refine aW ww rfl rfl ?_;refine gx 2 .nil bT (an ?_);refine⟨fun hc=>?_,fun hc=>?_⟩
 ·refine gx 21120781 (fw hl) ec (an ?_);refine⟨fun hd=>?_,fun hd=>?_⟩
  ·refine gx 2 .nil bT (fi 0 rfl ?_);exact h1 (by simp at hc hd;lia)
  ·refine gx 1 .nil bT (fi 0 rfl ?_);exact h2 (by simp at hc hd;lia)
 ·refine gx 129 .nil aX (fi 0 rfl ?_);exact h2 (by simp at hc;lia)
theorem fp(h2:E 64 g L):wp (lvl aG (k+3) (.base 214) [.obj g.c.i,.none]) Q E g L m:=by
 refine aW ww rfl rfl ?_;refine gx 129 .nil aX (fi 0 rfl ?_);exact h2
theorem cq(hl:g.live=true)(hb:lk g.b i=some u)(hby:∀ j,lk g.c.by_ u.num=some j->∃ v,lk g.b j=some v)(h1:lk g.c.by_ u.num=some i->u.hol≠0->Q .none g L m)(h2:¬ (lk g.c.by_ u.num=some i/\u.hol≠0)->E 52 g L):wp (lvl aG (k+2) (.base 221) [.obj g.c.i,.obj i]) Q E g L m:=by
 refine aW xY rfl rfl ?_;refine gx 4867753741 (.app (fw hl) (fb hl hb)) wj (wk ?_);induction q:lk g.c.by_ u.num with
 | none=>
  refine nr (Lk.cb hl) q ?_;refine gx 129 .nil aX (fi 0 rfl ?_);exact h2 (fun z=>by rw [q] at z;exact aA z.1)
 | some j=>
  refine nt (Lk.cb hl) q ?_;refine aj (hby j q) fun v hv=>?_;refine g0 ak (wk ?_);refine oS (Lk.bI hl hv) (Lk.bI hl hb) ?_;refine g0 ak (an ?_);refine⟨fun hc=>?_,fun hc=>?_⟩
  ·have hji:j=i:=by simpa using hc
   subst hji;obtain rfl:=Option.some.inj (hv.symm.trans hb);refine gx 257 (fb hl hv) aX (an ?_);refine⟨fun hd=>?_,fun hd=>?_⟩
   ·refine gx 2 .nil bT (fi 0 rfl ?_);exact h1 q (by simpa using hd)
   ·refine gx 1 .nil bT (fi 0 rfl ?_);exact h2 (fun z=>by simp at hd;exact z.2 hd)
  ·refine gx 1 .nil bT (fi 0 rfl ?_);exact h2 (fun z=>by rw [q] at z;simp at hc;exact hc (Option.some.inj z.1))
theorem lC{s:St}(hs:Hs s g L){row:List Nat}{p:Nat}(hl:g.live=true)(hr:∀ j∈row,∃ v,lk g.b j=some v)(hb:lk g.b i=some u)(hp:row[p]?=some i)(hq:∀ q<p,row[q]?≠some i):j_ s (.obj i) (row.map .obj)=some p:=by
 induction row generalizing p with
 | nil=>exact aA hp
 | cons a row ih=>
  refine aj (hr a (List.mem_cons_self ..)) fun v hv=>?_;have e:eq1 s (.obj a) (.obj i)=some (decide (a=i)):=by
   dsimp only [eq1,eqI];rw [hat hs (Lk.bI hl hv),hat hs (Lk.bI hl hb)];rfl
  show lB (eq1 s (.obj a) (.obj i)) (j_ s (.obj i) (row.map .obj))=_;refine ac (e ..) ?_;induction p using Nat.casesOn with
  | zero=>
   have:a=i:=by simpa using hp
   exact ac (decide_eq_true this ..) rfl
  | succ p=>
   have h0:a≠i:=fun z=>hq 0 (by lia) (by refine ac z ?_;rfl)
   refine ac (decide_eq_false h0 ..) ?_;refine ac (ih (fun j hj=>hr j (List.mem_cons_of_mem _ hj)) hp (fun q hq'=>by have:=hq (q+1) (by lia);exact this) ..) ?_;rfl
theorem wN(hl:g.live=true)(hb:lk g.b i=some u)(hby:lk g.c.by_ u.num=some i)(hh:u.hol≠0)(h:Q .none { g with b:=st g.b i { u with pin:=u.pin+1 } } L m):wp (lvl aG (k+3) (.base 249) [.obj g.c.i,.obj i]) Q E g L m:=by
 refine aW wy rfl rfl ?_;refine gx 1805 (fw hl) aX (wc ?_);refine cq hl hb (fun j hj=>⟨u,by rw [hby] at hj;obtain rfl:=Option.some.inj hj;exact hb⟩) (fun U U=>?_) (fun z=>absurd ⟨hby,hh⟩ z);refine gx 2113793 (fb hl hb) cR (wk ?_);refine dj (Lk.bI hl hb) (Lk.bD hl hb) rfl (by simp [dC]) (Up.bD hl hb u.hol (u.pin+1) rfl) ?_;refine g0 ak (fi 0 rfl ?_);exact h
theorem sM{x:Int}(hl:g.live=true)(hby:lk g.c.by_ x=some i)(hb:lk g.b i=some u)(hh:u.pin≠0)(h:Q .none { g with b:=st g.b i { u with pin:=u.pin - 1 } } L m):wp (lvl aG (k+2) (.base 256) [.obj g.c.i,.int x]) Q E g L m:=by
 refine aW wz rfl rfl ?_;refine gx 263949 (fw hl) cR (wk ?_);refine nt (Lk.cb hl) hby ?_;refine gx 32898 (fb hl hb) cR (an ?_);refine⟨fun U=>?_,fun hc=>absurd (of_decide_eq_true hc) hh⟩;refine gx 270565506 (fb hl hb) ec (wk ?_);refine dj (Lk.bI hl hb) (Lk.bD hl hb) rfl (by simp [dC]) (Up.bD hl hb u.hol (u.pin - 1) rfl) ?_;refine g0 ak (fi 0 rfl ?_);exact h
theorem kX{x:Int}(hl:g.live=true)(hby:∀ i,lk g.c.by_ x=some i->∃ u,lk g.b i=some u/\u.pin=0)(h:E 52 g L):wp (lvl aG (k+2) (.base 256) [.obj g.c.i,.int x]) Q E g L m:=by
 refine aW wz rfl rfl ?_;refine gx 263949 (fw hl) cR (wk ?_);induction q:lk g.c.by_ x with
 | none=>
  refine nr (Lk.cb hl) q ?_;refine gx 129 .nil aX (fi 0 rfl ?_);exact h
 | some j=>
  refine nt (Lk.cb hl) q ?_;refine af (hby j q) fun v hv hp=>?_;refine gx 32898 (fb hl hv) cR (an ?_);refine⟨fun hc=>absurd hp (of_decide_eq_false hc),fun U=>?_⟩;refine gx 1 .nil bT (fi 0 rfl ?_);exact h
theorem eg{p:Nat}(hl:g.live=true)(hb:lk g.b i=some u)(hby:lk g.c.by_ u.num=some i)(hh:u.hol≠0)(hr:∀ j∈g.c.row,∃ v,lk g.b j=some v)(hp:g.c.row[p]?=some i)(hq:∀ q<p,g.c.row[q]?≠some i)(hn:g.c.row.length<=900)
  (h1:u.hol - 1≠0->Q .none { g with b:=st g.b i { u with hol:=u.hol - 1 } } L m)(h2:u.hol - 1=0->Q .none { g with b:=st g.b i { u with hol:=u.hol - 1 },c:={ g.c with row:=g.c.row.eraseIdx p++[i] } } L m):wp (lvl aG (k+3) (.base 242) [.obj g.c.i,.obj i]) Q E g L m:=by
 refine aW wx rfl rfl ?_;refine gx 1805 (fw hl) aX (wc ?_);refine cq hl hb (fun j hj=>⟨u,by rw [hby] at hj;obtain rfl:=Option.some.inj hj;exact hb⟩) (fun U U=>?_) (fun z=>absurd ⟨hby,hh⟩ z);refine gx 2113793 (fb hl hb) cR (wk ?_);refine dj (Lk.bI hl hb) (Lk.bD hl hb) rfl (by simp [dC]) (Up.bD hl hb (u.hol - 1) u.pin rfl) ?_;have hb':lk (st g.b i { u with hol:=u.hol - 1 }) i=some { u with hol:=u.hol - 1 }:=by rw [bw,if_pos rfl]
 have hr':∀ j∈g.c.row,∃ v,lk (st g.b i { u with hol:=u.hol - 1 }) j=some v:=fun j hj=>by
  refine ac (bw ..) ?_;by_cases z:i=j
  ·exact⟨_,if_pos z⟩
  ·refine ac (if_neg z) ?_;exact hr j hj
 refine gx 257 (fb hl hb') aX (an ?_);refine⟨fun hc=>?_,fun hc=>?_⟩
 ·have hc:=of_decide_eq_true hc
  refine gx 247565 (fw hl) cR (wk ?_);refine ef (k:=p) (Lk.cr (by exact hl)) (by simp;lia) (fun s hs=>lC hs hl hr' hb' hp hq) (Up.cr (by exact hl) (g.c.row.eraseIdx p) (bJ _ _ _)) ?_;refine gx 247565 (fw hl) cR (wk ?_);refine cF (Lk.cr (by exact hl)) (by simp;have:=List.length_eraseIdx_le g.c.row p;lia) (Up.cr (by exact hl) (g.c.row.eraseIdx p++[i]) (by simp)) ?_;refine g0 ak (fi 0 rfl ?_);exact h2 hc
 ·refine g0 ak (fi 0 rfl ?_);exact h1 (of_decide_eq_false hc)
theorem nu(hl:g.live=true)(hb:lk g.b i=some u)(hby:lk g.c.by_ u.num=some i)(hh:u.hol≠0)(hn:u.oct.length=4)(hx:0<=u.num/\u.num<g.k.blocks)(hs1:g.k.lat.length<900)(hs2:g.k.unf.length<1000)
  (h:∀ t,Q .none { g with k:={ g.k with writes:=g.k.writes+1,lat:=st g.k.lat u.num u.oct,unf:=g.k.unf++[.obj t] },c:={ g.c with writes:=g.c.writes+1 } } L m):wp (lvl aG (k+5) (.base 263) [.obj g.c.i,.obj i]) Q E g L m:=by
 refine aW wA rfl rfl ?_;refine gx 1805 (fw hl) aX (wc ?_);refine cq hl hb (fun j hj=>⟨u,by rw [hby] at hj;obtain rfl:=Option.some.inj hj;exact hb⟩) (fun U U=>?_) (fun z=>absurd ⟨hby,hh⟩ z);refine gx 10208489012086541 (.app (fw hl) (fb hl hb)) xH (wc ?_);refine dU hl hb (by lia) ?_;refine g0 ak (wc ?_);refine pZ hl hx hn hs1 hs2 fun t=>?_;refine gx 27281165 (fw hl) cR (wk ?_);refine dj (Lk.cI (by exact hl)) (Lk.cD (by exact hl)) rfl (by simp [dh]) (Up.writes (by exact hl) _) ?_;refine g0 ak (fi 0 rfl ?_);exact h t
theorem eM{f:Nat}(hf:f=242∨f=249∨f=263)(hl:g.live=true)(hb:lk g.b i=some u)(hby:∀ j,lk g.c.by_ u.num=some j->∃ v,lk g.b j=some v)(hh:¬ (lk g.c.by_ u.num=some i/\u.hol≠0))(h:E 52 g L):wp (lvl aG (k+3) (.base f) [.obj g.c.i,.obj i]) Q E g L m:=by
 rcases hf with rfl | rfl | rfl
 ·refine aW wx rfl rfl ?_;refine gx 1805 (fw hl) aX (wc ?_);exact cq hl hb hby (fun a b=>absurd ⟨a,b⟩ hh) (fun U=>⟨.refl,h⟩)
 ·refine aW wy rfl rfl ?_;refine gx 1805 (fw hl) aX (wc ?_);exact cq hl hb hby (fun a b=>absurd ⟨a,b⟩ hh) (fun U=>⟨.refl,h⟩)
 ·refine aW wA rfl rfl ?_;refine gx 1805 (fw hl) aX (wc ?_);exact cq hl hb hby (fun a b=>absurd ⟨a,b⟩ hh) (fun U=>⟨.refl,h⟩)
end
section
variable {E:Nat->G->Tm->Prop}{g:G}{L:Tm}{m:Vs}{Q:AV->G->Tm->Vs->Prop}{k:Nat}{i:Nat}{u:Bu}
noncomputable def isFr(b:List (Nat×Bu))(i:Nat):Bool:=match lk b i with | some u=>decide (u.hol=0)&&decide (u.pin=0) | none=>false
noncomputable def aQ(b:List (Nat×Bu))(i:Nat):Int:=match lk b i with | some u=>u.num | none=>0
theorem dE(hl:g.live=true)(hb:∃ u,lk g.b i=some u)(h:Q (.bool (isFr g.b i)) g L m):wp (lvl aG (k+2) (.base 118) [.obj i]) Q E g L m:=by
 refine aj hb fun u hu=>?_;clear hb;refine oO hl hu ?_;unfold isFr at h;rw [hu] at h;exact h
theorem uT(hl:g.live=true)(hn:g.c.row.length<=1000)(hr:(g.c.row.length:Int)<g.c.most)(h:Q .none g L m):wp (lvl aG (k+3) (.base 235) [.obj g.c.i]) Q E g L m:=by
 refine aW uD rfl rfl ?_;refine gx 1805 (fw hl) aX (wc ?_);refine cw (Lk.cr hl) (by simpa using hn) ?_;refine gx 1805 (fw hl) aX (an ?_);refine⟨fun U=>?_,fun hc=>?_⟩
 ·refine g0 ak (fi 0 rfl ?_);exact h
 ·exfalso;simp at hc;lia
theorem sJ{p:Nat}(hl:g.live=true)(hn:g.c.row.length<=90)(hr:¬ (g.c.row.length:Int)<g.c.most)(hbs:∀ j∈g.c.row,∃ v,lk g.b j=some v)(hp:g.c.row[p]?=some i)(hfr:isFr g.b i=true)(hq:∀ q j,q<p->g.c.row[q]?=some j->isFr g.b j=false)(hby:(lk g.c.by_ (aQ g.b i)).isSome=true)(hbn:g.c.by_.length<=1000)
  (h:Q .none { g with c:={ g.c with row:=g.c.row.eraseIdx p,by_:=rm g.c.by_ (aQ g.b i) } } L m):wp (lvl aG (k+3) (.base 235) [.obj g.c.i]) Q E g L m:=by
 refine aW uD rfl rfl ?_;refine gx 1805 (fw hl) aX (wc ?_);refine cw (Lk.cr hl) (by simp;lia) ?_;refine gx 1805 (fw hl) aX (an ?_);refine⟨fun hc=>absurd (by simpa using hc) hr,fun U=>?_⟩;refine gx 1805 (fw hl) aX (ex ?_);refine(ag _ (nI (Lk.cr hl)) ?_);have hpl:p<g.c.row.length:=(List.getElem?_eq_some_iff.mp hp).1;refine nO (l:=g.c.row.map .obj) (fun j g' L' m'=>g'=g/\L'=L/\lk m' .self=some (.obj g.c.i)/\j<=p) (fun j g' L' m' hI=>?_) (fun j v g' L' m' hj hI=>?_) (fun g' L' m' hI=>?_) (bY rfl rfl rfl (Nat.zero_le _)) (by simp;lia)
 ·refine bK hI fun z0 z1 U U=>?_;clear hI;subst z0;subst z1;exact Lk.cr hl
 ·refine bK hI fun z0 z1 hself hjp=>?_;clear hI;subst z0;subst z1;rw [List.getElem?_map] at hj;refine af (Option.map_eq_some_iff.mp hj) fun ij hij z2=>?_;subst z2;refine aj (hbs ij (List.mem_of_getElem? hij)) fun v hv=>?_;refine qN (kB ?_);refine gy 257 (.s (.s (.c hself .n))) (fb hl hv) aX (wb ?_);refine dE hl ⟨v,hv⟩ ?_;refine gh (.s (.s (.c hself .n))) ak (an ?_);refine⟨fun hc=>?_,fun hc=>?_⟩
  ·have hjp':j=p:=by
    rcases Nat.lt_or_ge j p with z | z
    ·rw [hq j ij z hij] at hc;exact gw hc
    ·lia
   subst hjp';rw [hp] at hij;obtain rfl:=Option.some.inj hij;have hnum:aQ g'.b i=v.num:=by unfold aQ;exact ac hv rfl
   rw [hnum] at hby h;refine gy 38029069 (.s (.s (.c hself .n))) (.app (fw hl) (fb hl hv)) ec (wk ?_);refine k9 (Lk.cb hl) (ac (bh ..) hbn) (by refine ac (bp ..) ?_;simpa using hby) (Up.cb hl (rm g'.c.by_ v.num) (ka _ _ _)) ?_;refine gy 1805 (.s (.s (.c hself .n))) (fw hl) aX (wk ?_);refine sW (k':=j) (Lk.cr (by exact hl)) (by simp;lia) (by unfold dR;refine ac (if_pos (by lia) ..) (ac (if_pos (by simp;omega) ..) ?_);rfl) (Up.cr (by exact hl) (g'.c.row.eraseIdx j) (bJ _ _ _)) ?_;refine gh (.s (.s (.c hself .n))) ak (en ?_);refine gh (.s (.s (.c hself .n))) ak (fi 0 rfl ?_);exact h
  ·have hjp':j≠p:=fun z=>by subst z;rw [hp] at hij;obtain rfl:=Option.some.inj hij;rw [hfr] at hc;exact yz hc
   refine gh (.s (.s (.c hself .n))) ak (en ?_);exact(bY rfl rfl ((Vf.s (Vf.s (.c hself .n))) _ _ rfl) (by lia))
 ·refine bK hI fun U U U hle=>?_;clear hI;simp at hle;lia
theorem uR(hl:g.live=true)(hn:g.c.row.length<=90)(hr:¬ (g.c.row.length:Int)<g.c.most)(hbs:∀ j∈g.c.row,∃ v,lk g.b j=some v)(hq:∀ j∈g.c.row,isFr g.b j=false)(h:E 76 g L):wp (lvl aG (k+3) (.base 235) [.obj g.c.i]) Q E g L m:=by
 refine aW uD rfl rfl ?_;refine gx 1805 (fw hl) aX (wc ?_);refine cw (Lk.cr hl) (by simp;lia) ?_;refine gx 1805 (fw hl) aX (an ?_);refine⟨fun hc=>absurd (by simpa using hc) hr,fun U=>?_⟩;refine gx 1805 (fw hl) aX (ex ?_);refine(ag _ (nI (Lk.cr hl)) ?_);refine nO (l:=g.c.row.map .obj) (fun j g' L' m'=>g'=g/\L'=L/\lk m' .self=some (.obj g.c.i)) (fun j g' L' m' hI=>?_) (fun j v g' L' m' hj hI=>?_) (fun g' L' m' hI=>?_) (ao rfl rfl rfl) (by simp;lia)
 ·refine aM hI fun z0 z1 U=>?_;clear hI;subst z0;subst z1;exact Lk.cr hl
 ·refine aM hI fun z0 z1 hself=>?_;clear hI;subst z0;subst z1;rw [List.getElem?_map] at hj;refine af (Option.map_eq_some_iff.mp hj) fun ij hij z2=>?_;subst z2;refine aj (hbs ij (List.mem_of_getElem? hij)) fun v hv=>?_;refine qN (kB ?_);refine gy 257 (.s (.s (.c hself .n))) (fb hl hv) aX (wb ?_);refine dE hl ⟨v,hv⟩ ?_;refine gh (.s (.s (.c hself .n))) ak (an ?_);refine⟨fun hc=>?_,fun hc=>?_⟩
  ·rw [hq ij (List.mem_of_getElem? hij)] at hc;exact gw hc
  ·refine gh (.s (.s (.c hself .n))) ak (en ?_);exact(ao rfl rfl ((Vf.s (Vf.s (.c hself .n))) _ _ rfl))
 ·refine aM hI fun z0 z1 U=>?_;clear hI;subst z0;subst z1;refine gh .n ak (fi 0 rfl ?_);exact h
theorem oK{x:Int}(hl:g.live=true)(hx:¬ (0<=x/\x<g.k.blocks))(h:E 64 g L):wp (lvl aG (k+4) (.base 228) [.obj g.c.i,.int x]) Q E g L m:=by
 refine aW pC rfl rfl ?_;refine gx 1805 (fw hl) aX (wc ?_);exact cW hl (fun z=>absurd z hx) (fun U=>⟨.refl,h⟩)
theorem mo(hl:g.live=true)(h:E 64 g L):wp (lvl aG (k+4) (.base 228) [.obj g.c.i,.none]) Q E g L m:=by
 refine aW pC rfl rfl ?_;refine gx 1805 (fw hl) aX (wc ?_);exact fp ⟨.refl,h⟩
theorem oL{x:Int}(hl:g.live=true)(hx:0<=x/\x<g.k.blocks)(hby:lk g.c.by_ x=some i)(hb:lk g.b i=some u)(h:Q (.obj i) { g with b:=st g.b i { u with hol:=u.hol+1 },c:={ g.c with hits:=g.c.hits+1 } } L m):wp (lvl aG (k+4) (.base 228) [.obj g.c.i,.int x]) Q E g L m:=by
 refine aW pC rfl rfl ?_;refine gx 1805 (fw hl) aX (wc ?_);refine cW hl (fun U=>?_) (fun z=>absurd hx z);refine gx 263949 (fw hl) cR (wk ?_);refine nt (Lk.cb hl) hby ?_;refine gx 3491989122 (fw hl) ec (wk ?_);refine dj (Lk.cI hl) (Lk.cD hl) rfl (by simp [dh]) (Up.hits hl _) ?_;refine gx 2113793 (fb hl hb) cR (wk ?_);refine dj (Lk.bI (by exact hl) (by exact hb)) (Lk.bD (i:=i) (by exact hl) (by exact hb)) rfl (by simp [dC]) (Up.bD (by exact hl) (by exact hb) (u.hol+1) u.pin rfl) ?_;refine g0 ak (fi 0 rfl ?_);exact h
theorem ml{x:Int}(hl:g.live=true)(hx:0<=x/\x<g.k.blocks)(hby:lk g.c.by_ x=none)(hn:g.c.row.length<=90)(hr:¬ (g.c.row.length:Int)<g.c.most)(hbs:∀ j∈g.c.row,∃ v,lk g.b j=some v)(hq:∀ j∈g.c.row,isFr g.b j=false)(h:E 76 g L):wp (lvl aG (k+4) (.base 228) [.obj g.c.i,.int x]) Q E g L m:=by
 refine aW pC rfl rfl ?_;refine gx 1805 (fw hl) aX (wc ?_);refine cW hl (fun U=>?_) (fun z=>absurd hx z);refine gx 263949 (fw hl) cR (wk ?_);refine nr (Lk.cb hl) hby ?_;refine gx 231041 (fw hl) cR (wc ?_);exact uR hl hn hr hbs hq ⟨.refl,h⟩
theorem pX{x:Int}{o:List UInt8}(hl:g.live=true)(ho:o.length<=1000)(h:∀ i d a,lk g.b i=none->Q (.obj i) { g with b:=g.b++[(i,⟨d,a,x,o,0,0⟩)] } L m):wp (lvl aG (k+3) (.base 189) [.int x,.bytes o]) Q E g L m:=by
 suffices hh:wp (lvl aG (k+3) (.base 189) [.int x,.bytes o]) (fun v g' L' m'=>∃ i d a,v=.obj i/\g'=g/\L'=(a,.ba o)::(i,.inst 189 d)::(d,.sd (dC ⟨d,a,x,o,0,0⟩))::L/\m'=m) E g L m by
  intro s hs hm
  have h1:=hh s hs hm
  generalize lvl aG (k+3) (.base 189) [.int x,.bytes o] s=r at h1 ⊢
  induction r with
  | bad=>exact h1
  | exc c s'=>exact h1
  | ok v s'=>
   obtain ⟨g',L',h2,i,d,a,rfl,rfl,rfl,h4⟩:=h1
   have hn:=s7 hl s'.H h2.1.rot.rot.rot.tail
   refine(aw _ _ ⟨J.newBu (u:=⟨d,a,x,o,0,0⟩) hl h2.1.rot,h2.2⟩ (by refine ac h4 ?_;exact h i d a hn))
 refine jT rfl xO fun d i=>(ag _ rfl (kB ?_));refine gx 8384 .nil aX (wb ?_);refine kH ho fun a=>?_;refine gx 2285330522433 .nil wH (en (fi 3 rfl ?_));exact(ck i d a rfl rfl rfl rfl)
end
section
variable {E:Nat->G->Tm->Prop}{g:G}{L:Tm}{m:Vs}{Q:AV->G->Tm->Vs->Prop}{k:Nat}{i:Nat}{u:Bu}
theorem jc{α β:Type}[DecidableEq α](x:α)(v:β):∀ (l:List (α×β)),lk l x=none->lk (l++[(x,v)]) x=some v/\∀ w,st (l++[(x,v)]) x w=l++[(x,w)]:=by
 intro l_
 induction l_ with
 | nil=>
  intro c1_
  exact⟨by simp [br,aP],fun w=>by simp [b8,bE]⟩
 | cons p_ l ih_=>
  intro h
  obtain ⟨a,b⟩:=p_
  simp only [br,aP] at h;by_cases z:a=x
  ·rw [if_pos z] at h;exact aA h.symm
  ·rw [if_neg z] at h;refine aq (ih_ h) fun h1 h2=>?_;exact⟨by simp only [List.cons_append,br,aP,if_neg z,h1],fun w=>by simp only [List.cons_append,b8,bE,if_neg z,h2]⟩
theorem dH{α β:Type}[DecidableEq α]{x y:α}{v:β}(h:x≠y):∀ (l:List (α×β)),lk (l++[(x,v)]) y=lk l y:=by
 intro l_
 induction l_ with
 | nil=>
  simp [br,aP,h]
 | cons p_ l ih_=>
  obtain ⟨a,b⟩:=p_
  simp only [List.cons_append,br,aP];by_cases z:a=y
  ·simp [z]
  ·simp only [if_neg z,ih_]
theorem mn{x:Int}{r1:List Nat}{b1:List (Int×Nat)}(hl:g.live=true)(hx:0<=x/\x<g.k.blocks)(hby:lk g.c.by_ x=none)(hmr:∀ (Q:AV->G->Tm->Vs->Prop) (E:Nat->G->Tm->Prop) (m:Vs),Q .none { g with c:={ g.c with row:=r1,by_:=b1 } } L m->wp (lvl aG (k+4) (.base 235) [.obj g.c.i]) Q E g L m)
  (hr1:r1.length<=90) (hb1:b1.length<=800) (hlat:((lk g.k.lat x).getD [0,0,0,0]).length<=1000)
  (h:∀ i d a,lk g.b i=none->Q (.obj i) { g with c:={ g.c with reads:=g.c.reads+1,row:=r1++[i],by_:=st b1 x i },b:=g.b++[(i,⟨d,a,x,(lk g.k.lat x).getD [0,0,0,0],1,0⟩)] } L m):wp (lvl aG (k+5) (.base 228) [.obj g.c.i,.int x]) Q E g L m:=by
 refine aW pC rfl rfl ?_;refine gx 1805 (fw hl) aX (wc ?_);refine cW hl (fun U=>?_) (fun z=>absurd hx z);refine gx 263949 (fw hl) cR (wk ?_);refine nr (Lk.cb hl) hby ?_;refine gx 231041 (fw hl) cR (wc ?_);refine hmr _ _ _ ?_;refine gx 21120781 (fw hl) ec (wc ?_);refine qd (by exact hl) (by exact hx) ?_;refine g0 ak (wc ?_);refine pX (by exact hl) (by exact hlat) fun i d a hi=>?_;refine gx 27281165 (fw hl) cR (wk ?_);refine dj (Lk.cI (by exact hl)) (Lk.cD (by exact hl)) rfl (by simp [dh]) (Up.reads (by exact hl) _) ?_;refine gx 1805 (fw hl) aX (wk ?_);refine ca (Lk.cb (by exact hl)) (by rw [bh];show b1.length<900;lia) (Up.cb (by exact hl) (st b1 x i) (df AV.obj b1 x i)) ?_;refine gx 247565 (fw hl) cR (wk ?_);refine cF (Lk.cr (by exact hl)) (by simp;lia) (Up.cr (by exact hl) (r1++[i]) (by simp)) ?_;refine aq (jc i (⟨d,a,x,(lk g.k.lat x).getD [0,0,0,0],0,0⟩:Bu) g.b hi) fun ha hs=>?_;refine gx 2113793 (fb hl ha) cR (wk ?_);refine dj (Lk.bI (by exact hl) (by exact ha)) (Lk.bD (by exact hl) (by exact ha)) rfl (by simp [dC]) (Up.bD (by exact hl) (by exact ha) (0+1) 0 rfl) ?_;refine g0 ak (fi 0 rfl ?_);have h2:=h i d a hi;have e:st (g.b++[(i,(⟨d,a,x,(lk g.k.lat x).getD [0,0,0,0],0,0⟩:Bu))]) i ⟨d,a,x,(lk g.k.lat x).getD [0,0,0,0],0+1,0⟩=g.b++[(i,⟨d,a,x,(lk g.k.lat x).getD [0,0,0,0],1,0⟩)]:=hs _;rw [<- e] at h2;exact h2
theorem sK(hl:g.live=true)(hn:g.c.row.length<=90)(hbs:∀ j∈g.c.row,∃ v,lk g.b j=some v)(h:∀ t,Q (.obj t) g ((t,.li ((g.c.row.map (aQ g.b)).map .int))::L) m):wp (lvl aG (k+2) (.base 289) [.obj g.c.i]) Q E g L m:=by
 refine nL xZ rfl rfl (kB ?_);refine g0 ak (wk ?_);refine cT (pB ?_);refine gx 1805 (fw hl) aX (en (ex ?_));refine(ax _ _ (cM (Lk.cr hl)) rfl (fun acc=>?_));refine cX (l:=g.c.row.map .obj) (fun j g' L' m'=>g'=g/\L'=(acc,.li (((g.c.row.map (aQ g.b)).map .int).take j))::L) (fun j g' L' m' hI=>?_) (fun j v g' L' m' hj hI=>?_) (fun g' L' m' hI=>?_) ⟨rfl,rfl⟩ (by simp;lia)
 ·refine aq hI fun z0 z1=>?_;clear hI;subst z0;subst z1;exact Lk.cr hl
 ·refine aq hI fun z0 z1=>?_;clear hI;subst z0;subst z1;rw [List.getElem?_map] at hj;refine af (Option.map_eq_some_iff.mp hj) fun ij hij z2=>?_;subst z2;refine aj (hbs ij (List.mem_of_getElem? hij)) fun v hv=>?_;refine lO ?_;refine gy 32897 (.s .n) (fb hl hv) cR (en (ex ?_));have hjl:j<g'.c.row.length:=(List.getElem?_eq_some_iff.mp hij).1;have hnb:aQ g'.b ij=v.num:=by unfold aQ;rw [hv]
  have e:((g'.c.row.map (aQ g'.b)).map AV.int).take (j+1)=((g'.c.row.map (aQ g'.b)).map AV.int).take j++[AV.int v.num]:=by
   rw [List.take_add_one,List.getElem?_map,List.getElem?_map,hij];simp [hnb]
  refine(cQ _ _ _ Lk.t0 (by simp;lia) Up.t0 rfl ?_);exact ac e rfl
 ·refine aq hI fun z0 z1=>?_;clear hI;subst z0;subst z1;have e:((g'.c.row.map (aQ g'.b)).map AV.int).take (g'.c.row.map AV.obj).length=(g'.c.row.map (aQ g'.b)).map AV.int:=List.take_of_length_le (by simp);refine ac e ?_;refine g0 ak (en ?_);exact h acc
theorem jH(hl:g.live=true)(hn:g.c.row.length<=90)(hbs:∀ j∈g.c.row,∃ v,lk g.b j=some v)(h:Q (.int (g.c.most - (g.c.row.filter fun i=>!isFr g.b i).length)) g L m):wp (lvl aG (k+3) (.base 294) [.obj g.c.i]) Q E g L m:=by
 refine aW x_ rfl rfl ?_;refine gx 1805 (fw hl) aX (wk ?_);refine cT (pB ?_);refine gx 1805 (fw hl) aX (en (ex ?_));refine(ax _ _ (cM (Lk.cr hl)) rfl (fun acc=>?_));refine cX (l:=g.c.row.map .obj) (fun j g' L' m'=>g'=g/\L'=(acc,.li (((g.c.row.take j).filter fun i=>!isFr g.b i).map .obj))::L) (fun j g' L' m' hI=>?_) (fun j v g' L' m' hj hI=>?_) (fun g' L' m' hI=>?_) ⟨rfl,rfl⟩ (by simp;lia)
 ·refine aq hI fun z0 z1=>?_;clear hI;subst z0;subst z1;exact Lk.cr hl
 ·refine aq hI fun z0 z1=>?_;clear hI;subst z0;subst z1;rw [List.getElem?_map] at hj;refine af (Option.map_eq_some_iff.mp hj) fun ij hij z2=>?_;subst z2;refine aj (hbs ij (List.mem_of_getElem? hij)) fun v hv=>?_;refine lO ?_;have e:g'.c.row.take (j+1)=g'.c.row.take j++[ij]:=by refine ac (List.take_add_one ..) (ac hij ?_);rfl
  refine gy 257 (.s .n) (fb hl hv) aX (wb ?_);refine dE hl ⟨v,hv⟩ ?_;refine gh (.s .n) ak (an ?_);refine⟨fun hc=>?_,fun hc=>?_⟩
  ·refine gy 1 (.s .n) .nil bT (en (ex ?_));refine(cQ _ _ _ Lk.t0 ?_ Up.t0 rfl ?_)
   ·have:=List.length_filter_le (fun i=>!isFr g'.b i) (g'.c.row.take j)
    simp at this ⊢;lia
   ·refine ac e (ac (List.filter_append ..) ?_);simp [hc]
  ·refine gy 2 (.s .n) .nil bT (en ?_);refine⟨rfl,?_⟩;refine ac e (ac (List.filter_append ..) ?_);simp [hc]
 ·refine aq hI fun z0 z1=>?_;clear hI;subst z0;subst z1;have e:g'.c.row.take (g'.c.row.map AV.obj).length=g'.c.row:=List.take_of_length_le (by simp);refine ac e ?_;refine g0 ak (wc ?_);refine cw Lk.t0 ?_ ?_
  ·have:=List.length_filter_le (fun i=>!isFr g'.b i) g'.c.row
   simp at this ⊢;lia
  refine gx 1 .nil ak (fi 1 rfl ?_)
  simpa using h
end
section
variable {E:Nat->G->Tm->Prop}{g:G}{L:Tm}{m:Vs}{Q:AV->G->Tm->Vs->Prop}{k:Nat}{i:Nat}{u:Bu}
theorem ie{α β:Type}[DecidableEq α]{x y:α}(h:x≠y):∀ (l:List (α×β)),lk (rm l x) y=lk l y:=by
 intro l_
 induction l_ with
 | nil=>
  exact rfl
 | cons p_ l ih_=>
  obtain ⟨a,b⟩:=p_
  simp only [eU,dK];by_cases z:a=x
  ·refine ac (if_pos z ..) ?_;simp only [br,aP];exact ac (if_neg (fun q=>h (z▸q)) ..) rfl
  ·refine ac (if_neg z ..) ?_;simp only [br,aP,ih_]
theorem mI{α β:Type}[DecidableEq α]{y:α}:∀ (xs:List α) (l:List (α×β)),y∉xs->lk (xs.foldl rm l) y=lk l y:=by
 intro l_
 induction l_ with
 | nil=>
  intro c1_ c2_
  exact rfl
 | cons x xs ih_=>
  intro l h
  exact ac (List.foldl_cons ..) (ac (ih_ _ (fun q=>h (List.mem_cons_of_mem _ q)) ..) (ac (ie (x:=x) (y:=y) (fun q=>h (by subst q;exact List.mem_cons_self ..)) ..) rfl))
theorem len_rm{α β:Type}[DecidableEq α]{x:α}:∀ (l:List (α×β)),(rm l x).length<=l.length:=by
 intro l_
 induction l_ with
 | nil=>
  exact Nat.le_refl _
 | cons p_ l ih_=>
  obtain ⟨a,b⟩:=p_
  simp only [eU,dK];split
  ·simp
  ·simp;exact ih_
theorem ty{α β:Type}[DecidableEq α]:∀ (xs:List α) (l:List (α×β)),(xs.foldl rm l).length<=l.length:=by
 intro l_
 induction l_ with
 | nil=>
  intro c1_
  exact Nat.le_refl _
 | cons x xs ih_=>
  intro l
  exact Nat.le_trans (ih_ _) (len_rm l)
theorem jQ{α:Type}:∀ (A:List α) (x:α) (B:List α),(A++x::B).eraseIdx A.length=A++B:=by
 intro l_
 induction l_ with
 | nil=>
  intro c1_ c2_
  exact rfl
 | cons a A ih_=>
  intro x B
  simp [ih_ x B]
theorem qa(hl:g.live=true)(hn:g.c.row.length<=90)(hbs:∀ j∈g.c.row,∃ v,lk g.b j=some v)(hnd:(g.c.row.map (aQ g.b)).Nodup)(hby:∀ j∈g.c.row,(lk g.c.by_ (aQ g.b j)).isSome=true)(hbn:g.c.by_.length<=1000)
  (h:Q .none { g with c:={ g.c with row:=g.c.row.filter (fun i=>!isFr g.b i),by_:=((g.c.row.filter (isFr g.b)).map (aQ g.b)).foldl rm g.c.by_ } } L m):wp (lvl aG (k+3) (.base 301) [.obj g.c.i]) Q E g L m:=by
 have hnd0:g.c.row.Nodup:=(List.pairwise_map.mp hnd).imp fun h q=>h (by rw [q])
 refine aW ya rfl rfl ?_;refine gx 1805 (fw hl) aX (wc ?_);refine ee (Lk.cr hl) (by simp;lia) fun t=>?_;refine g0 ak (ex ?_);refine(ag _ (cM Lk.t0) ?_);refine cX (l:=g.c.row.map .obj) (fun j g' L' m'=>g'={ g with c:={ g.c with row:=(g.c.row.take j).filter (fun i=>!isFr g.b i)++g.c.row.drop j,by_:=(((g.c.row.take j).filter (isFr g.b)).map (aQ g.b)).foldl rm g.c.by_ } }/\L'=(t,.li (g.c.row.map .obj))::L/\lk m' .self=some (.obj g.c.i))
  (fun j g' L' m' hI=>?_) (fun j v g' L' m' hj hI=>?_) (fun g' L' m' hI=>?_) (ao rfl rfl rfl) (by simp;lia)
 ·refine aM hI fun z0 z1 U=>?_;clear hI;subst z0;subst z1;exact Lk.t0
 ·refine aM hI fun z0 z1 hself=>?_;clear hI;subst z0;subst z1;rw [List.getElem?_map] at hj;refine af (Option.map_eq_some_iff.mp hj) fun ij hij z2=>?_;subst z2;have hmem:=List.mem_of_getElem? hij;refine aj (hbs ij hmem) fun v hv=>?_;have hjl:j<g.c.row.length:=(List.getElem?_eq_some_iff.mp hij).1;have e1:g.c.row.take (j+1)=g.c.row.take j++[ij]:=by rw [List.take_add_one,hij];rfl
  have e2:g.c.row.drop j=ij::g.c.row.drop (j+1):=by
   refine ac (List.drop_eq_getElem_cons hjl ..) ?_;rw [List.getElem?_eq_getElem hjl] at hij;exact ac (Option.some.inj hij ..) rfl
  have hsplit:g.c.row=g.c.row.take j++ij::g.c.row.drop (j+1):=by rw [<- e2,List.take_append_drop]
  have hni:ij∉g.c.row.take j:=fun q=>by
   rw [hsplit] at hnd0;exact(List.nodup_append.mp hnd0).2.2 ij q ij (List.mem_cons_self ..) rfl
  have hnn:aQ g.b ij∉((g.c.row.take j).filter (isFr g.b)).map (aQ g.b):=fun q=>by
   refine af (List.mem_map.mp q) fun a ha hae=>?_;have ha':=(List.mem_filter.mp ha).1;rw [hsplit,List.map_append] at hnd;exact(List.nodup_append.mp hnd).2.2 _ (List.mem_map_of_mem (f:=aQ g.b) ha') (aQ g.b ij) (by simp) hae
  refine eR (kB ?_);refine gy 257 (.s (.c hself .n)) (fb hl hv) aX (wb ?_);refine dE (g:={ g with c:={ g.c with row:=(g.c.row.take j).filter (fun i=>!isFr g.b i)++g.c.row.drop j,by_:=(((g.c.row.take j).filter (isFr g.b)).map (aQ g.b)).foldl rm g.c.by_ } }) hl ⟨v,hv⟩ ?_;refine gh (.s (.c hself .n)) ak (an ?_);refine⟨fun hc=>?_,fun hc=>?_⟩
  ·have hnum:aQ g.b ij=v.num:=by unfold aQ;rw [hv]
   have hbj:=hby ij hmem
   rw [hnum] at hbj hnn;refine gy 38029069 (.s (.c hself .n)) (.app (fw hl) (fb hl hv)) ec (wk ?_);refine k9 (Lk.cb (by exact hl)) (ac (bh ..) (Nat.le_trans (ty _ _) hbn)) (by rw [bp,Option.isSome_map];show (lk (List.foldl rm g.c.by_ _) v.num).isSome=true;rw [mI _ _ hnn];exact hbj) (Up.cb (by exact hl) (rm ((((g.c.row.take j).filter (isFr g.b)).map (aQ g.b)).foldl rm g.c.by_) v.num) (ka _ _ _)) ?_;refine gy 247565 (.s (.c hself .n)) (fw hl) cR (wk ?_);have hrow:(g.c.row.take j).filter (fun i=>!isFr g.b i)++g.c.row.drop j=(g.c.row.take j).filter (fun i=>!isFr g.b i)++ij::g.c.row.drop (j+1):=by rw [e2]
   have hmemrow:∀ a∈(g.c.row.take j).filter (fun i=>!isFr g.b i)++g.c.row.drop j,a∈g.c.row:=fun a ha=>by
    rcases List.mem_append.mp ha with ha | ha
    ·exact List.mem_of_mem_take (List.mem_filter.mp ha).1
    ·exact List.mem_of_mem_drop ha
   refine ef (k:=((g.c.row.take j).filter (fun i=>!isFr g.b i)).length) (Lk.cr (by exact hl)) ?_ (fun s hs=>lC (u:=v) hs (by exact hl) (fun a ha=>hbs a (hmemrow a ha)) (by exact hv) ?_ ?_) (Up.cr (by exact hl) ((g.c.row.take j).filter (fun i=>!isFr g.b i)++g.c.row.drop (j+1)) ?_) ?_
   ·show (List.map AV.obj ((g.c.row.take j).filter (fun i=>!isFr g.b i)++g.c.row.drop j)).length<=1000;have:=List.length_filter_le (fun i=>!isFr g.b i) (g.c.row.take j);simp at this ⊢;lia
   ·show ((g.c.row.take j).filter (fun i=>!isFr g.b i)++g.c.row.drop j)[((g.c.row.take j).filter (fun i=>!isFr g.b i)).length]?=some ij;rw [e2];simp
   ·intro q hq he
    have he:((g.c.row.take j).filter (fun i=>!isFr g.b i)++g.c.row.drop j)[q]?=some ij:=he
    rw [List.getElem?_append_left hq] at he;exact hni (List.mem_filter.mp (List.mem_of_getElem? he)).1
   ·show (List.map AV.obj ((g.c.row.take j).filter (fun i=>!isFr g.b i)++g.c.row.drop j)).eraseIdx _=_;exact ac (bJ ..) (ac (hrow ..) (ac (jQ ..) rfl))
   ·refine gh (.s (.c hself .n)) ak (en ?_);refine(ao ?_ rfl ((Vf.s (.c hself .n)) _ _ rfl));have f1:(g.c.row.take (j+1)).filter (fun i=>!isFr g.b i)=(g.c.row.take j).filter (fun i=>!isFr g.b i):=by rw [e1,List.filter_append];simp [show isFr g.b ij=true from hc]
    have f2:(((g.c.row.take (j+1)).filter (isFr g.b)).map (aQ g.b)).foldl rm g.c.by_=rm ((((g.c.row.take j).filter (isFr g.b)).map (aQ g.b)).foldl rm g.c.by_) v.num:=by
     rw [e1,List.filter_append,List.map_append,List.foldl_append];simp [show isFr g.b ij=true from hc,hnum]
    exact ac (f1 ..) (ac (f2 ..) rfl)
  ·refine gh (.s (.c hself .n)) ak (en ?_);refine(ao ?_ rfl ((Vf.s (.c hself .n)) _ _ rfl));have f1:(g.c.row.take (j+1)).filter (fun i=>!isFr g.b i)++g.c.row.drop (j+1)=(g.c.row.take j).filter (fun i=>!isFr g.b i)++g.c.row.drop j:=by rw [e1,e2,List.filter_append];simp [show isFr g.b ij=false from hc]
   have f2:(((g.c.row.take (j+1)).filter (isFr g.b)).map (aQ g.b)).foldl rm g.c.by_=((((g.c.row.take j).filter (isFr g.b)).map (aQ g.b)).foldl rm g.c.by_):=by
    rw [e1,List.filter_append];simp [show isFr g.b ij=false from hc]
   exact ac (f1 ..) (ac (f2 ..) rfl)
 ·refine aM hI fun z0 z1 U=>?_;clear hI;subst z0;subst z1;refine gh .n ak (fi 1 rfl ?_);have e1:g.c.row.take (g.c.row.map AV.obj).length=g.c.row:=List.take_of_length_le (by simp);have e2:g.c.row.drop (g.c.row.map AV.obj).length=[]:=List.drop_of_length_le (by simp);refine ac (e1 ..) (ac (e2 ..) (ac (List.append_nil ..) ?_));exact h
theorem hO{v:AV}{c:Nat}(hget:∀ (Q:AV->G->Tm->Vs->Prop) (E:Nat->G->Tm->Prop) (m:Vs),E c g L->wp (lvl aG (k+5) (.base 228) [.obj g.c.i,v]) Q E g L m)(hl:g.live=true)(h:E c g L):wp (lvl aG (k+6) (.base 277) [.obj g.c.i,v]) Q E g L m:=by
 refine aW wB rfl rfl ?_;refine gx 1805 (fw hl) aX (wc ?_);exact hget _ _ _ ⟨.refl,h⟩
theorem ms{v o:AV}{c:Nat}(hget:∀ (Q:AV->G->Tm->Vs->Prop) (E:Nat->G->Tm->Prop) (m:Vs),E c g L->wp (lvl aG (k+5) (.base 228) [.obj g.c.i,v]) Q E g L m)(hl:g.live=true)(h:E c g L):wp (lvl aG (k+6) (.base 284) [.obj g.c.i,v,o]) Q E g L m:=by
 refine aW wC rfl rfl ?_;refine gx 1805 (fw hl) aX (wc ?_);exact hget _ _ _ ⟨.refl,h⟩
theorem kT{j:Nat}{n:Int}(hn:n<1)(h:E 52 g L):wp (lvl aG (k+2) (.base 304) [.obj j,.int n]) Q E g L m:=by
 refine jT rfl wv fun d o=>(ag _ rfl (kB ?_));refine g0 ak (an ?_);refine⟨fun U=>?_,fun hc=>absurd hn (of_decide_eq_false hc)⟩;refine g0 ak (fi 2 rfl ?_);exact h
end
section
variable {E:Nat->G->Tm->Prop}{g:G}{L:Tm}{m:Vs}{Q:AV->G->Tm->Vs->Prop}{k:Nat}{i:Nat}{u:Bu}
theorem kW{n w kk:Int}{gg:Int->Int->G}{LL:Int->Int->Tm}(hLk:∀ w k,Lk (gg w k) (LL w k) i (.li [.int w,.int k]))(hUp:∀ w k w' k',Up (gg w k) (LL w k) i (.li [.int w',.int k']) (gg w' k') (LL w' k'))(hn:0<n/\n<1000000)(hk:0<=kk/\kk<1000000)
  (hs:∀ w k,Sfx (LL w k) (LL w k))(h:∀ d w' k',0<=d->d<n->0<=k'->k'<=kk+1->Q (.int d) (gg w' k') (LL w' k') m):wp (lvl aG (k+2) (.base 420) [.obj i,.int n]) Q E (gg w kk) (LL w kk) m:=by
 have h0:=hLk
 refine nL yh rfl rfl (kB ?_);refine g0 ak (wk ?_);refine bV (v:=.int w) (hLk _ _) (by simp) rfl ?_;refine g0 ak (an ?_);have smn:sm n=true:=by simp [sm];omega
 have sub0:∀ {w' k':Int} {Q':AV->G->Tm->Vs->Prop} {E':Nat->G->Tm->Prop} {m':Vs},Q' (.int w') (gg w' k') (LL w' k') m'->wp (getI (.obj i) (.int 0)) Q' E' (gg w' k') (LL w' k') m':=fun {w' k'} {_ _ _} hq=>bV (hLk _ _) (by simp) rfl hq
 have sub1:∀ {w' k':Int} {Q':AV->G->Tm->Vs->Prop} {E':Nat->G->Tm->Prop} {m':Vs},Q' (.int k') (gg w' k') (LL w' k') m'->wp (getI (.obj i) (.int 1)) Q' E' (gg w' k') (LL w' k') m':=fun {w' k'} {_ _ _} hq=>bV (hLk _ _) (by simp) rfl hq
 refine⟨fun hc=>?_,fun hc=>?_⟩
 ·have hw:0<w:=by simpa using hc
  refine g0 ak (wk ?_);refine sub0 ?_;refine g0 ak (wk ?_);refine a_ (z:=w.fmod n) (by show (if n=0 then none else _)=_;exact ac (if_neg (by lia) ..) rfl) ?_;refine g0 ak (wk ?_);refine sub0 ?_;refine g0 ak (wk ?_);refine a_ (z:=w.fdiv n) (by show (if n=0 then none else _)=_;exact ac (if_neg (by lia) ..) (ac (if_pos smn ..) rfl)) ?_;refine g0 ak (wk ?_);refine er (k':=0) (hLk _ _) (by simp) (by decide) rfl (hUp _ _ _ _) ?_;refine g0 ak (en ?_);exact h _ _ _ (Int.fmod_nonneg_of_pos _ hn.1) (Int.fmod_lt_of_pos _ hn.1) hk.1 (by lia)
 ·refine g0 ak (wk ?_);refine sub1 ?_;refine gx 1 .nil ak (wk ?_);refine er (k':=1) (hLk _ _) (by simp) (by decide) rfl (hUp w kk w (kk+1)) ?_;refine g0 ak (wk ?_);have smk:sm (kk+1)=true:=by simp [sm];omega
  refine sub1 ?_;refine gx 1 .nil ak (wk ?_);refine sub1 ?_;refine g0 ak (wk ?_);refine a_ (z:=5 * (kk+1) * (kk+1)) (by show (if (sm _||sm _)=true then _ else _)=_;exact ac smk (ac (Bool.or_true ..) (ac (if_pos rfl ..) rfl))) ?_;refine g0 ak (wk ?_);refine sub1 ?_;refine gx 2113665 .nil ak (wk ?_);refine a_ (z:=((5 * (kk+1) * (kk+1)+11 * (kk+1)+3).fmod 1009).fmod n) (by show (if n=0 then none else _)=_;exact ac (if_neg (by lia) ..) rfl) ?_;refine g0 ak (en ?_);exact h _ _ _ (Int.fmod_nonneg_of_pos _ hn.1) (Int.fmod_lt_of_pos _ hn.1) (by lia) (by lia)
theorem sL{n:Int}(hl:g.live=true)(hn:0<n/\n<1000000)(hk:0<=g.p.k/\g.p.k<1000000)(h:∀ d w' k',0<=d->d<n->0<=k'->k'<=g.p.k+1->Q (.int d) { g with p:={ g.p with w:=w',k:=k' } } L m):wp (lvl aG (k+2) (.base 420) [.obj g.p.i,.int n]) Q E g L m:=
 kW (w:=g.p.w) (kk:=g.p.k) (gg:=fun w k=>{ g with p:={ g.p with w:=w,k:=k } }) (LL:=fun U U=>L) (fun w k=>Lk.pool (g:={ g with p:={ g.p with w:=w,k:=k } }) hl) (fun w k w' k'=>Up.pool (g:={ g with p:={ g.p with w:=w,k:=k } }) hl w' k') hn hk (fun U U=>.refl) h
@[reducible] def Mx(k:Nat)(L:Tm)(Q:AV->G->Tm->Vs->Prop)(m m':Vs):Kx:=Fx k (fun c g' L'=>(c=76/\∀ t,Q (.obj t) g' ((t,.tu [.str .room,.none])::L') m)∨(c=64/\∀ t,Q (.obj t) g' ((t,.tu [.str .disk,.none])::L') m)∨(c=52/\∀ t,Q (.obj t) g' ((t,.tu [.str .argument,.none])::L') m)) L (fun v g' L' U=>∀ t,Q (.obj t) g' ((t,.tu [.str .told,v])::L') m) m'
theorem bv{body:RE}{cells:List (Nm×Nat)}(hlam:Lk g L i (.lam body cells))(h:∀ m',Go g L [] ((f0 (Mx k L Q m m') 60).E ⟨cells,0⟩ body (Mx k L Q m m').R)):wp (lvl aG (k+3) (.base 427) [.obj i]) Q E g L m:=by
 refine nL yi rfl rfl (kB ?_);refine g0 ak (zK ?_);refine vN (kB ?_);refine g0 ak (wb ?_);refine wp_mono (xE hlam (h _)) (fun v g' L' U h2=>?_) (fun c g' L' h2=>?_)
 ·refine gh .n ak fun t1=>?_;refine gh .n ak (en ?_);refine gh .n ak (en ?_);exact h2 t1
 ·rcases h2 with ⟨rfl,h2⟩ | ⟨rfl,h2⟩ | ⟨rfl,h2⟩
  ·refine(ag _ rfl (fun t U=>?_));refine gh .n ak (en ?_);exact h2 t
  ·refine(ag _ rfl (fun t U=>?_));refine gh .n ak (en ?_);exact h2 t
  ·refine(ag _ rfl (fun t U=>?_));refine gh .n ak (en ?_);exact h2 t
noncomputable def valI(l:List (Int×Int))(x:Int):Int:=(lk l x).getD 0
noncomputable def frW(w:GW)(x:Int):Bool:=decide (valI w.held x=0)&&decide (valI w.pins x=0)
theorem tf(l:List (Int×Int))(x:Int):((lk (aZ AV.int l) x).getD (.int 0))=.int (valI l x):=by
 rw [bp];unfold valI
 cases lk l x <;> rfl
theorem g8{l:List (Int×Int)}{x:Int}(h1:Lk g L i (.idd (aZ .int l)))(h:Q (.int (valI l x)) g L m):wp (bB .get i [.int x,.int 0]) Q E g L m:=sD h1 (ac (tf ..) (h))
theorem dg{x:Int}(hl:g.live=true)(h:Q (.bool (frW g.w x)) g L m):wp (lvl aG (k+2) (.base 434) [.obj g.w.i,.int x]) Q E g L m:=by
 refine aW yj rfl rfl ?_;refine gx 770 (fw hl) aX (wk ?_);refine g8 (Lk.wh hl) ?_;refine g0 ak (an ?_);refine⟨fun hc=>?_,fun hc=>?_⟩
 ·refine gx 898 (fw hl) aX (wk ?_);refine g8 (Lk.wp hl) ?_;refine g0 ak (fi 0 rfl ?_);unfold frW at h;rw [hc] at h;exact h
 ·refine g0 ak (fi 0 rfl ?_);unfold frW at h;rw [hc] at h;exact h
theorem jg(s:St)(x:Int):∀ l:List Int,memv s (.int x) (l.map .int)=some (decide (x∈l)):=by
 intro l_
 induction l_ with
 | nil=>
  exact rfl
 | cons y l ih_=>
  show jC _ (eq1 s (.int y) (.int x)) (memv s (.int x) (l.map .int))=_;refine ac (ih_ ..) ?_;show some (decide (y=x)||decide (x∈l))=_
  congr 1
  by_cases h:x=y
  ·subst h;simp
  ·simp [h,Ne.symm h]
theorem jL{x:Int}{j:Nat}{l:List Int}{QB:Bool->G->Tm->Vs->Prop}(h1:Lk g L j (.li (l.map .int)))(h:QB (decide (x∈l)) g L m):wp (dc .In (.int x) (.obj j)) QB E g L m:=
 dp (fun s hs=>by dsimp only [eO,inv];refine ac (bz hs h1 ..) ?_;exact jg s x l) h
theorem gH{j t:Nat}{l:List AV}{QB:Bool->G->Tm->Vs->Prop}(h1:Lk g L j (.li l))(h2:Lk g L t (.li []))(h:QB (decide (l=[])) g L m):wp (dc .Eq (.obj j) (.obj t)) QB E g L m:=
 dp (r:=decide (l=[])) (fun s hs=>by
  dsimp only [eO,eqv,liAt,tuAt];refine ac (bz hs h1 ..) (ac (bz hs h2 ..) ?_);induction l using List.casesOn with
  | nil=>rfl
  | cons a l=>rfl) h
theorem jk(s:St)(x:Int):∀ (l:List Int) (p:Nat),l[p]?=some x->(∀ q<p,l[q]?≠some x)->j_ s (.int x) (l.map .int)=some p:=by
 intro l_
 induction l_ with
 | nil=>
  intro p h c3_
  simp at h
 | cons y l ih_=>
  intro c1_ h hq
  induction c1_ using Nat.casesOn with
  | zero=>
    have:y=x:=by simpa using h
    subst this;show lB (some (decide (y=y))) _=_;rw [decide_eq_true rfl];rfl
  | succ p=>
    have hne:y≠x:=fun z=>hq 0 (by lia) (by refine ac z ?_;rfl)
    show lB (some (decide (y=x))) (j_ s (.int x) (l.map .int))=_;refine ac (ih_ p h (fun q hq'=>by have:=hq (q+1) (by lia);exact this) ..) ?_;rw [decide_eq_false hne];rfl
theorem mr{x:Int}{p:Nat}(hl:g.live=true)(hp:g.w.row[p]?=some x)(hq:∀ q<p,g.w.row[q]?≠some x)(hn:g.w.row.length<=900)(h:Q .none { g with w:={ g.w with row:=g.w.row.eraseIdx p++[x] } } L m):wp (lvl aG (k+2) (.base 446) [.obj g.w.i,.int x]) Q E g L m:=by
 refine aW yk rfl rfl ?_;refine gx 514 (fw hl) aX (wk ?_);refine ef (k:=p) (Lk.wr hl) (by simp;lia) (fun s U=>jk s x _ p hp hq) (Up.wr hl (g.w.row.eraseIdx p) (bJ _ _ _)) ?_;refine gx 514 (fw hl) aX (wk ?_);refine cF (Lk.wr (by exact hl)) (by simp;have:=List.length_eraseIdx_le g.w.row p;lia) (Up.wr (by exact hl) (g.w.row.eraseIdx p++[x]) (by simp)) ?_;refine g0 ak (fi 0 rfl ?_);exact h
theorem oM{x:Int}(hl:g.live=true)(hx:x∈g.w.row)(h:Q (.bool true) { g with w:={ g.w with met:=g.w.met+1 } } L m):wp (lvl aG (k+3) (.base 439) [.obj g.w.i,.int x]) Q E g L m:=by
 refine eK sp rfl (cp_cons fun j=>c_ ?_);refine gx 41024 (fw hl) cR (wk ?_);refine jL (Lk.wr hl) ?_;refine g0 ak (an ?_);refine⟨fun U=>?_,fun hc=>absurd hx (of_decide_eq_false hc)⟩;refine gx 16704 (fw hl) aX (wk ?_);refine dL (Lk.world hl) (by simp [ch]) (Up.met hl _) ?_;refine g0 ak (fi 1 rfl ?_);exact h
theorem eF{x:Int}{n:Nat}(h0:0<=x)(h1:x<n):dR x n=some x.toNat:=by unfold dR;exact ac (if_pos h0 ..) (ac (if_pos h1 ..) rfl)
theorem oN{x:Int}{a:Nat}{l:List Int}(hl:g.live=true)(hx:x∉g.w.row)(hr:(g.w.row.length:Int)≠g.w.most)(hn:g.w.row.length<=900)(h0:0<=x)(hd:g.w.ds[x.toNat]?=some (a,l))(hdn:g.w.ds.length<=900)(hln:l.length<=900)(hon:g.w.oct.length<900)
  (h:∀ t,Q (.bool true) { g with w:={ g.w with row:=g.w.row++[x],seen:=g.w.seen+1,oct:=st g.w.oct x (t,l) } } L m):wp (lvl aG (k+3) (.base 439) [.obj g.w.i,.int x]) Q E g L m:=by
 have hlt:x.toNat<g.w.ds.length:=(List.getElem?_eq_some_iff.mp hd).1
 refine eK sp rfl (cp_cons fun j=>c_ ?_);refine gx 41024 (fw hl) cR (wk ?_);refine jL (Lk.wr hl) ?_;refine g0 ak (an ?_);refine⟨fun hc=>absurd (of_decide_eq_true hc) hx,fun U=>?_⟩;refine g0 ak (wc ?_);refine cw (Lk.wr hl) (by simp;lia) ?_;refine gx 320 (fw hl) aX (an ?_);refine⟨fun hc=>absurd (by simpa using hc) hr,fun U=>?_⟩;refine gx 4 (fw hl) bT (wk ?_);refine cF (Lk.wr hl) (by simp;lia) (Up.wr hl (g.w.row++[x]) (by simp)) ?_;refine gx 16704 (fw hl) aX (wk ?_);refine dL (Lk.world (by exact hl)) (by simp [ch]) (Up.seen (by exact hl) _) ?_;refine gx 320 (fw hl) aX (wk ?_);refine bV (v:=.obj a) (Lk.wd (by exact hl)) (by simp;lia) (by
  show (dR x (g.w.ds.map fun p=>AV.obj p.1).length).bind ((g.w.ds.map fun p=>AV.obj p.1)[·]?)=_;refine ac (List.length_map ..) (ac (eF h0 (by lia) ..) ?_);show (g.w.ds.map fun p=>AV.obj p.1)[x.toNat]?=_;refine ac (List.getElem?_map ..) (ac hd ?_);rfl) ?_
 refine g0 ak (wc ?_);refine ee (Lk.ds (by exact hl) (by exact hd)) (by simp;lia) fun t=>?_;refine gx 321 (fw hl) aX (wk ?_);refine ca (Lk.wo (by exact hl)) (ac (bh ..) hon) (Up.newOc (A:=[]) (x:=x) (by exact hl) l rfl rfl) ?_;refine g0 ak (fi 1 rfl ?_);exact h t
theorem mq{x:Int}(hl:g.live=true)(hx:x∉g.w.row)(hr:(g.w.row.length:Int)=g.w.most)(hn:g.w.row.length<=90)(hq:∀ y∈g.w.row,frW g.w y=false)(h:Q (.bool false) g L m):wp (lvl aG (k+3) (.base 439) [.obj g.w.i,.int x]) Q E g L m:=by
 refine eK sp rfl (cp_cons fun j=>c_ ?_);refine gx 41024 (fw hl) cR (wk ?_);refine jL (Lk.wr hl) ?_;refine g0 ak (an ?_);refine⟨fun hc=>absurd (of_decide_eq_true hc) hx,fun U=>?_⟩;refine g0 ak (wc ?_);refine cw (Lk.wr hl) (by simp;lia) ?_;refine gx 320 (fw hl) aX (an ?_);refine⟨fun U=>?_,fun hc=>absurd (by simpa using hr) (of_decide_eq_false hc)⟩;refine g0 ak (wk ?_);refine cT (pB ?_);refine g0 ak (en (ex ?_));refine(ax _ _ (cM (Lk.wr hl)) rfl (fun acc=>?_));refine cX (l:=g.w.row.map .int) (fun U g' L' U=>g'=g/\L'=(acc,.li [])::(j,.ce (some (.obj g.w.i)))::L) (fun U g' L' m' hI=>?_) (fun jj v g' L' m' hj hI=>?_) (fun g' L' m' hI=>?_) ⟨rfl,rfl⟩ (by simp;lia)
 ·refine aq hI fun z0 z1=>?_;clear hI;subst z0;subst z1;exact Lk.wr hl
 ·refine aq hI fun z0 z1=>?_;clear hI;subst z0;subst z1;rw [List.getElem?_map] at hj;refine af (Option.map_eq_some_iff.mp hj) fun y hy z2=>?_;subst z2;refine lO ?_;refine gy 65 (.s .n) .nil bT (wb ?_);refine dg hl ?_;refine gh (.s .n) ak (an ?_);refine⟨fun hc=>?_,fun U=>?_⟩
  ·rw [hq y (List.mem_of_getElem? hy)] at hc;exact gw hc
  ·refine gy 2 (.s .n) .nil bT (en ?_);exact⟨rfl,rfl⟩
 ·refine aq hI fun z0 z1=>?_;clear hI;subst z0;subst z1;refine g0 ak fun t1=>?_;refine g0 ak (wk ?_);refine gH (Lk.ts Lk.t0) Lk.t0 ?_;refine gx 1 .nil bT (fi 3 rfl ?_);exact h
theorem kU{x y:Int}{a p:Nat}{l:List Int}(hl:g.live=true)(hx:x∉g.w.row)(hr:(g.w.row.length:Int)=g.w.most)(hn:g.w.row.length<=90)(hp:g.w.row[p]?=some y)(hfr:frW g.w y=true)(hq:∀ q z,q<p->g.w.row[q]?=some z->frW g.w z=false)(h0:0<=x)(hd:g.w.ds[x.toNat]?=some (a,l))(hdn:g.w.ds.length<=900)(hln:l.length<=900)(hon:g.w.oct.length<900)
  (h:∀ t,Q (.bool true) { g with w:={ g.w with row:=g.w.row.eraseIdx p++[x],seen:=g.w.seen+1,oct:=st g.w.oct x (t,l) } } L m):wp (lvl aG (k+3) (.base 439) [.obj g.w.i,.int x]) Q E g L m:=by
 have hlt:x.toNat<g.w.ds.length:=(List.getElem?_eq_some_iff.mp hd).1
 have hpl:p<g.w.row.length:=(List.getElem?_eq_some_iff.mp hp).1
 refine eK sp rfl (cp_cons fun j=>c_ ?_);refine gx 41024 (fw hl) cR (wk ?_);refine jL (Lk.wr hl) ?_;refine g0 ak (an ?_);refine⟨fun hc=>absurd (of_decide_eq_true hc) hx,fun U=>?_⟩;refine g0 ak (wc ?_);refine cw (Lk.wr hl) (by simp;lia) ?_;refine gx 320 (fw hl) aX (an ?_);refine⟨fun U=>?_,fun hc=>absurd (by simpa using hr) (of_decide_eq_false hc)⟩;refine g0 ak (wk ?_);refine cT (pB ?_);refine g0 ak (en (ex ?_));refine(ax _ _ (cM (Lk.wr hl)) rfl (fun acc=>?_));refine cX (l:=g.w.row.map .int) (fun jj g' L' U=>g'=g/\L'=(acc,.li (((g.w.row.take jj).filter (frW g.w)).map .int))::(j,.ce (some (.obj g.w.i)))::L) (fun U g' L' m' hI=>?_) (fun jj v g' L' m' hj hI=>?_) (fun g' L' m' hI=>?_) ⟨rfl,rfl⟩ (by simp;lia)
 ·refine aq hI fun z0 z1=>?_;clear hI;subst z0;subst z1;exact Lk.wr hl
 ·refine aq hI fun z0 z1=>?_;clear hI;subst z0;subst z1;rw [List.getElem?_map] at hj;refine af (Option.map_eq_some_iff.mp hj) fun z hz z2=>?_;subst z2;have e:g'.w.row.take (jj+1)=g'.w.row.take jj++[z]:=by rw [List.take_add_one,hz];rfl
  refine lO ?_;refine gy 65 (.s .n) .nil bT (wb ?_);refine dg hl ?_;refine gh (.s .n) ak (an ?_);refine⟨fun hc=>?_,fun hc=>?_⟩
  ·refine gy 1 (.s .n) .nil bT (en (ex ?_));refine(cQ _ _ _ Lk.t0 ?_ Up.t0 rfl ?_)
   ·have:=List.length_filter_le (frW g'.w) (g'.w.row.take jj)
    simp at this ⊢;lia
   ·rw [e,List.filter_append];simp [hc]
  ·refine gy 2 (.s .n) .nil bT (en ?_);refine⟨rfl,?_⟩;rw [e,List.filter_append];simp [hc]
 ·refine aq hI fun z0 z1=>?_;clear hI;subst z0;subst z1;have e1:g'.w.row.take (g'.w.row.map AV.int).length=g'.w.row:=List.take_of_length_le (by simp);refine ac (e1 ..) ?_;have hsp:∃ rest,g'.w.row.filter (frW g'.w)=y::rest:=by
   have hs:g'.w.row=g'.w.row.take p++y::g'.w.row.drop (p+1):=by
    rw [List.getElem?_eq_getElem hpl] at hp;exact bo (Option.some.inj hp ..) (bo (List.drop_eq_getElem_cons hpl ..) (ac (List.take_append_drop ..) rfl))
   have h1:(g'.w.row.take p).filter (frW g'.w)=[]:=by
    rw [List.filter_eq_nil_iff];intro z hz;obtain ⟨q,hq1,hq2⟩:=List.mem_iff_getElem.mp hz;have hqp:q<p:=by simp at hq1;lia
    have:g'.w.row[q]?=some z:=by
     exact bo (hq2 ..) (ac (List.getElem_take ..) (List.getElem?_eq_getElem _))
    rw [hq q z hqp this];decide
   refine ac (hs ..) (ac (List.filter_append ..) (ac (h1 ..) (ac (List.nil_append ..) (ac (List.filter_cons_of_pos hfr ..) ?_))));exact⟨_,rfl⟩
  refine aj hsp fun rest hsp=>?_;have hlen:=List.length_filter_le (frW g'.w) g'.w.row;rw [hsp] at hlen ⊢;refine g0 ak fun t1=>?_;refine g0 ak (wk ?_);refine gH (Lk.ts Lk.t0) Lk.t0 ?_;refine gx 514 (fw hl) aX (wk ?_);refine bV (v:=.int y) (Lk.ts Lk.t0) (by simp at hlen ⊢;lia) (ac (eF (by decide) (by simp) ..) rfl) ?_;refine g0 ak (wk ?_);have hqy:∀ q<p,g'.w.row[q]?≠some y:=fun q hqp e=>by rw [hq q y hqp e] at hfr;exact gw hfr
  refine ef (k:=p) (Lk.wr hl) (by simp;lia) (fun s U=>jk s y _ p hp hqy) (Up.wr hl (g'.w.row.eraseIdx p) (bJ _ _ _)) ?_;have hle:=List.length_eraseIdx_le g'.w.row p;refine gx 4 (fw hl) bT (wk ?_);refine cF (Lk.wr (by exact hl)) (by simp;lia) (Up.wr (by exact hl) (g'.w.row.eraseIdx p++[x]) (by simp)) ?_;refine gx 16706 (fw hl) aX (wk ?_);refine dL (Lk.world (by exact hl)) (by simp [ch]) (Up.seen (by exact hl) _) ?_;refine gx 322 (fw hl) aX (wk ?_);refine bV (v:=.obj a) (Lk.wd (by exact hl)) (by simp;lia) (by
   show (dR x (g'.w.ds.map fun p=>AV.obj p.1).length).bind ((g'.w.ds.map fun p=>AV.obj p.1)[·]?)=_;refine ac (List.length_map ..) (ac (eF h0 (by lia) ..) ?_);show (g'.w.ds.map fun p=>AV.obj p.1)[x.toNat]?=_;rw [List.getElem?_map,hd];rfl) ?_
  refine g0 ak (wc ?_);refine ee (Lk.ds (by exact hl) (by exact hd)) (by simp;lia) fun t2=>?_;refine gx 323 (fw hl) aX (wk ?_);refine ca (Lk.wo (by exact hl)) (ac (bh ..) hon) (Up.newOc (A:=[]) (x:=x) (by exact hl) l rfl rfl) ?_;refine g0 ak (fi 3 rfl ?_);exact h t2
end
def il(l:List Int)(o:List UInt8):Prop:=l.length=4/\(∀ v∈l,0<=v/\v<256)/\o=l.map fun v=>v.toNat.toUInt8
structure Gd(e:Int->Int)(g:G):Prop where
 live:g.live=true
 kfz:g.w.kfz=false
 bl:5<=g.k.blocks/\g.k.blocks<=9
 most:g.c.most=g.w.most/\1<=g.w.most/\g.w.most<=4
 rlen:(g.w.row.length:Int)<=g.w.most
 row:g.w.row=g.c.row.map (aQ g.b)
 bs:∀ i∈g.c.row,∃ u,lk g.b i=some u
 nd:g.w.row.Nodup
 rng:∀ x∈g.w.row,0<=x/\x<g.k.blocks
 by1:∀ i∈g.c.row,lk g.c.by_ (aQ g.b i)=some i
 by2:∀ x i,lk g.c.by_ x=some i->i∈g.c.row/\aQ g.b i=x
 byk:(g.c.by_.map (·.1)).Nodup
 hp:∀ i u,i∈g.c.row->lk g.b i=some u->u.hol=valI g.w.held u.num+e u.num/\u.pin=valI g.w.pins u.num/\∃ t l,lk g.w.oct u.num=some (t,l)/\il l u.oct
 out:∀ x,x∉g.w.row->valI g.w.held x=0/\valI g.w.pins x=0
 nn:∀ x,0<=valI g.w.held x/\0<=valI g.w.pins x
 kp1:∀ x i,lk g.w.kept x=some i->i∈g.c.row/\aQ g.b i=x/\valI g.w.held x≠0
 kp2:∀ x,valI g.w.held x≠0->(lk g.w.kept x).isSome=true
 kpk:(g.w.kept.map (·.1)).Nodup
 cnt:g.c.hits=g.w.met/\g.c.reads=g.w.seen/\g.c.writes=g.w.written
 dsl:(g.w.ds.length:Int)=g.k.blocks
 dso:∀ (j t:Nat) (l:List Int),g.w.ds[j]?=some (t,l)->il l ((lk g.k.lat (j:Int)).getD [0,0,0,0])
 old:∀ i∈g.w.old,∃ u,lk g.b i=some u
noncomputable abbrev e0:Int->Int:=fun U=>0
noncomputable abbrev e1(x:Int):Int->Int:=fun y=>if y=x then 1 else 0
theorem bX{b:List (Nat×Bu)}{i:Nat}{u:Bu}(h:lk b i=some u):aQ b i=u.num:=by unfold aQ;exact ac h rfl
theorem gN{b:List (Nat×Bu)}{i:Nat}{u u':Bu}(h:lk b i=some u)(hn:u'.num=u.num)(j:Nat):aQ (st b i u') j=aQ b j:=by
 unfold aQ;refine ac (bw ..) ?_;by_cases z:i=j
 ·subst z;refine ac (if_pos rfl) (ac h ?_);exact hn
 ·exact ac (if_neg z ..) rfl
theorem q5{b:List (Nat×Bu)}{i j:Nat}{u:Bu}(h:i≠j):aQ (b++[(i,u)]) j=aQ b j:=by
 unfold aQ;exact ac (dH h ..) rfl
theorem bj(l:List (Int×Int))(x y v:Int):valI (st l x v) y=if x=y then v else valI l y:=by
 unfold valI;rw [bw];split <;> rfl
theorem mem_st_keys{α β:Type}[DecidableEq α]{x:α}{v:β}:∀ (l:List (α×β)) (a:α),a∈(st l x v).map (·.1)->a=x∨a∈l.map (·.1):=by
 intro l_
 induction l_ with
 | nil=>
  intro a h
  simp [b8,bE] at h;exact .inl h
 | cons p_ l ih_=>
  intro a h
  obtain ⟨c,d⟩:=p_
  simp only [b8,bE] at h;by_cases z:c=x
  ·rw [if_pos z] at h;exact .inr (by exact h)
  ·rw [if_neg z] at h;simp only [List.map_cons,List.mem_cons] at h ⊢;rcases h with h | h
   ·exact .inr (.inl h)
   ·rcases ih_ a h with q | q
    ·exact .inl q
    ·exact .inr (.inr q)
theorem ut{α β:Type}[DecidableEq α]{x:α}{v:β}:∀ (l:List (α×β)),(l.map (·.1)).Nodup->((st l x v).map (·.1)).Nodup:=by
 intro l_
 induction l_ with
 | nil=>
  intro c1_
  simp [b8,bE]
 | cons p_ l ih_=>
  intro h
  obtain ⟨c,d⟩:=p_
  simp only [b8,bE];rw [List.map_cons,List.nodup_cons] at h;by_cases z:c=x
  ·rw [if_pos z,List.map_cons,List.nodup_cons];exact h
  ·rw [if_neg z,List.map_cons,List.nodup_cons];refine⟨fun q=>?_,ih_ h.2⟩;rcases mem_st_keys l c q with q | q
   ·exact z q
   ·exact h.1 q
theorem lq{α β:Type}[DecidableEq α]{x:α}:∀ (l:List (α×β)) (a:α),a∈(rm l x).map (·.1)->a∈l.map (·.1):=by
 intro l_
 induction l_ with
 | nil=>
  intro a h
  exact h
 | cons p_ l ih_=>
  intro a h
  obtain ⟨c,d⟩:=p_
  simp only [eU,dK] at h;by_cases z:c=x
  ·rw [if_pos z] at h;exact List.mem_cons_of_mem _ h
  ·rw [if_neg z] at h;simp only [List.map_cons,List.mem_cons] at h ⊢;exact h.imp id (ih_ a)
theorem nR{α β:Type}[DecidableEq α]{x:α}:∀ (l:List (α×β)),(l.map (·.1)).Nodup->((rm l x).map (·.1)).Nodup:=by
 intro l_
 induction l_ with
 | nil=>
  intro h
  exact h
 | cons p_ l ih_=>
  intro h
  obtain ⟨c,d⟩:=p_
  simp only [eU,dK];rw [List.map_cons,List.nodup_cons] at h;by_cases z:c=x
  ·refine ac (if_pos z ..) ?_;exact h.2
  ·rw [if_neg z,List.map_cons,List.nodup_cons];exact⟨fun q=>h.1 (lq l c q),ih_ h.2⟩
theorem mH{α β:Type}[DecidableEq α]{x:α}:∀ (l:List (α×β)),x∉l.map (·.1)->lk l x=none:=by
 intro l_
 induction l_ with
 | nil=>
  intro c1_
  exact rfl
 | cons p_ l ih_=>
  intro h
  obtain ⟨c,d⟩:=p_
  rw [List.map_cons,List.mem_cons,not_or] at h;simp only [br,aP];refine ac (if_neg (fun q=>h.1 q.symm) ..) ?_;exact ih_ h.2
theorem eS{α β:Type}[DecidableEq α]{x:α}:∀ (l:List (α×β)),(l.map (·.1)).Nodup->lk (rm l x) x=none:=by
 intro l_
 induction l_ with
 | nil=>
  intro c1_
  exact rfl
 | cons p_ l ih_=>
  intro h
  obtain ⟨c,d⟩:=p_
  simp only [eU,dK];rw [List.map_cons,List.nodup_cons] at h;by_cases z:c=x
  ·refine ac (if_pos z ..) ?_;exact mH l (z▸h.1)
  ·refine ac (if_neg z ..) ?_;simp only [br,aP];refine ac (if_neg z ..) ?_;exact ih_ h.2
theorem dG{α β:Type}[DecidableEq α]{x:α}{v:β}:∀ (l:List (α×β)),(st l x v).length<=l.length+1:=by
 intro l_
 induction l_ with
 | nil=>
  simp [b8,bE]
 | cons p_ l ih_=>
  obtain ⟨c,d⟩:=p_
  simp only [b8,bE];split
  ·simp
  ·simp;exact ih_
theorem vj{α β:Type}[DecidableEq α]:∀ (xs:List α) (l:List (α×β)),(l.map (·.1)).Nodup->((xs.foldl rm l).map (·.1)).Nodup:=by
 intro l_
 induction l_ with
 | nil=>
  intro c1_ h
  exact h
 | cons x xs ih_=>
  intro l h
  exact ih_ _ (nR l h)
theorem lm{α β:Type}[DecidableEq α]{y:α}:∀ (xs:List α) (l:List (α×β)),(l.map (·.1)).Nodup->y∈xs->lk (xs.foldl rm l) y=none:=by
 intro l_
 induction l_ with
 | nil=>
  intro c1_ c2_ h
  cases h
 | cons x xs ih_=>
  intro l hn h
  refine ac (List.foldl_cons ..) ?_;by_cases z:y∈xs
  ·exact ih_ _ (nR l hn) z
  ·rcases List.mem_cons.mp h with rfl | h
   ·refine ac (mI xs _ z ..) ?_;exact eS l hn
   ·exact absurd h z
section
variable {e:Int->Int}{g:G}
theorem Gd.num(h:Gd e g){i:Nat}(hi:i∈g.c.row):aQ g.b i∈g.w.row:=by refine ac (h.row ..) ?_;exact List.mem_map_of_mem hi
theorem Gd.inj(h:Gd e g){i j:Nat}(hi:i∈g.c.row)(hj:j∈g.c.row)(hn:aQ g.b i=aQ g.b j):i=j:=by
 have h1:=h.by1 i hi
 rw [hn,h.by1 j hj] at h1;exact(Option.some.inj h1).symm
theorem Gd.cnd(h:Gd e g):g.c.row.Nodup:=by
 have:=h.nd
 rw [h.row] at this;exact(List.pairwise_map.mp this).imp fun hne q=>hne (by exact ac q rfl)
theorem Gd.buf(h:Gd e g){x:Int}(hx:x∈g.w.row):∃ (i:Nat) (u:Bu) (p:Nat),lk g.c.by_ x=some i/\lk g.b i=some u/\u.num=x/\i∈g.c.row/\g.c.row[p]?=some i/\g.w.row[p]?=some x:=by
 rw [h.row] at hx;refine af (List.mem_map.mp hx) fun i hi z2=>?_;subst z2;refine aj (h.bs i hi) fun u hu=>?_;obtain ⟨p,hp,hpe⟩:=List.mem_iff_getElem.mp hi;have hp':g.c.row[p]?=some i:=by refine bo hpe ?_;exact List.getElem?_eq_getElem hp
 exact(cZ i u p (h.by1 i hi) hu ((bX hu).symm) hi hp' (by refine ac (h.row ..) (ac (List.getElem?_map ..) (ac hp' ?_));rfl))
theorem bC{α:Type}{l:List α}(h:l.Nodup){p:Nat}{x:α}(hp:l[p]?=some x):∀ q<p,l[q]?≠some x:=fun q hq he=>by
 refine aj (List.getElem?_eq_some_iff.mp hp) fun h1 h2=>?_;refine aj (List.getElem?_eq_some_iff.mp he) fun h3 h4=>?_;have:=(List.getElem_inj h).mp (h2.trans h4.symm);lia
theorem Gd.notby(h:Gd e g){x:Int}(hx:x∉g.w.row):lk g.c.by_ x=none:=by
 induction q:lk g.c.by_ x with
 | none=>rfl
 | some i=>
  refine aq (h.by2 x i q) fun h1 h2=>?_;exact absurd (h2▸h.num h1) hx
theorem Gd.free(h:Gd e0 g){i:Nat}(hi:i∈g.c.row):isFr g.b i=frW g.w (aQ g.b i):=by
 refine aj (h.bs i hi) fun u hu=>?_;refine aM (h.hp i u hi hu) fun h1 h2 U=>?_;unfold isFr frW;refine ac (bX hu ..) (ac hu ?_);dsimp only;refine ac h1 (ac h2 ?_);simp
end
structure Sz(n:Nat)(g:G):Prop where
 held:g.w.held.length<=n
 pins:g.w.pins.length<=n
 kept:g.w.kept.length<=n
 old:g.w.old.length<=n
 by_:g.c.by_.length<=n
 lat:g.k.lat.length<=n
 unf:g.k.unf.length<=n
 oct:g.w.oct.length<=n
structure Same(g g':G):Prop where
 p:g'.p.i=g.p.i
 w:g'.w.i=g.w.i
 k:g'.k.i=g.k.i
 c:g'.c.i=g.c.i
 bl:g'.k.blocks=g.k.blocks
theorem Same.refl{g:G}:Same g g:=⟨rfl,rfl,rfl,rfl,rfl⟩
theorem Same.trans{a b c:G}(h1:Same a b)(h2:Same b c):Same a c:=⟨h2.1.trans h1.1,h2.2.trans h1.2,h2.3.trans h1.3,h2.4.trans h1.4,h2.5.trans h1.5⟩
theorem qt{b:List (Nat×Bu)}{i j:Nat}{u':Bu}(h:∃ v,lk b j=some v):∃ v,lk (st b i u') j=some v:=by
 refine ac (bw ..) ?_;by_cases z:i=j
 ·refine ac (if_pos z) ?_;exact⟨_,rfl⟩
 ·refine ac (if_neg z) ?_;exact h
section
variable {e e':Int->Int}{g:G}
theorem Gd.pool(h:Gd e g)(p:GP):Gd e { g with p:=p }:={ h with }
theorem Gd.upB(h:Gd e g){i:Nat}{u u':Bu}(hi:i∈g.c.row)(hu:lk g.b i=some u)(hn:u'.num=u.num){H P:List (Int×Int)}{σ:List (Int×(Nat×List Int))}{K:List (Int×Nat)}{Ol:List Nat}{m1 h1:Int}
  (ho:∀ y,y≠u.num->valI H y+e' y=valI g.w.held y+e y/\valI P y=valI g.w.pins y/\lk σ y=lk g.w.oct y)
  (hx:u'.hol=valI H u.num+e' u.num/\u'.pin=valI P u.num/\∃ t l,lk σ u.num=some (t,l)/\il l u'.oct)
  (hout:∀ y,y∉g.w.row->valI H y=0/\valI P y=0)(hnn:∀ y,0<=valI H y/\0<=valI P y)
  (hk1:∀ x j,lk K x=some j->j∈g.c.row/\aQ g.b j=x/\valI H x≠0)(hk2:∀ x,valI H x≠0->(lk K x).isSome=true)(hk3:(K.map (·.1)).Nodup)
  (hc:g.c.hits=g.w.met->h1=m1)(hol:∀ j∈Ol,∃ u,lk g.b j=some u) :
  Gd e' { g with b:=st g.b i u',w:={ g.w with held:=H,pins:=P,oct:=σ,kept:=K,old:=Ol,met:=m1 },c:={ g.c with hits:=h1 } }:=by
 have eN:aQ (st g.b i u')=aQ g.b:=funext (gN hu hn)
 exact { h with
  row:=by dsimp only;refine ac eN ?_;exact h.row
  bs:=fun j hj=>qt (h.bs j hj)
  by1:=fun j hj=>by dsimp only;refine ac eN ?_;exact h.by1 j hj
  by2:=fun x j hj=>by dsimp only;refine ac eN ?_;exact h.by2 x j hj
  hp:=fun j v hj hv=>by
   dsimp only at hv ⊢;rw [bw] at hv;by_cases z:i=j
   ·rw [if_pos z] at hv;obtain rfl:=Option.some.inj hv;refine ac hn ?_;exact hx
   ·rw [if_neg z] at hv;refine cG (h.hp j v hj hv) fun h1 h2 t l h3 h4=>?_;have hne:v.num≠u.num:=fun q=>z (h.inj hi hj (by exact ac (bX hu ..) (ac (bX hv ..) (ac q rfl))));refine aM (ho v.num hne) fun q1 q2 q3=>?_;exact⟨by refine ac h1 ?_;exact q1.symm,by refine ac h2 ?_;exact q2.symm,t,l,by refine ac q3 ?_;exact h3,h4⟩
  out:=hout
  nn:=hnn
  kp1:=fun x j hj=>by dsimp only;refine ac eN ?_;exact hk1 x j hj
  kp2:=hk2
  kpk:=hk3
  cnt:=⟨hc h.cnt.1,h.cnt.2⟩
  old:=fun j hj=>qt (hol j hj) }
theorem Gd.perm(h:Gd e g){r:List Nat}{R:List Int}(hp:r.Perm g.c.row)(hR:R=r.map (aQ g.b)):Gd e { g with w:={ g.w with row:=R },c:={ g.c with row:=r } }:=by
 subst hR;have hpm:(r.map (aQ g.b)).Perm g.w.row:=by refine ac (h.row ..) ?_;exact hp.map _
 exact { h with
  rlen:=by dsimp only;refine ac (hpm.length_eq ..) ?_;exact h.rlen
  row:=rfl
  bs:=fun j hj=>h.bs j (hp.mem_iff.mp hj)
  nd:=hpm.nodup_iff.mpr h.nd
  rng:=fun x hx=>h.rng x (hpm.mem_iff.mp hx)
  by1:=fun j hj=>h.by1 j (hp.mem_iff.mp hj)
  by2:=fun x j hj=>⟨hp.mem_iff.mpr (h.by2 x j hj).1,(h.by2 x j hj).2⟩
  hp:=fun j v hj hv=>h.hp j v (hp.mem_iff.mp hj) hv
  out:=fun x hx=>h.out x fun q=>hx (hpm.mem_iff.mpr q)
  kp1:=fun x j hj=>⟨hp.mem_iff.mpr (h.kp1 x j hj).1,(h.kp1 x j hj).2⟩ }
theorem iq{α:Type}:∀ {l:List α} {p:Nat} {x:α},l[p]?=some x->(l.eraseIdx p++[x]).Perm l:=by
 intro l_
 induction l_ with
 | nil=>
  intro p x h
  simp at h
 | cons a l ih_=>
  intro c1_ x h
  induction c1_ using Nat.casesOn with
  | zero=>
    have:a=x:=by simpa using h
    subst this;exact List.perm_append_comm (l₁:=l) (l₂:=[a])
  | succ p=>
    refine ac (List.eraseIdx_cons_succ ..) (ac (List.cons_append ..) ?_);exact(ih_ (by exact h)).cons a
theorem Gd.mv(h:Gd e g){i p:Nat}{x:Int}(hp:g.c.row[p]?=some i)(hx:aQ g.b i=x):Gd e { g with w:={ g.w with row:=g.w.row.eraseIdx p++[x] },c:={ g.c with row:=g.c.row.eraseIdx p++[i] } }:=
 h.perm (iq hp) (by refine ac (List.map_append ..) (ac (h.row ..) (ac (List.map_cons ..) (ac (List.map_nil ..) (ac hx ?_))));congr 1;exact bJ _ _ _)
theorem Gd.drop(h:Gd e0 g){r:List Nat}{R:List Int}{B:List (Int×Nat)}(hs:r.Sublist g.c.row)(hR:R=r.map (aQ g.b))(hf:∀ i∈g.c.row,i∉r->isFr g.b i=true)(hB:∀ y,lk B y=if y∈R then lk g.c.by_ y else none)(hBk:(B.map (·.1)).Nodup):Gd e0 { g with w:={ g.w with row:=R },c:={ g.c with row:=r,by_:=B } }:=by
 subst hR;have hsm:(r.map (aQ g.b)).Sublist g.w.row:=by refine ac (h.row ..) ?_;exact hs.map _
 have hz:∀ i∈g.c.row,i∉r->valI g.w.held (aQ g.b i)=0/\valI g.w.pins (aQ g.b i)=0:=fun i hi hr=>by
  have:=hf i hi hr
  rw [h.free hi] at this
  simpa [frW] using this
 exact { h with
  rlen:=by
   have:=hsm.length_le
   have:=h.rlen
   dsimp only;lia
  row:=rfl
  bs:=fun j hj=>h.bs j (hs.subset hj)
  nd:=hsm.nodup h.nd
  rng:=fun x hx=>h.rng x (hsm.subset hx)
  by1:=fun j hj=>by dsimp only at hj ⊢;exact ac (hB ..) (ac (if_pos (List.mem_map_of_mem hj) ..) (h.by1 j (hs.subset hj)))
  by2:=fun x j hj=>by
   dsimp only at hj ⊢;rw [hB] at hj;by_cases z:x∈r.map (aQ g.b)
   ·rw [if_pos z] at hj;refine aq (h.by2 x j hj) fun h1 h2=>?_;refine⟨?_,h2⟩;refine af (List.mem_map.mp z) fun j' hj' q=>?_;refine ac (h.inj h1 (hs.subset hj') (h2.trans q.symm) ..) ?_;exact hj'
   ·rw [if_neg z] at hj;exact aA hj
  byk:=hBk
  hp:=fun j v hj hv=>h.hp j v (hs.subset hj) hv
  out:=fun x hx=>by
   dsimp only at hx ⊢;by_cases z:x∈g.w.row
   ·rw [h.row] at z;refine af (List.mem_map.mp z) fun j hj z2=>?_;subst z2;exact hz j hj fun q=>hx (List.mem_map_of_mem q)
   ·exact h.out x z
  kp1:=fun x j hj=>by
   refine aM (h.kp1 x j hj) fun h1 h2 h3=>?_;refine(ao ?_ h2 h3);by_cases z:j∈r
   ·exact z
   ·exact absurd (h2▸(hz j h1 z).1) h3 }
theorem Gd.evict(h:Gd e0 g){i p:Nat}(hp:g.c.row[p]?=some i)(hf:isFr g.b i=true):Gd e0 { g with w:={ g.w with row:=g.w.row.eraseIdx p },c:={ g.c with row:=g.c.row.eraseIdx p,by_:=rm g.c.by_ (aQ g.b i) } }:=by
 refine aj (List.getElem?_eq_some_iff.mp hp) fun hl he=>?_;have hR:g.w.row.eraseIdx p=(g.c.row.eraseIdx p).map (aQ g.b):=by refine ac (h.row ..) ?_;exact bJ _ _ _
 have hme:∀ j,j∈g.c.row->j≠i->j∈g.c.row.eraseIdx p:=fun j hj hne=>by
  have:=(iq hp).mem_iff.mpr hj
  simpa [hne] using this
 have hni:i∉g.c.row.eraseIdx p:=fun q=>by
  have:=(iq hp).nodup_iff.mpr h.cnd
  rw [List.nodup_append] at this;exact this.2.2 i q i (List.mem_singleton.mpr rfl) rfl
 refine h.drop (List.eraseIdx_sublist ..) hR (fun j hj hn=>?_) (fun y=>?_) (nR _ h.byk)
 ·by_cases z:j=i
  ·refine ac z ?_;exact hf
  ·exact absurd (hme j hj z) hn
 ·by_cases z:y=aQ g.b i
  ·rw [z,eS _ h.byk,if_neg];refine ac (hR ..) ?_;intro q;refine af (List.mem_map.mp q) fun j hj q2=>?_;have:=h.inj (List.mem_of_mem_eraseIdx hj) (List.mem_of_getElem? hp) q2;exact hni (this▸hj)
  ·refine ac (ie (Ne.symm z) ..) ?_;induction q:lk g.c.by_ y with
   | none=>split <;> rfl
   | some j=>
    refine aq (h.by2 y j q) fun h1 h2=>?_;rw [if_pos];refine ac (hR ..) (bo (h2 ..) ?_);exact List.mem_map_of_mem (hme j h1 fun z2=>z (bo (h2 ..) (ac (z2 ..) rfl)))
theorem Gd.forget(h:Gd e0 g):Gd e0 { g with w:={ g.w with row:=g.w.row.filter fun x=>!frW g.w x },c:={ g.c with row:=g.c.row.filter (fun i=>!isFr g.b i),by_:=((g.c.row.filter (isFr g.b)).map (aQ g.b)).foldl rm g.c.by_ } }:=by
 have hR:(g.w.row.filter fun x=>!frW g.w x)=(g.c.row.filter (fun i=>!isFr g.b i)).map (aQ g.b):=by
  refine ac (h.row ..) (ac (List.filter_map ..) ?_)
  congr 1
  exact List.filter_congr fun i hi=>by show (!frW g.w (aQ g.b i))=_;exact ac (h.free hi ..) rfl
 refine h.drop List.filter_sublist hR (fun j hj hn=>?_) (fun y=>?_) (vj _ _ h.byk)
 ·induction q:isFr g.b j with
  | true=>rfl
  | false=>exact absurd (List.mem_filter.mpr ⟨hj,by refine ac q ?_;rfl⟩) hn
 ·by_cases z:y∈(g.c.row.filter (isFr g.b)).map (aQ g.b)
  ·rw [lm _ _ h.byk z,if_neg];refine ac (hR ..) ?_;intro q;refine af (List.mem_map.mp q) fun j hj q2=>?_;refine af (List.mem_map.mp z) fun i hi q3=>?_;have hj:=List.mem_filter.mp hj;have hi:=List.mem_filter.mp hi;have:=h.inj hj.1 hi.1 (q2.trans q3.symm);rw [this,hi.2] at hj;exact absurd hj.2 (by decide)
  ·refine ac (mI _ _ z ..) ?_;induction q:lk g.c.by_ y with
   | none=>split <;> rfl
   | some j=>
    refine aq (h.by2 y j q) fun h1 h2=>?_;rw [if_pos];refine ac (hR ..) (bo (h2 ..) ?_);refine List.mem_map_of_mem (List.mem_filter.mpr ⟨h1,?_⟩);induction q2:isFr g.b j with
    | false=>rfl
    | true=>exact absurd (h2▸List.mem_map_of_mem (List.mem_filter.mpr ⟨h1,q2⟩)) z
theorem Gd.add(h:Gd e0 g){x:Int}{i d a a' t:Nat}{l:List Int}(hx:x∉g.w.row)(h0:0<=x/\x<g.k.blocks)(hlen:(g.w.row.length:Int)<g.w.most)(hi:lk g.b i=none)(hd:g.w.ds[x.toNat]?=some (a',l)) :
  Gd (e1 x) { g with w:={ g.w with row:=g.w.row++[x],seen:=g.w.seen+1,oct:=st g.w.oct x (t,l) },c:={ g.c with reads:=g.c.reads+1,row:=g.c.row++[i],by_:=st g.c.by_ x i },b:=g.b++[(i,⟨d,a,x,(lk g.k.lat x).getD [0,0,0,0],1,0⟩)] }:=by
 have hne:∀ j,(∃ u,lk g.b j=some u)->i≠j:=fun j z0_ q=>aj z0_ fun u hu=>by rw [<- q,hi] at hu;exact aA hu
 have eN:∀ j,(∃ u,lk g.b j=some u)->aQ (g.b++[(i,⟨d,a,x,(lk g.k.lat x).getD [0,0,0,0],1,0⟩)]) j=aQ g.b j:=fun j hj=>q5 (hne j hj)
 have li:lk (g.b++[(i,(⟨d,a,x,(lk g.k.lat x).getD [0,0,0,0],1,0⟩:Bu))]) i=some ⟨d,a,x,(lk g.k.lat x).getD [0,0,0,0],1,0⟩:=(jc _ _ _ hi).1
 have eNi:aQ (g.b++[(i,⟨d,a,x,(lk g.k.lat x).getD [0,0,0,0],1,0⟩)]) i=x:=bX li
 have ex:∀ j,(∃ u,lk g.b j=some u)->∃ u,lk (g.b++[(i,(⟨d,a,x,(lk g.k.lat x).getD [0,0,0,0],1,0⟩:Bu))]) j=some u:=fun j hj=>by refine ac (dH (hne j hj) ..) ?_;exact hj
 have hmem:∀ j,j∈g.c.row++[i]->j∈g.c.row∨j=i:=fun j hj=>by simpa using hj
 exact { h with
  rlen:=by dsimp only;refine ac (List.length_append ..) (ac (List.length_singleton ..) ?_);lia
  row:=by
   dsimp only;refine ac (List.map_append ..) (ac (List.map_cons ..) (ac (List.map_nil ..) (ac (eNi ..) (ac (h.row ..) ?_))))
   congr 1
   exact List.map_congr_left fun j hj=>(eN j (h.bs j hj)).symm
  bs:=fun j hj=>by
   rcases hmem j hj with hj | rfl
   ·exact ex j (h.bs j hj)
   ·exact⟨_,li⟩
  nd:=by
   rw [List.nodup_append];exact(ao h.nd (by simp) (fun y hy z hz=>by exact ac (List.mem_singleton.mp hz ..) (fun q=>hx (q▸hy))))
  rng:=fun y hy=>by
   rcases List.mem_append.mp hy with hy | hy
   ·exact h.rng y hy
   ·refine ac (List.mem_singleton.mp hy ..) ?_;exact h0
  by1:=fun j hj=>by
   dsimp only;refine ac (bw ..) ?_;rcases hmem j hj with hj | rfl
   ·exact ac (eN j (h.bs j hj) ..) (ac (if_neg (fun q=>hx (by refine ac q ?_;exact h.num hj)) ..) (h.by1 j hj))
   ·exact ac eNi (ac (if_pos rfl ..) rfl)
  by2:=fun y j hj=>by
   dsimp only at hj ⊢;rw [bw] at hj;by_cases z:x=y
   ·rw [if_pos z] at hj;obtain rfl:=Option.some.inj hj;exact⟨by simp,eNi.trans z⟩
   ·rw [if_neg z] at hj;refine aq (h.by2 y j hj) fun h1 h2=>?_;exact⟨by simp [h1],by refine ac (eN j (h.bs j h1) ..) ?_;exact h2⟩
  byk:=ut _ h.byk
  hp:=fun j v hj hv=>by
   dsimp only at hv ⊢;rcases hmem j hj with hj | rfl
   ·rw [dH (hne j (h.bs j hj))] at hv;refine cG (h.hp j v hj hv) fun h1 h2 t' l' h3 h4=>?_;have hxn:x≠v.num:=fun q=>hx (by refine ac q (bo (bX hv ..) ?_);exact h.num hj);refine⟨by refine ac h1 ?_;simp [e0,e1,hxn.symm],h2,t',l',by rw [bw,if_neg hxn];exact h3,h4⟩
   ·rw [li] at hv;obtain rfl:=Option.some.inj hv;dsimp only;have h3:=h.dso _ _ _ hd;rw [Int.toNat_of_nonneg h0.1] at h3;exact⟨by refine ac ((h.out x hx).1 ..) ?_;simp [e1],(h.out x hx).2.symm,t,l,by rw [bw,if_pos rfl],h3⟩
  out:=fun y hy=>h.out y fun q=>hy (List.mem_append_left _ q)
  kp1:=fun y j hj=>by
   refine aM (h.kp1 y j hj) fun h1 h2 h3=>?_;exact(ao (List.mem_append_left _ h1) (by refine ac (eN j (h.bs j h1) ..) ?_;exact h2) h3)
  cnt:=(ao h.cnt.1 (by dsimp only;exact ac (h.cnt.2.1 ..) rfl) h.cnt.2.2)
  old:=fun j hj=>ex j (h.old j hj) }
theorem Gd.hold(h:Gd e g){x:Int}{i:Nat}(he:∀ y,e y=e1 x y)(hi:lk g.c.by_ x=some i):Gd e0 { g with w:={ g.w with held:=st g.w.held x (valI g.w.held x+1),kept:=st g.w.kept x i } }:=by
 refine aq (h.by2 x i hi) fun h1 h2=>?_;have hxr:x∈g.w.row:=h2▸h.num h1;have n0:=(h.nn x).1;exact { h with
  hp:=fun j v hj hv=>by
   refine aM (h.hp j v hj hv) fun q1 q2 q3=>?_;refine(ao ?_ q2 q3);dsimp only;refine ac (q1 ..) (ac (he ..) (ac (bj ..) ?_));by_cases z:x=v.num
   ·refine ac (if_pos z) (bo z ?_);simp [e0,e1]
   ·rw [if_neg z];simp [e0,e1,Ne.symm z]
  out:=fun y hy=>by
   dsimp only at hy ⊢;exact ac (bj ..) (ac (if_neg (fun q:x=y=>hy (q▸hxr)) ..) (h.out y hy))
  nn:=fun y=>by
   refine ac (bj ..) ?_;refine⟨?_,(h.nn y).2⟩;split
   ·lia
   ·exact(h.nn y).1
  kp1:=fun y j hj=>by
   dsimp only at hj ⊢;rw [bw] at hj;refine ac (bj ..) ?_;by_cases z:x=y
   ·rw [if_pos z] at hj ⊢;obtain rfl:=Option.some.inj hj;exact(ao h1 (h2.trans z) (by lia))
   ·rw [if_neg z] at hj ⊢;exact h.kp1 y j hj
  kp2:=fun y hy=>by
   rw [bj] at hy;refine ac (bw ..) ?_;by_cases z:x=y
   ·refine ac (if_pos z) ?_;rfl
   ·rw [if_neg z] at hy ⊢;exact h.kp2 y hy
  kpk:=ut _ h.kpk }
theorem Gd.wrt(h:Gd e g){x:Int}{t:Nat}{l:List Int}{o:List UInt8}{un:List AV}{wr:Int}(h0:0<=x/\x<g.k.blocks)(ho:il l o):Gd e { g with k:={ g.k with writes:=wr,lat:=st g.k.lat x o,unf:=un },w:={ g.w with ds:=g.w.ds.set x.toNat (t,l),written:=g.w.written+1 },c:={ g.c with writes:=g.c.writes+1 } }:=
 { h with
  cnt:=(ao h.cnt.1 h.cnt.2.1 (by dsimp only;exact ac (h.cnt.2.2 ..) rfl))
  dsl:=by dsimp only;refine ac List.length_set ?_;exact h.dsl
  dso:=fun j t' l' hj=>by
   refine ac (bw ..) ?_;rw [List.getElem?_set] at hj;have hxl:=h.dsl;by_cases z:x.toNat=j
   ·rw [if_pos z,if_pos (by lia)] at hj
    cases hj
    refine ac (if_pos (by lia)) ?_;exact ho
   ·rw [if_neg z] at hj;refine ac (if_neg (by lia)) ?_;exact h.dso j t' l' hj }
end
theorem qv{α:Type}{f:α->Bool}:∀ {l:List α},(∃ y∈l,f y=true)->∃ (p:Nat) (y:α),l[p]?=some y/\f y=true/\∀ q z,q<p->l[q]?=some z->f z=false:=by
 intro l_
 induction l_ with
 | nil=>
  intro h
  refine af h fun U h U=>?_;cases h
 | cons a l ih_=>
  intro h
  induction e:f a with
  | true=>exact(ax 0 a rfl e (fun q z hq=>absurd hq (Nat.not_lt_zero _)))
  | false=>
   refine af h fun y hy hf=>?_;clear h;rcases List.mem_cons.mp hy with rfl | hy
   ·rw [e] at hf;exact gw hf
   ·refine ai (ih_ (ag y hy hf)) fun p y h1 h2 h3=>?_;refine(ax (p+1) y (by exact h1) h2 (fun q z hq hz=>?_));induction q using Nat.casesOn with
    | zero=>exact(show a=z by simpa using hz)▸e
    | succ q=>exact h3 q z (by lia) (by simpa using hz)
structure Fr(g g2:G):Prop where
 same:Same g g2
 held:g2.w.held=g.w.held
 pins:g2.w.pins=g.w.pins
 kept:g2.w.kept=g.w.kept
 k:g2.k=g.k
 p:g2.p=g.p
 ds:g2.w.ds=g.w.ds
 sz:∀ n,Sz n g->Sz (n+1) g2
def wn(g:G)(x:Int):Prop:=x∉g.w.row/\(g.w.row.length:Int)=g.w.most/\∀ j∈g.c.row,isFr g.b j=false
def Gm(g:G)(x:Int)(g1:G):Prop:=
 (x∈g.w.row/\g1={ g with w:={ g.w with met:=g.w.met+1 } }) ∨
 (x∉g.w.row/\∃ (r1:List Int) (cr1:List Nat) (cb1:List (Int×Nat)) (a t:Nat) (l:List Int),g.w.ds[x.toNat]?=some (a,l)/\Gd e0 { g with w:={ g.w with row:=r1 },c:={ g.c with row:=cr1,by_:=cb1 } }/\(r1.length:Int)<g.w.most/\x∉r1/\cb1.length<=g.c.by_.length/\g1={ g with w:={ g.w with row:=r1++[x],seen:=g.w.seen+1,oct:=st g.w.oct x (t,l) } }/\
  ∀ (k:Nat) (L:Tm) (Q:AV->G->Tm->Vs->Prop) (E:Nat->G->Tm->Prop) (m:Vs),Q .none { g1 with c:={ g1.c with row:=cr1,by_:=cb1 } } L m->wp (lvl aG (k+4) (.base 235) [.obj g1.c.i]) Q E g1 L m)
section
variable {E:Nat->G->Tm->Prop}{g g1:G}{L:Tm}{m:Vs}{Q:AV->G->Tm->Vs->Prop}{k n:Nat}{x:Int}
theorem Gd.clen{e:Int->Int}(h:Gd e g):g.c.row.length=g.w.row.length:=by exact ac (h.row ..) (ac (List.length_map ..) rfl)
theorem Gd.r90{e:Int->Int}(h:Gd e g):g.w.row.length<=4:=by have:=h.rlen;have:=h.most;lia
theorem Gd.dsx{e:Int->Int}(h:Gd e g)(hx:0<=x/\x<g.k.blocks):∃ (a:Nat) (l:List Int),g.w.ds[x.toNat]?=some (a,l)/\l.length=4/\g.w.ds.length<=9:=by
 have h1:=h.dsl
 have h2:=h.bl
 have hlt:x.toNat<g.w.ds.length:=by lia
 exact(ax (g.w.ds[x.toNat].1) (g.w.ds[x.toNat].2) (List.getElem?_eq_getElem hlt) ((h.dso _ _ _ (List.getElem?_eq_getElem hlt)).1) (by lia))
theorem uh(h:Gd e0 g)(hx:0<=x/\x<g.k.blocks)(hs:Sz n g)(hn:n<800)(h1:∀ g1,Gm g x g1->Q (.bool true) g1 L m)(h2:wn g x->Q (.bool false) g L m):wp (lvl aG (k+3) (.base 439) [.obj g.w.i,.int x]) Q E g L m:=by
 have r4:=h.r90
 have hcl:=h.clen
 have hmost:=h.most
 have ho:g.w.oct.length<900:=by have:=hs.oct;lia
 by_cases hxr:x∈g.w.row
 ·exact oM h.live hxr (h1 _ (.inl ⟨hxr,rfl⟩))
 ·refine ai (h.dsx hx) fun a l hd hl4 hd9=>?_;by_cases hm:(g.w.row.length:Int)=g.w.most
  ·by_cases hf:∃ y∈g.w.row,frW g.w y=true
   ·refine ai (qv hf) fun p y hp hfr hq=>?_;refine kU h.live hxr hm (by lia) hp hfr hq hx.1 hd (by lia) (by lia) ho fun t=>h1 _ (.inr ⟨hxr,?_⟩);have hp':=hp;rw [h.row,List.getElem?_map] at hp';refine af (Option.map_eq_some_iff.mp hp') fun i hi hiy=>?_;have hir:=List.mem_of_getElem? hi;have hif:isFr g.b i=true:=by refine ac (h.free hir ..) (ac hiy ?_);exact hfr
    have hpl:=(List.getElem?_eq_some_iff.mp hp).1
    refine⟨g.w.row.eraseIdx p,g.c.row.eraseIdx p,rm g.c.by_ (aQ g.b i),a,t,l,hd,h.evict hi hif,?_,fun q=>hxr (List.mem_of_mem_eraseIdx q),len_rm _,rfl,fun k L Q E m hQ=>?_⟩
    ·refine ac (List.length_eraseIdx_of_lt hpl ..) ?_;lia
    ·refine sJ (k:=k+1) (p:=p) h.live (by dsimp only;lia) (by dsimp only;lia) h.bs hi hif (fun q j hqp hj=>?_) (by refine ac (h.by1 i hir ..) ?_;rfl) (by dsimp only;have:=hs.by_;lia) hQ
     ·have hj':g.w.row[q]?=some (aQ g.b j):=by refine ac (h.row ..) (ac (List.getElem?_map ..) ?_);dsimp only at hj;refine ac hj ?_;rfl
      have:=hq q _ hqp hj'
      rw [<- h.free (List.mem_of_getElem? hj)] at this;exact this
   ·refine mq h.live hxr hm (by lia) (fun y hy=>?_) (h2 (ao hxr hm (fun j hj=>?_)))
    ·induction q:frW g.w y with
     | false=>rfl
     | true=>exact absurd (ag y hy q) hf
    ·induction q:isFr g.b j with
     | false=>rfl
     | true=>exact absurd (ag (aQ g.b j) (h.num hj) (by refine bo (h.free hj ..) ?_;exact q)) hf
  ·refine oN h.live hxr hm (by lia) hx.1 hd (by lia) (by lia) ho fun t=>h1 _ (.inr ⟨hxr,?_⟩);have hlt:(g.w.row.length:Int)<g.w.most:=by have:=h.rlen;lia
   refine⟨g.w.row,g.c.row,g.c.by_,a,t,l,hd,h,hlt,hxr,Nat.le_refl _,rfl,fun k L Q E m hQ=>?_⟩;exact uT (k:=k+1) h.live (by dsimp only;lia) (by dsimp only;lia) hQ
structure Mid(g:G)(x:Int)(g2:G)(i:Nat)(u:Bu)(p:Nat):Prop where
 gd:Gd (e1 x) g2
 by_:lk g2.c.by_ x=some i
 bu:lk g2.b i=some u
 num:u.num=x
 mem:i∈g2.c.row
 cp:g2.c.row[p]?=some i
 wp_:g2.w.row[p]?=some x
 hol:u.hol=valI g.w.held x+1
 fr:Fr g g2
theorem Mid.of{g2:G}(h:Gd (e1 x) g2)(hx:x∈g2.w.row)(hf:Fr g g2):∃ (i:Nat) (u:Bu) (p:Nat),Mid g x g2 i u p:=by
 refine b6 (h.buf hx) fun i u p h1 h2 h3 h4 h5 h6=>?_;refine aq (h.hp i u h4 h2) fun q1 U=>?_;exact⟨i,u,p,h,h1,h2,h3,h4,h5,h6,by refine ac q1 (ac h3 (ac (hf.held ..) ?_));simp [e1],hf⟩
theorem pD(h:Gd e0 g)(hx:0<=x/\x<g.k.blocks)(hs:Sz n g)(hn:n<700)(hg:Gm g x g1)(hQ:∀ g2 i u p,Mid g x g2 i u p->Q (.obj i) g2 L m):wp (lvl aG (k+5) (.base 228) [.obj g.c.i,.int x]) Q E g1 L m:=by
 rcases hg with ⟨hxr,rfl⟩ | ⟨hxr,r1,cr1,cb1,a,t,l,hd,hgd,hlt,hx1,hbl,rfl,hmr⟩
 ·refine b6 (h.buf hxr) fun i u p h1 h2 h3 h4 h5 h6=>?_;refine aM (h.hp i u h4 h2) fun q1 q2 q3=>?_;refine oL (k:=k+1) (by exact h.live) (by exact hx) (by exact h1) (by exact h2) (hQ _ i { u with hol:=u.hol+1 } p ?_);have hgd:Gd (e1 x) { g with b:=st g.b i { u with hol:=u.hol+1 },w:={ g.w with held:=g.w.held,pins:=g.w.pins,oct:=g.w.oct,kept:=g.w.kept,old:=g.w.old,met:=g.w.met+1 },c:={ g.c with hits:=g.c.hits+1 } }:=
   h.upB (u':={ u with hol:=u.hol+1 }) (H:=g.w.held) (P:=g.w.pins) (σ:=g.w.oct) (K:=g.w.kept) (Ol:=g.w.old) (m1:=g.w.met+1) (h1:=g.c.hits+1) h4 h2 rfl (fun y hy=>(ao (by rw [h3] at hy;simp [e0,e1,hy]) rfl rfl)) (ao (by dsimp only;refine ac q1 (ac h3 ?_);simp [e0,e1]) q2 q3) h.out h.nn h.kp1 h.kp2 h.kpk (fun q=>by exact ac q rfl) h.old
  exact⟨hgd,h1,by dsimp only;exact bP,h3,h4,h5,h6,by dsimp only;refine ac q1 (ac h3 ?_);simp [e0],⟨⟨rfl,rfl,rfl,rfl,rfl⟩,rfl,rfl,rfl,rfl,rfl,rfl,fun n hs=>⟨by have:=hs.held;dsimp only;lia,by have:=hs.pins;dsimp only;lia,by have:=hs.kept;dsimp only;lia,by have:=hs.old;dsimp only;lia,by have:=hs.by_;dsimp only;lia,by have:=hs.lat;dsimp only;lia,by have:=hs.unf;dsimp only;lia,by have:=hs.oct;dsimp only;lia⟩⟩⟩
 ·have hcl:=hgd.clen
  have hm:=h.most
  have hby:=hs.by_
  dsimp only at hcl;have hlat:((lk g.k.lat x).getD [0,0,0,0]).length<=1000:=by
   have:=(h.dso _ _ _ hd).2.2
   rw [Int.toNat_of_nonneg hx.1] at this;refine ac this (ac (List.length_map ..) ?_);have:=(h.dso _ _ _ hd).1;lia
  refine mn (r1:=cr1) (b1:=cb1) (by exact h.live) (by exact hx) (by exact h.notby hxr) (hmr k L) (by lia) (by lia) (by exact hlat) fun i d a2 hi=>?_;have:=hgd.add (i:=i) (d:=d) (a:=a2) (t:=t) hx1 hx hlt hi hd;refine fY (Mid.of (g:=g) this (by simp) ⟨⟨rfl,rfl,rfl,rfl,rfl⟩,rfl,rfl,rfl,rfl,rfl,rfl,fun n hs=>⟨by have:=hs.held;dsimp only;lia,by have:=hs.pins;dsimp only;lia,by have:=hs.kept;dsimp only;lia,by have:=hs.old;dsimp only;lia,by have:=hs.by_;have:=dG (x:=x) (v:=i) cb1;dsimp only;lia,by have:=hs.lat;dsimp only;lia,by have:=hs.unf;dsimp only;lia,by have:=hs.oct;have:=dG (x:=x) (v:=(t,l)) g.w.oct;dsimp only;lia⟩⟩) fun i' u p hM=>?_;have e:i'=i:=by
   have:=hM.by_
   rw [bw,if_pos rfl] at this;obtain rfl:=Option.some.inj this;rfl
  subst e;exact hQ _ i' u p hM
theorem lY(h:Gd e0 g)(hx:0<=x/\x<g.k.blocks)(hf:wn g x)(hE:E 76 g L):wp (lvl aG (k+5) (.base 228) [.obj g.c.i,.int x]) Q E g L m:=by
 have:=h.r90
 have:=h.clen
 have:=h.most
 have:=hf.2.1
 exact ml (k:=k+1) h.live hx (h.notby hf.1) (by lia) (by lia) h.bs hf.2.2 hE
end
section
variable {E:Nat->G->Tm->Prop}{g g1:G}{L:Tm}{m:Vs}{Q:AV->G->Tm->Vs->Prop}{k n:Nat}{x:Int}{QB:Bool->G->Tm->Vs->Prop}
theorem bH{i j:Nat}{a b:List AV}{r:Bool}(h1:Lk g L i (.tu a))(h2:Lk g L j (.tu b))(e:∀ s,Hs s g L->eqs s a b=some r)(h:QB r g L m):wp (dc .Eq (.obj i) (.obj j)) QB E g L m:=
 dp (fun s hs=>by dsimp only [eO,eqv,liAt,tuAt];refine ac (bz hs h1 ..) (ac (bz hs h2 ..) ?_);exact e s hs) h
theorem sV{i j:Nat}{a b:List AV}{r:Bool}(h1:Lk g L i (.tu a))(h2:Lk g L j (.tu b))(e:∀ s,Hs s g L->eqs s a b=some r)(h:QB (!r) g L m):wp (dc .NotEq (.obj i) (.obj j)) QB E g L m:=
 dp (fun s hs=>by dsimp only [eO,eqv,liAt,tuAt];refine ac (bz hs h1 ..) (ac (bz hs h2 ..) ?_);dsimp only;refine ac (e s hs ..) ?_;rfl) h
theorem qr(s:St):∀ (l:List Int),eqs s (l.map .int) (l.map .int)=some true:=by
 intro l_
 induction l_ with
 | nil=>
  exact rfl
 | cons a l ih_=>
  show la (some (decide (a=a))) (eqs s (l.map AV.int) (l.map .int))=_;refine ac (decide_eq_true rfl ..) ?_;exact ih_
theorem ny{i j:Nat}{a:List Int}(h1:Lk g L i (.li (a.map .int)))(h2:Lk g L j (.li (a.map .int)))(h:QB false g L m):wp (dc .NotEq (.obj i) (.obj j)) QB E g L m:=
 dp (fun s hs=>by dsimp only [eO,eqv,liAt,tuAt];refine ac (bz hs h1 ..) (ac (bz hs h2 ..) ?_);dsimp only;rw [if_pos rfl,qr];rfl) h
theorem sR{i d:Nat}(h1:Lk g L i (.inst 189 d))(h:QB false g L m):wp (dc .NotEq (.obj i) (.obj i)) QB E g L m:=
 dp (fun s hs=>by
  have e:=hat hs h1
  have ea:s.at (.obj i)=some (.inst 189 d):=e
  dsimp only [eO,eqv,liAt,tuAt];refine ac ea ?_;dsimp only [eq1,eqI];refine ac e ?_;simp) h
theorem sT{i:Nat}{l:List (Int×AV)}(h1:Lk g L i (.idd l))(h:QB (lk l x).isSome g L m):wp (dc .In (.int x) (.obj i)) QB E g L m:=
 dp (fun s hs=>by dsimp only [eO,inv];exact ac (bz hs h1 ..) rfl) h
theorem Gm.live(h:Gm g x g1):g1.live=g.live:=by rcases h with ⟨_,rfl⟩ | ⟨_,_,_,_,_,_,_,_,_,_,_,_,rfl,_⟩ <;> rfl
theorem Gm.c(h:Gm g x g1):g1.c=g.c:=by rcases h with ⟨_,rfl⟩ | ⟨_,_,_,_,_,_,_,_,_,_,_,_,rfl,_⟩ <;> rfl
theorem Gd.unfz{e:Int->Int}(h:Gd e g):Gd e { g with w:={ g.w with kfz:=false } }:={ h with kfz:=rfl }
theorem Sz.mono{n n':Nat}(h:Sz n g)(hn:n<=n'):Sz n' g:=⟨Nat.le_trans h.1 hn,Nat.le_trans h.2 hn,Nat.le_trans h.3 hn,Nat.le_trans h.4 hn,Nat.le_trans h.5 hn,Nat.le_trans h.6 hn,Nat.le_trans h.7 hn,Nat.le_trans h.8 hn⟩
theorem ik:∀ {l:List Int},(∀ v∈l,0<=v/\v<256)->d6 (l.map .int)=some (l.map fun v=>v.toNat.toUInt8):=by
 intro l_
 induction l_ with
 | nil=>
  intro c1_
  exact rfl
 | cons a l ih_=>
  intro h
  show jC _ (cz (.int a)) (d6 (l.map AV.int))=_;refine ac (ih_ fun v hv=>h v (List.mem_cons_of_mem _ hv) ..) ?_;unfold cz;dsimp only;refine ac (if_pos (h a (List.mem_cons_self ..)) ..) ?_;rfl
theorem dJ{l:List Int}{o:List UInt8}(h:il l o):d6 (l.map .int)=some o:=by
 refine ac (h.2.2 ..) ?_;exact ik h.2.1
theorem il.len{l:List Int}{o:List UInt8}(h:il l o):o.length=4:=by refine ac (h.2.2 ..) (ac (List.length_map ..) ?_);exact h.1
theorem zH{b:Bool}{A B K:Sy->Out}(h:Go g L m K)(hA:Go g L m K->b=true->Go g L m A)(hB:Go g L m K->b=false->Go g L m B):(b=true->Go g L m A)/\(b=false->Go g L m B):=⟨hA h,hB h⟩
theorem uz(h:Gd e0 g)(hs:Sz n g)(hn:n<600)(hx:0<=x/\x<g.k.blocks)(hQ:∀ g',Gd e0 g'->Sz (n+1) g'->Same g g'->g'.p=g.p->Q (.bool true) g' L m):wp (lvl aG (k+9) (.base 453) [.obj g.p.i,.obj g.c.i,.obj g.w.i,.int x]) Q E g L m:=by
 have hl:=h.live
 refine eK yl rfl (cp_cons fun j1=>cp_cons fun j2=>c_ ?_);refine gx 1056833 .nil cR (wc ?_);refine uh h hx hs (by lia) (fun g1 hg=>?_) (fun hf=>?_)
 ·have hl1:g1.live=true:=hg.live.trans hl
  refine g0 ak fun t1=>?_;refine g0 ak (wc ?_);refine bv Lk.t0 fun U=>?_;refine bo (hg.c ..) ?_;refine gx 136545986 (fw hl1) ec (wg rfl ?_);refine ac (hg.c ..) ?_;refine pD h hx hs (by lia) hg fun g2 i u p hM=>?_;refine g0 ak (fi 0 rfl ?_);intro t2;have hl2:=hM.gd.live;have kf2:=hM.gd.kfz;have hb2:=hM.bu;refine cG (hM.gd.hp i u hM.mem hM.bu) fun q1 q2 t0 l0 q3 q4=>?_;rw [hM.num] at q3;have hu4:=q4.len;have hs2:=hM.fr.sz n hs;refine bo (hM.fr.same.w ..) (bo (hM.fr.same.c ..) ?_);refine gx 138510594 (fw hl2) ec (wk ?_);refine g8 (Lk.wh hl2) ?_;refine gx 1081601 (fw hl2) aX (wk ?_);refine ca (Lk.wh hl2) (by rw [bh];have:=hs2.held;lia) (Up.wh hl2 (st g2.w.held x (valI g2.w.held x+1)) (df _ _ _ _)) ?_;refine g0 ak (wk ?_);refine fy Lk.t0 (by simp) rfl ?_;refine gx 41218 (fw hl2) cR (wk ?_);refine sT (Lk.wk (by exact hl2) (by exact kf2)) ?_;have hkx:∀ i',lk g2.w.kept x=some i'->i'=i:=fun i' hi'=>by
   refine aM (hM.gd.kp1 x i' hi') fun r1 r2 U=>?_;have:=hM.gd.by1 i' r1;rw [r2,hM.by_] at this;exact(Option.some.inj this).symm
  refine g0 ak (an ?_);refine' zH ?c ?a ?b
  case b=>exact fun tail hc=>gx 2 .nil bT (an ⟨(fun h=>gw h),fun U=>tail⟩)
  case a=>
   intro tail hc
   have hk:lk g2.w.kept x=some i:=by
    rw [bp] at hc;induction q:lk g2.w.kept x with
    | none=>dsimp only at hc;rw [q] at hc;exact gw hc
    | some i'=>exact ac (hkx i' q ..) rfl
   refine gx 8450 (fw hl2) aX (wk ?_);refine cy (v:=.obj i) (Lk.wk (by exact hl2) (by exact kf2)) (by rw [bp];dsimp only;rw [hk];rfl) ?_;refine g0 ak (wk ?_);refine fy Lk.t0 (by simp) rfl ?_;refine g0 ak (wk ?_);refine sR (Lk.bI (by exact hl2) (by exact hb2)) ?_;exact gx 258 .nil aX (an ⟨(fun h=>gw h),fun U=>tail⟩)
  case c=>
   refine g0 ak (wk ?_);refine fy Lk.t0 (by simp) rfl ?_;refine gx 8450 (fw hl2) aX (wk ?_);refine ca (Lk.wk (by exact hl2) (by exact kf2)) (by rw [bh];have:=hs2.kept;dsimp only;lia) (Up.wk (by exact hl2) (st g2.w.kept x i) (df _ _ _ _)) ?_;refine g0 ak (wk ?_);refine fy Lk.t0 (by simp) rfl ?_;refine gx 257 (fb hl2 hb2) aX (wc ?_);refine dU (by exact hl2) (by exact hb2) (by lia) ?_;refine gx 8450 (fw hl2) aX (wk ?_);refine cy (v:=.obj t0) (Lk.wo (by exact hl2)) (by rw [bp];dsimp only;rw [q3];rfl) ?_;refine g0 ak (wc ?_);refine bG (Lk.oc (by exact hl2) (by exact q3)) (by refine ac (List.length_map ..) (ac (q4.1 ..) ?_);decide) (dJ q4) ?_;refine g0 ak (an ?_);refine⟨fun U=>?_,fun hc=>absurd rfl (of_decide_eq_false hc)⟩;refine g0 ak (wk ?_);refine fy Lk.t0 (by simp) rfl ?_;refine gx 1081601 (fb hl2 hb2) cR (fi 4 rfl ?_);refine ac (hM.num ..) ?_;refine ac (decide_eq_true rfl ..) ?_;refine hQ _ (hM.gd.hold (fun U=>rfl) hM.by_).unfz ⟨?_,hs2.pins,?_,hs2.old,hs2.by_,hs2.lat,hs2.unf,hs2.oct⟩ { hM.fr.same with } hM.fr.p
   ·have:=dG (x:=x) (v:=valI g2.w.held x+1) g2.w.held
    rw [hM.fr.held] at this;have:=hs.held;dsimp only;rw [hM.fr.held] at *;lia
   ·have:=dG (x:=x) (v:=i) g2.w.kept
    rw [hM.fr.kept] at this;have:=hs.kept;dsimp only;rw [hM.fr.kept] at *;lia
 ·refine g0 ak fun t1=>?_;refine g0 ak (wc ?_);refine bv Lk.t0 fun U=>?_;refine gx 136545986 (fw hl) ec (wg rfl ?_);refine lY h hx hf ⟨.refl,.inl ⟨rfl,fun t2=>?_⟩⟩;refine gx 1 .nil bT fun t3=>?_;refine g0 ak (wk ?_);refine bH (r:=true) (Lk.ts Lk.t0) Lk.t0 (fun s U=>rfl) ?_;refine g0 ak (fi 5 rfl ?_);exact hQ g h (hs.mono (by lia)) .refl rfl
end
theorem du{α β:Type}[DecidableEq α]{x:α}{v w:β}:∀ {l:List (α×β)},lk l x=some w->(st l x v).length=l.length:=by
 intro l_
 induction l_ with
 | nil=>
  intro h
  exact aA h
 | cons p_ l ih_=>
  intro h
  obtain ⟨c,d⟩:=p_
  simp only [br,aP] at h;simp only [b8,bE];by_cases z:c=x
  ·refine ac (if_pos z ..) ?_;rfl
  ·rw [if_neg z] at h ⊢;simp only [List.length_cons];exact ac (ih_ h ..) rfl
section
variable {E:Nat->G->Tm->Prop}{g g1:G}{L:Tm}{m:Vs}{Q:AV->G->Tm->Vs->Prop}{k n:Nat}{x:Int}{QB:Bool->G->Tm->Vs->Prop}
theorem qi{j:Nat}{l:List Int}(h1:Lk g L j (.tu (l.map .int)))(h:QB (decide (x∈l)) g L m):wp (dc .In (.int x) (.obj j)) QB E g L m:=
 dp (fun s hs=>by dsimp only [eO,inv];refine ac (bz hs h1 ..) ?_;exact jg s x l) h
def Tk(c:Int)(g g':G):Prop:=∃ P:GP,P.i=g.p.i/\0<=P.k/\P.k<=g.p.k+c/\g'={ g with p:=P }
theorem Tk.refl(h:0<=g.p.k):Tk 0 g g:=(bR g.p rfl h (by lia) rfl)
theorem Tk.trans{c d:Int}{g2:G}(h1:Tk c g g1)(h2:Tk d g1 g2):Tk (c+d) g g2:=by
 refine aS h1 fun P a1 a2 a3 z4=>?_;clear h1;subst z4;refine aS h2 fun P' b1 b2 b3 z4=>?_;clear h2;subst z4;exact(bR P' (b1.trans a1) b2 (by dsimp only at b3;lia) rfl)
theorem Tk.gd{c:Int}{e:Int->Int}(h:Tk c g g1)(hg:Gd e g):Gd e g1:=by refine aS h fun P U U U z4=>?_;clear h;subst z4;exact hg.pool P
theorem Tk.sz{c:Int}(h:Tk c g g1)(hg:Sz n g):Sz n g1:=by refine aS h fun P U U U z4=>?_;clear h;subst z4;exact { hg with }
theorem Tk.same{c:Int}(h:Tk c g g1):Same g g1:=by refine aS h fun P h1 U U z4=>?_;clear h;subst z4;exact⟨h1,rfl,rfl,rfl,rfl⟩
theorem Tk.bd{c:Int}(h:Tk c g g1):0<=g1.p.k/\g1.p.k<=g.p.k+c:=by refine aS h fun P U h2 h3 z4=>?_;clear h;subst z4;exact⟨h2,h3⟩
theorem Tk.w{c:Int}(h:Tk c g g1):g1.w=g.w:=by refine aS h fun P U U U z4=>?_;clear h;subst z4;rfl
noncomputable def G.tk(g:G)(w k:Int):G:={ g with p:=⟨g.p.i,w,k⟩ }
theorem gF{d:Int}{i:Nat}(hl:g.live=true)(hi:g.p.i=i)(hd:0<d/\d<1000000)(hk:0<=g.p.k/\g.p.k<900000)(hQ:∀ v w' k',Tk 1 g (g.tk w' k')->0<=v->v<d->Q (.int v) (g.tk w' k') L m):wp (lvl aG (k+2) (.base 420) [.obj i,.int d]) Q E g L m:=by
 subst hi;exact sL hl hd ⟨hk.1,by lia⟩ fun v w' k' h1 h2 h3 h4=>hQ v w' k' (bR ({ g.p with w:=w',k:=k' }) rfl h3 h4 rfl) h1 h2
theorem c0{d:Int}{i:Nat}(hl:g.live=true)(hi:g.p.i=i)(hd:0<d/\d<1000000)(hk:0<=g.p.k/\g.p.k<900000)(hQ:∀ v g',Tk 1 g g'->0<=v->v<d->Q (.int v) g' L m):wp (lvl aG (k+2) (.base 420) [.obj i,.int d]) Q E g L m:=gF hl hi hd hk fun v U U h=>hQ v _ h
structure Pend(g:G)(x:Int)(g3:G)(p:Nat):Prop where
 live:g3.live=true
 kfz:g3.w.kfz=false
 at_:g3.w.row[p]?=some x
 fst:∀ q<p,g3.w.row[q]?≠some x
 len:g3.w.row.length<=4
 same:Same g g3
 held:g3.w.held=g.w.held
 pp:g3.p=g.p
 sz:Sz (n+1) g3
theorem uG(h:Gd e0 g)(hx:0<=x/\x<g.k.blocks)(hs:Sz n g)(hn:n<600)(hg:Gm g x g1)
  (hQ:∀ g3 o p t l,Pend (n:=n) g x g3 p->lk g3.w.oct x=some (t,l)->il l o->(valI g3.w.held x≠0->Gd e0 g3)->(valI g3.w.held x=0->Gd e0 { g3 with w:={ g3.w with row:=g3.w.row.eraseIdx p++[x] } })->Q (.bytes o) g3 L m) :
  wp (lvl aG (k+6) (.base 277) [.obj g.c.i,.int x]) Q E g1 L m:=by
 have hl1:g1.live=true:=hg.live.trans h.live
 refine aW wB rfl rfl ?_;refine bo (hg.c ..) ?_;refine gx 1805 (fw hl1) aX (wc ?_);refine ac (hg.c ..) ?_;refine pD h hx hs (by lia) hg fun g2 i u p hM=>?_;refine cG (hM.gd.hp i u hM.mem hM.bu) fun q1 q2 t0 l0 q3 q4=>?_;have hnum:=hM.num;rw [hnum] at q3;have hu4:=q4.len;have hl2:=hM.gd.live;have hb2:=hM.bu;have hho:=hM.hol;have hnn:=(h.nn x).1;have hr4:=hM.gd.r90;have hcl:=hM.gd.clen;have hgd:Gd e0 { g2 with b:=st g2.b i { u with hol:=u.hol - 1 },w:={ g2.w with held:=g2.w.held,pins:=g2.w.pins,oct:=g2.w.oct,kept:=g2.w.kept,old:=g2.w.old,met:=g2.w.met },c:={ g2.c with hits:=g2.c.hits } }:=
  hM.gd.upB (u':={ u with hol:=u.hol - 1 }) (H:=g2.w.held) (P:=g2.w.pins) (σ:=g2.w.oct) (K:=g2.w.kept) (Ol:=g2.w.old) (m1:=g2.w.met) (h1:=g2.c.hits) hM.mem hM.bu rfl (fun y hy=>(ao (by rw [hnum] at hy;simp [e0,e1,hy]) rfl rfl)) ⟨by dsimp only;refine ac q1 (ac hnum ?_);simp [e0,e1],q2,t0,l0,by refine ac hnum ?_;exact q3,q4⟩ hM.gd.out hM.gd.nn hM.gd.kp1 hM.gd.kp2 hM.gd.kpk (fun q=>q) hM.gd.old
 refine gx 257 (fb hl2 hb2) aX (wc ?_);refine dU hl2 hb2 (by lia) ?_;refine bo (hM.fr.same.c ..) ?_;refine gx 1805 (fw hl2) aX (wc ?_);refine eg (p:=p) hl2 hb2 (by refine ac hnum ?_;exact hM.by_) (by lia) hM.gd.bs hM.cp (bC hM.gd.cnd hM.cp) (by lia) (fun hc=>?_) (fun hc=>?_)
 ·refine g0 ak (fi 0 rfl ?_);refine hQ _ _ p t0 l0 ⟨hl2,hM.gd.kfz,hM.wp_,bC hM.gd.nd hM.wp_,hr4,{ hM.fr.same with },hM.fr.held,hM.fr.p,{ hM.fr.sz n hs with }⟩ q3 q4 (fun U=>hgd) (fun hz=>absurd hz ?_);dsimp only;refine ac (hM.fr.held ..) ?_;lia
 ·refine g0 ak (fi 0 rfl ?_);refine hQ _ _ p t0 l0 ⟨hl2,hM.gd.kfz,hM.wp_,bC hM.gd.nd hM.wp_,hr4,{ hM.fr.same with },hM.fr.held,hM.fr.p,{ hM.fr.sz n hs with }⟩ q3 q4 (fun hz=>absurd ?_ hz) (fun U=>?_)
  ·dsimp only;refine ac (hM.fr.held ..) ?_;lia
  ·exact hgd.mv (i:=i) (p:=p) (x:=x) (by exact hM.cp) (by exact ac (gN hM.bu (by rfl) ..) (ac (bX hM.bu ..) (ac hnum rfl)))
theorem uH{o:List UInt8}{vs:List Int}(h:Gd e0 g)(hx:0<=x/\x<g.k.blocks)(hs:Sz n g)(hn:n<600)(hg:Gm g x g1)(hov:il vs o)
  (hQ:∀ g3 p t l,Pend (n:=n) g x g3 p->lk g3.w.oct x=some (t,l)->(∀ t1 t2,valI g3.w.held x≠0->Gd e0 { g3 with w:={ g3.w with oct:=st g3.w.oct x (t1,vs),ds:=g3.w.ds.set x.toNat (t2,vs),written:=g3.w.written+1 } })->(∀ t1 t2,valI g3.w.held x=0->Gd e0 { g3 with w:={ g3.w with oct:=st g3.w.oct x (t1,vs),ds:=g3.w.ds.set x.toNat (t2,vs),written:=g3.w.written+1,row:=g3.w.row.eraseIdx p++[x] } })->g3.w.ds.length<=9->x.toNat<g3.w.ds.length->Q .none g3 L m) :
  wp (lvl aG (k+6) (.base 284) [.obj g.c.i,.int x,.bytes o]) Q E g1 L m:=by
 have hl1:g1.live=true:=hg.live.trans h.live
 refine aW wC rfl rfl ?_;refine bo (hg.c ..) ?_;refine gx 1805 (fw hl1) aX (wc ?_);refine ac (hg.c ..) ?_;refine pD h hx hs (by lia) hg fun g2 i u p hM=>?_;refine cG (hM.gd.hp i u hM.mem hM.bu) fun q1 q2 t0 l0 q3 q4=>?_;have hnum:=hM.num;rw [hnum] at q3;have hu4:=q4.len;have ho4:=hov.len;have hl2:=hM.gd.live;have hb2:=hM.bu;have hho:=hM.hol;have hnn:=(h.nn x).1;have hr4:=hM.gd.r90;have hcl:=hM.gd.clen;have hdl:=hM.gd.dsl;have hbl:=hM.gd.bl;have hs2:=hM.fr.sz n hs;have hk2:=hM.fr.k;have hx2:0<=x/\x<g2.k.blocks:=by refine ac hk2 ?_;exact hx
 have hgd:∀ t1:Nat,Gd e0 { g2 with b:=st g2.b i { u with oct:=o,hol:=u.hol - 1 },w:={ g2.w with held:=g2.w.held,pins:=g2.w.pins,oct:=st g2.w.oct x (t1,vs),kept:=g2.w.kept,old:=g2.w.old,met:=g2.w.met },c:={ g2.c with hits:=g2.c.hits } }:=fun t1=>
  hM.gd.upB (u':={ u with oct:=o,hol:=u.hol - 1 }) (H:=g2.w.held) (P:=g2.w.pins) (σ:=st g2.w.oct x (t1,vs)) (K:=g2.w.kept) (Ol:=g2.w.old) (m1:=g2.w.met) (h1:=g2.c.hits) hM.mem hM.bu rfl (fun y hy=>(ao (by rw [hnum] at hy;simp [e0,e1,hy]) rfl (by rw [hnum] at hy;rw [bw,if_neg (Ne.symm hy)]))) ⟨by dsimp only;rw [q1,hnum];simp [e0,e1],q2,t1,vs,by rw [hnum,bw,if_pos rfl],hov⟩ hM.gd.out hM.gd.nn hM.gd.kp1 hM.gd.kp2 hM.gd.kpk (fun q=>q) hM.gd.old
 have hb3:lk (st g2.b i { u with oct:=o }) i=some { u with oct:=o }:=bP
 have hss:∀ w:Bu,st (st g2.b i { u with oct:=o }) i w=st g2.b i w:=fun w=>by
  have:∀ l:List (Nat×Bu),st (st l i { u with oct:=o }) i w=st l i w:=by
   intro l
   induction l with
   | nil=>simp [b8,bE]
   | cons q l ih=>
    obtain ⟨a,b⟩:=q
    by_cases z:a=i
    ·simp [z,b8,bE]
    ·simp [z,b8,bE,ih]
  exact this _
 refine gx 257 (fb hl2 hb2) aX (wc ?_);refine mj hl2 hb2 (by lia) (by lia) (fun U=>?_) (fun z=>absurd (by lia) z);refine bo (hM.fr.same.c ..) ?_;refine gx 1805 (fw hl2) aX (wc ?_);refine nu (u:={ u with oct:=o }) (by exact hl2) (by exact hb3) (by refine ac hnum ?_;exact hM.by_) (by dsimp only;lia) ho4 (by refine ac hnum ?_;exact hx2) (by have:=hs2.lat;dsimp only;lia) (by have:=hs2.unf;dsimp only;lia) fun t=>?_;refine gx 1805 (fw hl2) aX (wc ?_);have szf:∀ (t:Nat),Sz (n+1) { g2 with k:={ g2.k with writes:=g2.k.writes+1,lat:=st g2.k.lat u.num o,unf:=g2.k.unf++[.obj t] } }:=fun t=>{ hs2 with
  lat:=by have:=dG (x:=u.num) (v:=o) g2.k.lat;have:=hs.lat;rw [hk2] at *;dsimp only at *;lia
  unf:=by have:=hs.unf;rw [hk2] at *;dsimp only at *;refine ac (List.length_append ..) (ac (List.length_singleton ..) ?_);lia }
 refine eg (u:={ u with oct:=o }) (p:=p) (by exact hl2) (by exact hb3) (by refine ac hnum ?_;exact hM.by_) (by dsimp only;lia) (fun j hj=>qt (hM.gd.bs j hj)) (by exact hM.cp) (bC hM.gd.cnd hM.cp) (by dsimp only;lia) (fun hc=>?_) (fun hc=>?_)
 ·refine g0 ak (fi 0 rfl ?_);refine ac (hss ..) ?_;refine hQ _ p t0 l0 ⟨hl2,hM.gd.kfz,hM.wp_,bC hM.gd.nd hM.wp_,hr4,{ hM.fr.same with },hM.fr.held,hM.fr.p,{ szf t with }⟩ q3 (fun t1 t2 U=>?_) (fun U U hz=>absurd hz ?_) (by dsimp only;lia) (by dsimp only;lia)
  ·have:=(hgd t1).wrt (x:=x) (t:=t2) (l:=vs) (o:=o) (un:=g2.k.unf++[.obj t]) (wr:=g2.k.writes+1) hx2 hov
   rw [<- hnum] at this ⊢;exact this
  ·dsimp only at hc ⊢;refine ac (hM.fr.held ..) ?_;lia
 ·refine g0 ak (fi 0 rfl ?_);refine ac (hss ..) ?_;refine hQ _ p t0 l0 ⟨hl2,hM.gd.kfz,hM.wp_,bC hM.gd.nd hM.wp_,hr4,{ hM.fr.same with },hM.fr.held,hM.fr.p,{ szf t with }⟩ q3 (fun U U hz=>absurd ?_ hz) (fun t1 t2 U=>?_) (by dsimp only;lia) (by dsimp only;lia)
  ·dsimp only at hc ⊢;refine ac (hM.fr.held ..) ?_;lia
  ·have:=((hgd t1).wrt (x:=x) (t:=t2) (l:=vs) (o:=o) (un:=g2.k.unf++[.obj t]) (wr:=g2.k.writes+1) hx2 hov).mv (i:=i) (p:=p) (x:=x) (by exact hM.cp) (by exact ac (gN hM.bu (by rfl) ..) (ac (bX hM.bu ..) (ac hnum rfl)))
   rw [<- hnum] at this ⊢;exact this
end
section
variable {E:Nat->G->Tm->Prop}{g g1:G}{L:Tm}{m:Vs}{Q:AV->G->Tm->Vs->Prop}{k n:Nat}{x:Int}{QB:Bool->G->Tm->Vs->Prop}{cells:List (Nm×Nat)}{jp acc tab f:Nat}{N:G->Tm->Vs->Prop}{R:AV->G->Tm->Vs->Prop}
theorem uF(hl:g.live=true)(hk:0<=g.p.k/\g.p.k<850000)(hc:lk cells .pool=some jp)(hL:∀ g' o,Lk g' ((acc,o)::L) jp (.ce (some (.obj g.p.i))))(hN:∀ g' (vs:List Int) m,Tk 4 g g'->vs.length=4->(∀ v∈vs,0<=v/\v<256)->N g' ((acc,.li (vs.map .int))::L) m) :
  wpS (loopK (.range 4) (cB (aL (lvl aG (k+2)) (f+6)) ⟨cells,tab⟩ .turn [] (.call (.glo .law_take) [.cel .pool,.int 256]) acc)) N R o_ g ((acc,.li [])::L) m:=by
 refine fF (len:=4) (fun j g' L' m'=>∃ vs:List Int,vs.length=j/\(∀ v∈vs,0<=v/\v<256)/\Tk j g g'/\L'=(acc,.li (vs.map .int))::L) (fun j g' L' m' hj hI=>?_) (fun g' L' m' hI=>?_) (bR [] rfl (by decide) (Tk.refl hk.1) rfl) (by decide)
 ·refine aS hI fun vs h1 h2 h3 z4=>?_;clear hI;subst z4;have hl':g'.live=true:=by refine aS h3 fun P U U U z4=>?_;clear h3;subst z4;exact hl
  refine sN (ed ⟨fun U=>jO (nB rfl (d0 (nA hc (hL _ _) (d0 (wP (jf ?_)))))),fun q=>absurd q (by decide)⟩);refine c0 hl' h3.same.p (by decide) (by have:=h3.bd;lia) fun v g2 h4 h5 h6=>?_;refine⟨_,_,_,Lk.t0,by refine ac (List.length_map ..) ?_;lia,Up.t0,vs++[v],by simp [h1],fun w hw=>?_,?_,by simp⟩
  ·rcases List.mem_append.mp hw with hw | hw
   ·exact h2 w hw
   ·refine ac (List.mem_singleton.mp hw ..) ?_;exact⟨h5,h6⟩
  ·have:=h3.trans h4
   exact this
 ·refine aS hI fun vs h1 h2 h3 z4=>?_;clear hI;subst z4;exact hN g' vs m' h3 h1 h2
theorem nk{v:Nm}(hl:g.live=true)(hr:g.w.row.length<=4)(hc:lk cells .world=some jp)(hL:∀ o,Lk g ((acc,o)::L) jp (.ce (some (.obj g.w.i))))(hN:∀ m,N g ((acc,.li ((g.w.row.filter fun x=>!frW g.w x).map .int))::L) m) :
  wpS (loopK (.list g.w.iwr) (cB (aL (lvl aG (k+2)) (f+6)) ⟨cells,tab⟩ v [.un .Not (.call (.glo .law_is_free) [.cel .world,.loc v])] (.loc v) acc)) N R o_ g ((acc,.li [])::L) m:=by
 refine cX (l:=g.w.row.map .int) (fun j g' L' U=>g'=g/\L'=(acc,.li (((g.w.row.take j).filter fun x=>!frW g.w x).map .int))::L) (fun U g' L' m' hI=>?_) (fun j w g' L' m' hj hI=>?_) (fun g' L' m' hI=>?_) ⟨rfl,rfl⟩ (by refine ac (List.length_map ..) ?_;lia)
 ·refine aq hI fun z0 z1=>?_;clear hI;subst z0;subst z1;exact Lk.wr hl
 ·refine aq hI fun z0 z1=>?_;clear hI;subst z0;subst z1;rw [List.getElem?_map] at hj;refine af (Option.map_eq_some_iff.mp hj) fun z hz z2=>?_;subst z2;have e:g'.w.row.take (j+1)=g'.w.row.take j++[z]:=by refine ac (List.take_add_one ..) (ac hz ?_);rfl
  refine sN (nl (xz (vV (jO (nB rfl (d0 (nA hc (hL _) (d0 (k_ on (jf ?_))))))))));refine dg hl ?_;refine(aH _ rfl (fun hc=>ed ?_) (fun hc=>⟨fun hd=>absurd hd (by decide),fun U=>⟨rfl,?_⟩⟩))
  ·refine⟨fun U=>k_ on (cQ _ _ _ Lk.t0 ?_ Up.t0 rfl ?_),fun q=>absurd q (by decide)⟩
   ·have:=List.length_filter_le (fun x=>!frW g'.w x) (g'.w.row.take j)
    simp at this ⊢;lia
   ·refine ac e (ac (List.filter_append ..) ?_);simp [hc]
  ·refine ac e (ac (List.filter_append ..) ?_);simp [hc]
 ·refine aq hI fun z0 z1=>?_;clear hI;subst z0;subst z1;refine ac (List.take_of_length_le (by simp) ..) ?_;exact hN m'
theorem fE{α β:Type}[DecidableEq α]:∀ {l:List (α×β)} {j:Nat} {p:α×β},(l.map (·.1)).Nodup->l[j]?=some p->lk l p.1=some p.2:=by
 intro l_
 induction l_ with
 | nil=>
  intro c1_ c2_ c3_ h
  simp at h
 | cons p_ l ih_=>
  intro c1_ p hn h
  induction c1_ using Nat.casesOn with
  | zero=>
    obtain ⟨a,b⟩:=p_
    have:(a,b)=p:=by simpa using h
    subst this;simp [br,aP]
  | succ j=>
    obtain ⟨a,b⟩:=p_
    rw [List.map_cons,List.nodup_cons] at hn;have h':l[j]?=some p:=by exact h
    have hne:a≠p.1:=fun z=>hn.1 (by refine ac z ?_;exact List.mem_map_of_mem (f:=(·.1)) (List.mem_of_getElem? h'))
    simp only [br,aP];refine ac (if_neg hne ..) ?_;exact ih_ hn.2 h'
theorem sq(h:Gd e0 g)(hs:g.w.kept.length<=90)(hc:lk cells .world=some jp)(hL:∀ g' o,Lk g' ((acc,o)::L) jp (.ce (some (.obj g.w.i))))(hN:∀ m,N g ((acc,.li ((g.w.kept.map (·.2)).map .obj))::L) m) :
  wpS (loopK (.keys g.w.iwk) (cB (aL (lvl aG (k+2)) (f+6)) ⟨cells,tab⟩ .other [] (.sub (.sub (.cel .world) (.str .kept)) (.loc .other)) acc)) N R o_ g ((acc,.li [])::L) m:=by
 have hl:=h.live
 have kf:=h.kfz
 refine nM (Lk.wk hl kf) (Up.wkf hl) ?_;refine nP (l:=aZ .obj g.w.kept) (fun j g' L' U=>g'={ g with w:={ g.w with kfz:=true } }/\L'=(acc,.li (((g.w.kept.take j).map (·.2)).map .obj))::L) (fun U g' L' m' hI=>?_) (fun j w g' L' m' hj hI=>?_) (fun g' L' m' hI=>?_) ⟨rfl,rfl⟩ (by refine ac (bh ..) ?_;lia)
 ·refine aq hI fun z0 z1=>?_;clear hI;subst z0;subst z1;exact Lk.wkf (by exact hl) rfl
 ·refine aq hI fun z0 z1=>?_;clear hI;subst z0;subst z1;unfold aZ at hj;rw [List.getElem?_map] at hj;refine af (Option.map_eq_some_iff.mp hj) fun z hz z2=>?_;subst z2;have e:g.w.kept.take (j+1)=g.w.kept.take j++[z]:=by rw [List.take_add_one,hz];rfl
  have hlk:=fE h.kpk hz
  refine sN (ed ⟨fun U=>um (um (nA hc (hL _ _) (ul (nE (Lk.world (by exact hl)) rfl (k_ on ?_))))),fun q=>absurd q (by decide)⟩);refine le (v:=.obj z.2) (Lk.wkf (by exact hl) rfl) (by rw [bp];dsimp only;rw [hlk];rfl) ?_;refine(cQ _ _ _ Lk.t0 ?_ Up.t0 rfl ?_)
  ·simp;lia
  ·rw [e];simp
 ·refine aq hI fun z0 z1=>?_;clear hI;subst z0;subst z1;refine ac (List.take_of_length_le (by rw [bh];exact Nat.le_refl _) ..) ?_;refine(aY _ g _ (Lk.wkf (by exact hl) rfl) ?_ (hN m'));have:=Up.wk (g:={ g with w:={ g.w with kfz:=true } }) (L:=(acc,.li ((g.w.kept.map (·.2)).map .obj))::L) hl g.w.kept rfl;have e2:({ g with w:={ g.w with kfz:=false } }:G)=g:=by
   exact bo kf rfl
  rw [show ({ ({ g with w:={ g.w with kfz:=true } }:G) with w:={ ({ g with w:={ g.w with kfz:=true } }:G).w with kept:=g.w.kept,kfz:=false } }:G)=g from e2] at this;exact this
theorem sS{i j:Nat}{l:List Nat}(hl:g.live=true)(hi:∃ u,lk g.b i=some u)(hb:∀ j∈l,∃ u,lk g.b j=some u)(h1:Lk g L j (.li (l.map .obj)))(h:QB (decide (i∈l)) g L m):wp (dc .In (.obj i) (.obj j)) QB E g L m:=
 dp (fun s hs=>by
  dsimp only [eO,inv];refine ac (bz hs h1 ..) ?_;show memv _ _ _=_;clear h1 h;refine aj hi fun u hu=>?_;clear hi;induction l with
  | nil=>rfl
  | cons a l ih=>
   refine aj (hb a (List.mem_cons_self ..)) fun v hv=>?_;have e:eq1 s (.obj a) (.obj i)=some (decide (a=i)):=by
    dsimp only [eq1,eqI];refine ac (hat hs (Lk.bI hl hv) ..) (ac (hat hs (Lk.bI hl hu) ..) ?_);rfl
   show jC _ (eq1 s (.obj a) (.obj i)) (memv s (.obj i) (l.map .obj))=_;refine ac e (ac (ih fun j hj=>hb j (List.mem_cons_of_mem _ hj) ..) ?_);show some (decide (a=i)||decide (i∈l))=_
   congr 1
   by_cases z:i=a
   ·subst z;simp
   ·simp [z,Ne.symm z]) h
def wL(g:G)(v:AV):Prop:=v=.none∨∃ x,v=.int x/\¬ (0<=x/\x<g.k.blocks)
theorem ug{v:AV}(hl:g.live=true)(hv:wL g v)(h:E 64 g L):wp (lvl aG (k+5) (.base 228) [.obj g.c.i,v]) Q E g L m:=by
 rcases hv with rfl | ⟨x,rfl,hx⟩
 ·exact mo (k:=k+1) hl h
 ·exact oK (k:=k+1) hl hx h
end
section
variable {E:Nat->G->Tm->Prop}{g g1:G}{L:Tm}{m:Vs}{Q:AV->G->Tm->Vs->Prop}{k n:Nat}{x:Int}{QB:Bool->G->Tm->Vs->Prop}
theorem qP{α β:Type}[DecidableEq α]{x:α}{v:β}:∀ {l:List (α×β)},lk l x=some v->(x,v)∈l
 | [],h=>by exact aA h
 | (c,d)::l,h=>by
  simp only [br,aP] at h;by_cases z:c=x
  ·rw [if_pos z] at h;obtain rfl:=Option.some.inj h;refine ac z ?_;exact List.mem_cons_self ..
  ·rw [if_neg z] at h;exact List.mem_cons_of_mem _ (qP h)
theorem qO{vs:List Int}{o:List UInt8}(h:il vs o):(o.map fun x=>AV.int x.toNat)=vs.map .int:=by
 refine ac (h.2.2 ..) (ac (List.map_map ..) ?_);refine List.map_congr_left fun v hv=>?_;have:=h.2.1 v hv;show AV.int (v.toNat.toUInt8.toNat:Nat)=.int v
 congr 1
 refine ac (UInt8.toNat_ofNat' ..) ?_;lia
theorem ud(h:Gd e0 g)(hs:Sz n g)(hn:n<60)(hk:0<=g.p.k/\g.p.k<800000)(hQ:∀ g',Gd e0 g'->Sz (n+1) g'->Same g g'->0<=g'.p.k->g'.p.k<=g.p.k+8->Q (.bool true) g' L m):wp (lvl aG (k+9) (.base 465) [.obj g.p.i,.obj g.c.i,.obj g.w.i,.int g.k.blocks]) Q E g L m:=by
 have hl:=h.live
 have hbl:=h.bl
 refine eK yn rfl (cp_cons fun j1=>cp_cons fun j2=>cp_cons fun j3=>cp_cons fun j4=>cp_cons fun j5=>cp_cons fun j6=>cp_cons fun j7=>cp_cons fun j8=>c_ ?_);refine gx 150037319 .nil ec (wc ?_);refine c0 hl rfl (by decide) ⟨hk.1,by lia⟩ fun way g1 ht1 hw0 hw7=>?_;refine gx 71 .nil bT (wc ?_);refine c0 (ht1.gd h).live ht1.same.p (by lia) (by have:=ht1.bd;lia) fun x g2 ht2 hx0 hx1=>?_;refine g0 ak fun t1=>?_;refine gx 137453760 .nil ec (an ?_);have ht:=ht1.trans ht2;clear ht1 ht2;refine bo (ht.same.w ..) (bo (ht.same.c ..) (bo (ht.same.p ..) (bo (ht.same.bl ..) ?_)));have h2:=ht.gd h;have hs2:=ht.sz hs;have hb2:=ht.bd;have hQ2:∀ g',Gd e0 g'->Sz (n+1) g'->Same g2 g'->0<=g'.p.k->g'.p.k<=g2.p.k+6->Q (.bool true) g' L m:=fun g' a b c d e=>hQ g' a b (ht.same.trans c) d (by lia);have hx:0<=x/\x<g2.k.blocks:=⟨hx0,by refine ac (ht.same.bl ..) ?_;exact hx1⟩;have hl2:=h2.live;have kf2:=h2.kfz;clear hx0 hx1;refine⟨fun hc=>?_,fun hc=>?_⟩
 ·refine gx 144818502 (fw hl2) ec (wk ?_);refine g8 (Lk.wp hl2) ?_;refine g0 ak (an ?_);refine⟨fun hc=>?_,fun hc=>?_⟩
  ·have hp:0<valI g2.w.pins x:=by simpa using hc
   have hxr:x∈g2.w.row:=by
    by_cases z:x∈g2.w.row
    ·exact z
    ·have:=(h2.out x z).2;lia
   refine b6 (h2.buf hxr) fun i u p a1 a2 a3 a4 a5 a6=>?_;refine aM (h2.hp i u a4 a2) fun q1 q2 q3=>?_;refine gx 144745217 (fw hl2) cR (wk ?_);refine ca (Lk.wp hl2) (by rw [bh];have:=hs2.pins;lia) (Up.wp hl2 (st g2.w.pins x (valI g2.w.pins x - 1)) (df _ _ _ _)) ?_;refine g0 ak fun t2=>?_;refine g0 ak (wc ?_);refine bv Lk.t0 fun U=>?_;refine gx 147031752 (fw hl2) ec (wg rfl ?_);refine sM (g:={ g2 with w:={ g2.w with pins:=st g2.w.pins x (valI g2.w.pins x - 1) } }) (i:=i) (u:=u) (by exact hl2) (by exact a1) (by exact a2) (by refine ac q2 (ac a3 ?_);lia) ?_;refine g0 ak (fi 0 rfl ?_);intro t2;refine g0 ak (an ?_);refine⟨fun U=>?_,fun hd=>absurd hc (by refine ac hd ?_;decide)⟩;refine g0 ak fun t3=>?_;refine g0 ak (wk ?_);refine bH (r:=true) (Lk.ts Lk.t0) Lk.t0 (fun s U=>rfl) ?_;refine g0 ak (fi 12 rfl ?_);have hgd:=h2.upB (e':=e0) (u':={ u with pin:=u.pin - 1 }) (H:=g2.w.held) (P:=st g2.w.pins x (valI g2.w.pins x - 1)) (σ:=g2.w.oct) (K:=g2.w.kept) (Ol:=g2.w.old) (m1:=g2.w.met) (h1:=g2.c.hits) a4 a2 rfl (fun y hy=>(ao rfl (by rw [a3] at hy;rw [bj,if_neg (Ne.symm hy)]) rfl)) (ao q1 (by dsimp only;rw [q2,a3,bj,if_pos rfl]) q3) (fun y hy=>⟨(h2.out y hy).1,by rw [bj,if_neg (fun z:x=y=>hy (z▸hxr))];exact(h2.out y hy).2⟩) (fun y=>⟨(h2.nn y).1,by
    rw [bj];split
    ·lia
    ·exact(h2.nn y).2⟩) h2.kp1 h2.kp2 h2.kpk (fun q=>q) h2.old
   refine hQ2 _ hgd { hs2.mono (Nat.le_succ n) with pins:=?_ } ⟨rfl,rfl,rfl,rfl,rfl⟩ hb2.1 (by dsimp only;lia);have:=dG (x:=x) (v:=valI g2.w.pins x - 1) g2.w.pins;have:=hs2.pins;dsimp only;lia
  ·have hp:valI g2.w.pins x=0:=by
    have:=(h2.nn x).2
    have:¬ 0<valI g2.w.pins x:=by simpa using hc
    lia
   refine g0 ak fun t2=>?_;refine g0 ak (wc ?_);refine bv Lk.t0 fun U=>?_;refine gx 147031752 (fw hl2) ec (wg rfl ?_);refine kX hl2 (fun i hi=>?_) ⟨.refl,.inr (.inr ⟨rfl,fun t2=>?_⟩)⟩
   ·refine aq (h2.by2 x i hi) fun b1 b2=>?_;refine aj (h2.bs i b1) fun u hu=>?_;refine(ag u hu ?_);refine ac ((h2.hp i u b1 hu).2.1 ..) (bo (bX hu ..) (ac b2 ?_));exact hp
   refine g0 ak (an ?_);refine⟨fun hd=>absurd hd (by refine ac hc ?_;decide),fun U=>?_⟩;refine g0 ak fun t3=>?_;refine g0 ak (wk ?_);refine bH (r:=true) (Lk.ts Lk.t0) Lk.t0 (fun s U=>rfl) ?_;refine g0 ak (fi 12 rfl ?_);exact hQ2 _ h2 (hs2.mono (Nat.le_succ n)) .refl hb2.1 (by lia)
 refine gx 65 .nil bT fun t2=>?_;refine g0 ak (wk ?_);refine qi (l:=[1,2]) Lk.t0 ?_;refine g0 ak (an ?_);refine⟨fun hc=>?_,fun hc2=>?_⟩
 ·have hw:way=1∨way=2:=by simpa using of_decide_eq_true hc
  refine g0 ak (wk ?_);refine cT (pB ?_);refine g0 ak (en (ex ?_));refine⟨.range 4,_,dZ (i:=4) (by decide),rfl,fun acc=>?_⟩;refine uF (k:=k+6) hl2 ⟨hb2.1,by lia⟩ rfl (fun g' o=>(Lk.n 10 rfl)) fun g3 vs U ht3 hv4 hv=>?_;have h3:=ht3.gd h2;have hs3:=ht3.sz hs2;have hb3:=ht3.bd;have hl3:=h3.live;have hx3:0<=x/\x<g3.k.blocks:=by refine ac (ht3.same.bl ..) ?_;exact hx
  have hov:il vs (vs.map fun v=>v.toNat.toUInt8):=(ao hv4 hv rfl)
  refine bo (ht3.same.w ..) (bo (ht3.same.c ..) (bo (ht3.same.p ..) ?_));refine g0 ak (wc ?_);refine bG Lk.t0 (by refine ac (List.length_map ..) ?_;lia) (ik hv) ?_;generalize (vs.map fun v=>v.toNat.toUInt8)=o at *;refine gx 1172548 .nil cR (wc ?_);refine uh h3 hx3 hs3 (by lia) (fun g4 hg=>?_) (fun hf=>?_)
  ·have hl4:g4.live=true:=hg.live.trans hl3
   refine g0 ak fun t3=>?_;refine g0 ak (wc ?_);refine bv Lk.t0 fun U=>?_;refine gx 68 .nil bT (an ?_);refine⟨fun hc=>?_,fun hc=>?_⟩
   ·have hw1:way=1:=of_decide_eq_true hc
    refine bo (hg.c ..) ?_;refine gx 151226058 (fw hl4) ec (wg rfl ?_);refine ac (hg.c ..) ?_;refine uG h3 hx3 hs3 (by lia) hg fun g5 ob p tt l hP hoc hok hg1 hg2=>?_;refine g0 ak (fi 0 rfl ?_);intro t2;have hl5:=hP.live;have hsz:=hP.sz;have hat:=hP.at_;have hfst:=hP.fst;have hlen:=hP.len;have hsame:=(ht3.same.trans hP.same);have hpp:=hP.pp;refine bo (hP.same.w ..) (bo (hP.same.c ..) (bo (hP.same.p ..) ?_));refine gx 8834 .nil aX (an ?_);refine⟨fun hd=>absurd (of_decide_eq_true hd) (by lia),fun U=>?_⟩;refine gx 153190730 (fw hl5) ec (wk ?_);refine g8 (Lk.wh (by exact hl5)) ?_;refine g0 ak (an ?_);refine⟨fun hd=>?_,fun hd=>?_⟩
    ·refine gx 9418 .nil aX (wc ?_);refine mr (p:=p) hl5 hat hfst (by lia) ?_;refine gx 69 .nil bT (an ?_);refine⟨fun U=>?_,fun hd=>absurd hw1 (of_decide_eq_false hd)⟩;refine gx 1196362 (fw hl5) cR (wk ?_);refine cy (v:=.obj tt) (Lk.wo (by exact hl5)) (by rw [bp];dsimp only;rw [hoc];rfl) ?_;refine g0 ak (wc ?_);refine bG (Lk.oc (by exact hl5) (by exact hoc)) (by refine ac (List.length_map ..) (ac (hok.1 ..) ?_);decide) (dJ hok) ?_;refine g0 ak fun t4=>?_;refine g0 ak (wk ?_);refine bH (r:=true) (Lk.ts Lk.t0) Lk.t0 (fun s U=>by show la (some (decide (_=_))) (la (some (decide (_=_))) (some true))=_;rw [decide_eq_true rfl,decide_eq_true rfl];rfl) ?_;refine g0 ak (fi 14 rfl ?_);exact hQ2 _ (hg2 (of_decide_eq_true hd)) { hsz with } { hsame with } (by show 0<=g5.p.k;refine ac hpp ?_;exact hb3.1) (by show g5.p.k<=_;refine ac hpp ?_;lia)
    ·refine gx 69 .nil bT (an ?_);refine⟨fun U=>?_,fun hd=>absurd hw1 (of_decide_eq_false hd)⟩;refine gx 1196362 (fw hl5) cR (wk ?_);refine cy (v:=.obj tt) (Lk.wo (by exact hl5)) (by rw [bp,hoc];rfl) ?_;refine g0 ak (wc ?_);refine bG (Lk.oc (by exact hl5) (by exact hoc)) (by refine ac (List.length_map ..) (ac (hok.1 ..) ?_);decide) (dJ hok) ?_;refine g0 ak fun t4=>?_;refine g0 ak (wk ?_);refine bH (r:=true) (Lk.ts Lk.t0) Lk.t0 (fun s U=>by show la (some (decide (_=_))) (la (some (decide (_=_))) (some true))=_;rw [decide_eq_true rfl,decide_eq_true rfl];rfl) ?_;refine g0 ak (fi 14 rfl ?_);exact hQ2 _ (hg1 (of_decide_eq_false hd)) { hsz with } { hsame with } (by show 0<=g5.p.k;refine ac hpp ?_;exact hb3.1) (by show g5.p.k<=_;refine ac hpp ?_;lia)
   ·have hw1:way=2:=by have:=of_decide_eq_false hc;lia
    refine bo (hg.c ..) ?_;refine gx 18673272522 (fw hl4) wj (wg rfl ?_);refine ac (hg.c ..) ?_;refine uH h3 hx3 hs3 (by lia) hg hov fun g5 p tt l hP hoc hg1 hg2 hd9 hxd=>?_;refine g0 ak (fi 0 rfl ?_);intro t2;have hl5:=hP.live;have hsz:=hP.sz;have hat:=hP.at_;have hfst:=hP.fst;have hlen:=hP.len;have hsame:=(ht3.same.trans hP.same);have hpp:=hP.pp;have ho4:=hov.len;refine bo (hP.same.w ..) (bo (hP.same.c ..) (bo (hP.same.p ..) ?_));refine gx 8834 .nil aX (an ?_);refine⟨fun U=>?_,fun hd=>absurd hw1 (of_decide_eq_false hd)⟩;refine gx 70 .nil bT (wc ?_);refine kJ (by lia) fun t3=>?_;refine gx 1212747 (fw hl5) cR (wk ?_);refine ca (Lk.wo hl5) (by rw [bh];have:=hsz.oct;lia) (Up.newOc (A:=[]) (x:=x) hl5 vs (qO hov) rfl) ?_;refine gx 70 .nil bT (wc ?_);refine kJ (by lia) fun t4=>?_;refine gx 1212747 (fw hl5) cR (wk ?_);refine er (k':=x.toNat) (Lk.wd (by exact hl5)) (by refine ac (List.length_map ..) ?_;show g5.w.ds.length<=1000;lia) hx3.1 (eF hx3.1 (by refine ac (List.length_map ..) ?_;show x<(g5.w.ds.length:Int);lia)) (Up.newDs (A:=[]) (j:=x.toNat) (by exact hl5) vs (by exact hxd) (qO hov) rfl) ?_;refine gx 16714 (fw hl5) aX (wk ?_);refine dL (Lk.world (by exact hl5)) (by simp [ch]) (Up.written (by exact hl5) _) ?_;refine gx 153190730 (fw hl5) ec (wk ?_);refine g8 (Lk.wh (by exact hl5)) ?_;have hszf:∀ (a b:Nat),Sz (n+1) { g5 with w:={ g5.w with oct:=st g5.w.oct x (a,vs),ds:=g5.w.ds.set x.toNat (b,vs),written:=g5.w.written+1 } }:=fun a b=>{ hsz with oct:=by dsimp only;refine ac (du hoc ..) ?_;exact hsz.oct };refine g0 ak (an ?_);refine⟨fun hd=>?_,fun hd=>?_⟩
    ·refine gx 9418 .nil aX (wc ?_);refine mr (p:=p) (by exact hl5) (by exact hat) (by exact hfst) (by dsimp only;lia) ?_;refine gx 69 .nil bT (an ?_);refine⟨fun hd=>absurd (of_decide_eq_true hd) (by lia),fun U=>?_⟩;refine g0 ak fun t5=>?_;refine g0 ak (wk ?_);refine bH (r:=true) (Lk.ts Lk.t0) Lk.t0 (fun s U=>rfl) ?_;refine g0 ak (fi 14 rfl ?_);exact hQ2 _ (hg2 t3 t4 (of_decide_eq_true hd)) { hszf t3 t4 with } { hsame with } (by refine ac hpp ?_;exact hb3.1) (by refine ac hpp ?_;lia)
    ·refine gx 69 .nil bT (an ?_);refine⟨fun hd=>absurd (of_decide_eq_true hd) (by lia),fun U=>?_⟩;refine g0 ak fun t5=>?_;refine g0 ak (wk ?_);refine bH (r:=true) (Lk.ts Lk.t0) Lk.t0 (fun s U=>rfl) ?_;refine g0 ak (fi 14 rfl ?_);exact hQ2 _ (hg1 t3 t4 (of_decide_eq_false hd)) { hszf t3 t4 with } { hsame with } (by refine ac hpp ?_;exact hb3.1) (by refine ac hpp ?_;lia)
  ·refine g0 ak fun t3=>?_;refine g0 ak (wc ?_);refine bv Lk.t0 fun U=>?_;refine gx 68 .nil bT (an ?_);refine⟨fun hc=>?_,fun hc=>?_⟩
   ·refine gx 151226058 (fw hl3) ec (wg rfl ?_);refine hO (c:=76) (fun Q E m hE=>lY h3 hx3 hf hE) hl3 ⟨.refl,.inl ⟨rfl,fun t2=>?_⟩⟩;refine gx 1 .nil bT fun t4=>?_;refine g0 ak (wk ?_);refine bH (r:=true) (Lk.ts Lk.t0) Lk.t0 (fun s U=>rfl) ?_;refine g0 ak (fi 14 rfl ?_);exact hQ2 g3 h3 (hs3.mono (Nat.le_succ n)) ht3.same hb3.1 (by lia)
   ·refine gx 18673272522 (fw hl3) wj (wg rfl ?_);refine ms (c:=76) (fun Q E m hE=>lY h3 hx3 hf hE) hl3 ⟨.refl,.inl ⟨rfl,fun t2=>?_⟩⟩;refine gx 1 .nil bT fun t4=>?_;refine g0 ak (wk ?_);refine bH (r:=true) (Lk.ts Lk.t0) Lk.t0 (fun s U=>rfl) ?_;refine g0 ak (fi 14 rfl ?_);exact hQ2 g3 h3 (hs3.mono (Nat.le_succ n)) ht3.same hb3.1 (by lia)
 refine gx 66 .nil bT (an ?_);refine⟨fun hc=>?_,fun hc=>?_⟩
 ·refine g0 ak (wk ?_);refine cT (pB ?_);refine gx 327 (fw hl2) aX (en (ex ?_));refine⟨_,_,cM (Lk.wr hl2),rfl,fun acc=>?_⟩;have hr4:=h2.r90;have hcl:=h2.clen;refine nk (k:=k+6) hl2 hr4 rfl (fun o=>(Lk.n 8 rfl)) fun U=>?_;refine gx 72 .nil bT (wk ?_);refine dL (Lk.world hl2) (by simp [ch]) (Up.newRow (A:=[]) hl2 (g2.w.row.filter fun x=>!frW g2.w x) rfl) ?_;refine g0 ak fun t3=>?_;refine g0 ak (wc ?_);refine bv Lk.t0 fun U=>?_;refine gx 231113 (fw hl2) cR (wg rfl ?_);have hf:=h2.forget;refine qa (g:={ g2 with w:={ g2.w with iwr:=acc,row:=g2.w.row.filter fun x=>!frW g2.w x } }) (by exact hl2) (by show g2.c.row.length<=90;lia) (by exact h2.bs) (by refine bo (h2.row ..) ?_;exact h2.nd) (fun j hj=>by show (lk g2.c.by_ (aQ g2.b j)).isSome=true;refine ac (h2.by1 j hj ..) ?_;rfl) (by show g2.c.by_.length<=1000;have:=hs2.by_;lia) ?_;refine g0 ak (fi 0 rfl ?_);intro t2;refine g0 ak fun t4=>?_;refine g0 ak (wk ?_);refine bH (r:=true) (Lk.ts Lk.t0) Lk.t0 (fun s U=>rfl) ?_;refine g0 ak (fi 13 rfl ?_);refine hQ2 _ { hf with } { hs2.mono (Nat.le_succ n) with by_:=?_ } ⟨rfl,rfl,rfl,rfl,rfl⟩ hb2.1 (by show g2.p.k<=_;lia);have:∀ (xs:List Int) (l:List (Int×Nat)),(xs.foldl rm l).length<=l.length:=fun xs=>by
   induction xs with
   | nil=>intro l;exact Nat.le_refl _
   | cons a xs ih=>intro l;exact Nat.le_trans (ih _) (len_rm _)
  have h3:=this ((g2.c.row.filter (isFr g2.b)).map (aQ g2.b)) g2.c.by_
  have:=hs2.by_
  exact Nat.le_trans h3 (by lia)
 refine gx 66 .nil bT (an ?_);refine⟨fun hc=>?_,fun hc=>?_⟩
 ·refine g0 ak (wk ?_);refine a_ (z:=10 ^ 30) rfl ?_;refine g0 ak fun t3=>?_;refine gx 74 .nil bT (wc ?_);refine c0 hl2 rfl (by decide) ⟨hb2.1,by lia⟩ fun d g3 ht3 hd0 hd4=>?_;have h3:=ht3.gd h2;have hs3:=ht3.sz hs2;have hb3:=ht3.bd;have hl3:=h3.live;have hbl3:=h3.bl;refine bo (ht3.same.w ..) (bo (ht3.same.c ..) (bo (ht3.same.p ..) (bo (ht3.same.bl ..) ?_)));have hv:∃ v,(dR d [AV.int (-1),.int g3.k.blocks,.none,.int (10 ^ 30)].length).bind ([AV.int (-1),.int g3.k.blocks,.none,.int (10 ^ 30)][·]?)=some v/\wL g3 v:=by
   have:d=0∨d=1∨d=2∨d=3:=by lia
   rcases this with rfl | rfl | rfl | rfl
   ·exact(ag _ rfl (.inr (ag _ rfl (by lia))))
   ·exact(ag _ rfl (.inr (ag _ rfl (by lia))))
   ·exact(ag _ rfl (.inl rfl))
   ·exact(ag _ rfl (.inr (ag _ rfl (by lia))))
  refine af hv fun v hv1 hv2=>?_;clear hv;refine g0 ak (wk ?_);refine bV (v:=v) Lk.t0 (by simp) hv1 ?_;refine gx 70 .nil bT fun t4=>?_;refine g0 ak (wc ?_);refine bv Lk.t0 fun U=>?_;refine gx 149128906 (fw hl3) ec (wg rfl ?_);refine ug (k:=k+1) hl3 hv2 ⟨.refl,.inr (.inl ⟨rfl,fun t3=>?_⟩)⟩;refine g0 ak fun t5=>?_;refine g0 ak (wk ?_);refine bH (r:=true) (Lk.ts Lk.t0) Lk.t0 (fun s U=>rfl) ?_;refine gx 1 .nil bT fun t6=>?_;refine g0 ak (wc ?_);refine bv Lk.t0 fun U=>?_;refine gx 155420365 (fw hl3) ec (wg rfl ?_);refine hO (c:=64) (fun Q E m hE=>ug hl3 hv2 hE) hl3 ⟨.refl,.inr (.inl ⟨rfl,fun t6=>?_⟩)⟩;refine g0 ak fun t7=>?_;refine g0 ak (wk ?_);refine bH (r:=true) (Lk.ts Lk.t0) Lk.t0 (fun s U=>rfl) ?_;refine g0 ak (fi 17 rfl ?_);exact hQ2 g3 h3 (hs3.mono (Nat.le_succ n)) ht3.same hb3.1 (by lia)
 refine gx 327 (fw hl2) aX fun t3=>?_;refine g0 ak (wk ?_);refine gH (Lk.ol hl2) Lk.t0 ?_;refine g0 ak (an ?_);refine⟨fun hc=>?_,fun hc=>?_⟩
 ·refine g0 ak fun t4=>?_;refine g0 ak (wc ?_);refine bv Lk.t0 fun U=>?_;refine gx 157517514 (fw hl2) ec (wg rfl ?_);refine c0 (k:=k+4) hl2 rfl (by decide) ⟨hb2.1,by lia⟩ fun d g3 ht3 hd0 hd4=>?_;refine g0 ak (wg rfl ?_);refine kT (k:=k+4) (by lia) ⟨.refl,.inr (.inr ⟨rfl,fun t3=>?_⟩)⟩;refine g0 ak fun t5=>?_;refine g0 ak (wk ?_);refine bH (r:=true) (Lk.ts Lk.t0) Lk.t0 (fun s U=>rfl) ?_;refine g0 ak (fi 14 rfl ?_);exact hQ2 g3 (ht3.gd h2) ((ht3.sz hs2).mono (Nat.le_succ n)) ht3.same ht3.bd.1 (by have:=ht3.bd;lia)
 ·have hold:g2.w.old≠[]:=fun z=>by rw [z] at hc;exact of_decide_eq_false hc rfl
  obtain ⟨init,i,hil⟩:∃ init i,g2.w.old=init++[i]:=(eY _ _ ((List.dropLast_concat_getLast hold).symm))
  refine aj (h2.old i (by refine ac hil ?_;simp)) fun u hu=>?_;refine gx 328 (fw hl2) aX (wk ?_);refine bV (v:=.obj i) (Lk.ol hl2) (by refine ac (List.length_map ..) ?_;have:=hs2.old;lia) (by
   refine ac hil (ac (List.length_map ..) (ac (List.length_append ..) (ac (List.length_singleton ..) ?_)));unfold dR;refine ac (if_neg (by decide) ..) (ac (if_pos (by lia) ..) ?_);show ((init++[i]).map AV.obj)[(-1+((init.length+1:Nat):Int)).toNat]?=_;refine ac (show (-1+((init.length+1:Nat):Int)).toNat=init.length by lia) ?_;simp) ?_
  refine gx 8901 .nil aX (wk ?_);refine cT (pB ?_);refine gx 328 (fw hl2) aX (en (ex ?_));refine⟨_,_,nJ (Lk.wk hl2 kf2),rfl,fun acc=>?_⟩;refine sq (k:=k+6) h2 (by have:=hs2.kept;lia) rfl (fun g' o=>(Lk.n 9 rfl)) fun U=>?_;refine g0 ak (wk ?_);refine sS hl2 ⟨u,hu⟩ (fun j hj=>?_) Lk.t0 ?_
  ·refine af (List.mem_map.mp hj) fun p hp z2=>?_;subst z2;refine aj (List.mem_iff_getElem?.mp hp) fun q hq=>?_;exact h2.bs _ (h2.kp1 p.1 p.2 (fE h2.kpk hq)).1
  refine g0 ak (an ?_);refine⟨fun U=>?_,fun hc=>?_⟩
  ·refine g0 ak (fi 12 rfl ?_);exact hQ2 g2 h2 (hs2.mono (Nat.le_succ n)) .refl hb2.1 (by lia)
  ·have hni:=of_decide_eq_false hc
   have hby:∀ j,lk g2.c.by_ u.num=some j->∃ v,lk g2.b j=some v:=fun j hj=>h2.bs j (h2.by2 _ j hj).1
   have hh:¬ (lk g2.c.by_ u.num=some i/\u.hol≠0):=fun z0_=>aq z0_ fun c1 c2=>by
    have c3:=(h2.by2 _ i c1).1
    have c4:=(h2.hp i u c3 hu).1
    have c5:=h2.kp2 u.num (by rw [c4] at c2;simpa [e0] using c2)
    refine aj (Option.isSome_iff_exists.mp c5) fun j hj=>?_;refine aM (h2.kp1 _ j hj) fun d1 d2 U=>?_;have d3:=h2.by1 j d1;rw [d2,c1] at d3;obtain rfl:=Option.some.inj d3;exact hni (List.mem_map.mpr (ag _ (qP hj) rfl))
   refine g0 ak fun t4=>?_;refine g0 ak fun t5=>?_;refine g0 ak fun t6=>?_;refine g0 ak fun t7=>?_;refine gx 79 .nil bT (wc ?_);refine c0 hl2 rfl (by decide) ⟨hb2.1,by lia⟩ fun d g3 ht3 hd0 hd3=>?_;have h3:=ht3.gd h2;have hl3:=h3.live;refine bo (ht3.same.c ..) ?_;have hu3:lk g3.b i=some u:=by refine aS ht3 fun P U U U z4=>?_;clear ht3;subst z4;exact hu
   have hby3:∀ j,lk g3.c.by_ u.num=some j->∃ v,lk g3.b j=some v:=by refine aS ht3 fun P U U U z4=>?_;clear ht3;subst z4;exact hby
   have hh3:¬ (lk g3.c.by_ u.num=some i/\u.hol≠0):=by refine aS ht3 fun P U U U z4=>?_;clear ht3;subst z4;exact hh
   have hd:d=0∨d=1∨d=2:=by lia
   rcases hd with rfl | rfl | rfl
   ·refine g0 ak (wk ?_);refine bV (v:=.obj t4) Lk.t0 (by simp) rfl ?_;refine g0 ak (wc ?_);refine bv (Lk.n 3 rfl) fun U=>?_;refine gx 155420366 (fw hl3) ec (wg rfl ?_);refine eM (k:=k+3) (f:=242) (.inl rfl) hl3 hu3 hby3 hh3 ⟨.refl,.inr (.inr ⟨rfl,fun t6=>?_⟩)⟩;refine g0 ak fun t8=>?_;refine g0 ak (wk ?_);refine bH (r:=true) (Lk.ts Lk.t0) Lk.t0 (fun s U=>rfl) ?_;refine g0 ak (fi 18 rfl ?_);exact hQ2 g3 h3 ((ht3.sz hs2).mono (Nat.le_succ n)) ht3.same ht3.bd.1 (by have:=ht3.bd;lia)
   ·refine g0 ak (wk ?_);refine bV (v:=.obj t5) Lk.t0 (by simp) rfl ?_;refine g0 ak (wc ?_);refine bv (Lk.n 2 rfl) fun U=>?_;refine gx 155420366 (fw hl3) ec (wg rfl ?_);refine eM (k:=k+3) (f:=263) (.inr (.inr rfl)) hl3 hu3 hby3 hh3 ⟨.refl,.inr (.inr ⟨rfl,fun t6=>?_⟩)⟩;refine g0 ak fun t8=>?_;refine g0 ak (wk ?_);refine bH (r:=true) (Lk.ts Lk.t0) Lk.t0 (fun s U=>rfl) ?_;refine g0 ak (fi 18 rfl ?_);exact hQ2 g3 h3 ((ht3.sz hs2).mono (Nat.le_succ n)) ht3.same ht3.bd.1 (by have:=ht3.bd;lia)
   ·refine g0 ak (wk ?_);refine bV (v:=.obj t6) Lk.t0 (by simp) rfl ?_;refine g0 ak (wc ?_);refine bv (Lk.n 1 rfl) fun U=>?_;refine gx 155420366 (fw hl3) ec (wg rfl ?_);refine eM (k:=k+3) (f:=249) (.inr (.inl rfl)) hl3 hu3 hby3 hh3 ⟨.refl,.inr (.inr ⟨rfl,fun t6=>?_⟩)⟩;refine g0 ak fun t8=>?_;refine g0 ak (wk ?_);refine bH (r:=true) (Lk.ts Lk.t0) Lk.t0 (fun s U=>rfl) ?_;refine g0 ak (fi 18 rfl ?_);exact hQ2 g3 h3 ((ht3.sz hs2).mono (Nat.le_succ n)) ht3.same ht3.bd.1 (by have:=ht3.bd;lia)
end
theorem ge{n:Nat}{P:Int->Prop}(h:∀ a:Fin n,P (a.val:Int)){v:Int}(h0:0<=v)(h1:v<n):P v:=by
 have:=h ⟨v.toNat,by lia⟩
 rwa [show ((v.toNat:Nat):Int)=v by lia] at this
theorem o5{v:Int}(h0:0<=v)(h1:v<256):cz (.int (Builtin.bitAnd ((v+256 * (255 - v)).fdiv (2 ^ 0)) 255))=some v.toNat.toUInt8/\cz (.int (Builtin.bitAnd ((v+256 * (255 - v)).fdiv (2 ^ 8)) 255))=some (255 - v).toNat.toUInt8/\(v+256 * (255 - v)).fdiv (2 ^ 16)=0/\
  Builtin.bitOr (Builtin.bitOr (0 * 2 ^ 8) (UInt8.toNat (255 - v).toNat.toUInt8:Int) * 2 ^ 8) (UInt8.toNat v.toNat.toUInt8:Int)=v+256 * (255 - v)/\sm (Builtin.bitOr (0 * 2 ^ 8) (UInt8.toNat (255 - v).toNat.toUInt8:Int))=true:=
 ge (n:=256) (P:=fun v=>cz (.int (Builtin.bitAnd ((v+256 * (255 - v)).fdiv (2 ^ 0)) 255))=some v.toNat.toUInt8/\cz (.int (Builtin.bitAnd ((v+256 * (255 - v)).fdiv (2 ^ 8)) 255))=some (255 - v).toNat.toUInt8/\(v+256 * (255 - v)).fdiv (2 ^ 16)=0/\
  Builtin.bitOr (Builtin.bitOr (0 * 2 ^ 8) (UInt8.toNat (255 - v).toNat.toUInt8:Int) * 2 ^ 8) (UInt8.toNat v.toNat.toUInt8:Int)=v+256 * (255 - v)/\sm (Builtin.bitOr (0 * 2 ^ 8) (UInt8.toNat (255 - v).toNat.toUInt8:Int))=true) (by decide +kernel) h0 h1
theorem sC{a s:Int}{b:Bool}(h0:0<=a)(h1:a<256)(h2:0<=s)(h3:s<8):Builtin.bitAnd a (Builtin.bitNot (1 * 2 ^ s.toNat))=Builtin.bitAnd a (255 - 1 * 2 ^ s.toNat)/\0<=Builtin.bitOr (Builtin.bitAnd a (255 - 1 * 2 ^ s.toNat)) (1 * 2 ^ s.toNat * (if b then 1 else 0))/\Builtin.bitOr (Builtin.bitAnd a (255 - 1 * 2 ^ s.toNat)) (1 * 2 ^ s.toNat * (if b then 1 else 0))<256/\
  Builtin.bitAnd ((Builtin.bitOr (Builtin.bitAnd a (255 - 1 * 2 ^ s.toNat)) (1 * 2 ^ s.toNat * (if b then 1 else 0))).fdiv (2 ^ s.toNat)) 1=if b then 1 else 0:=by
 refine ge (n:=256) (P:=fun a=>Builtin.bitAnd a (Builtin.bitNot (1 * 2 ^ s.toNat))=Builtin.bitAnd a (255 - 1 * 2 ^ s.toNat)/\0<=Builtin.bitOr (Builtin.bitAnd a (255 - 1 * 2 ^ s.toNat)) (1 * 2 ^ s.toNat * (if b then 1 else 0))/\Builtin.bitOr (Builtin.bitAnd a (255 - 1 * 2 ^ s.toNat)) (1 * 2 ^ s.toNat * (if b then 1 else 0))<256/\
  Builtin.bitAnd ((Builtin.bitOr (Builtin.bitAnd a (255 - 1 * 2 ^ s.toNat)) (1 * 2 ^ s.toNat * (if b then 1 else 0))).fdiv (2 ^ s.toNat)) 1=if b then 1 else 0) ?_ h0 h1
 refine ge (n:=8) (P:=fun s=>∀ a:Fin 256,Builtin.bitAnd a.val (Builtin.bitNot (1 * 2 ^ s.toNat))=Builtin.bitAnd a.val (255 - 1 * 2 ^ s.toNat)/\0<=Builtin.bitOr (Builtin.bitAnd a.val (255 - 1 * 2 ^ s.toNat)) (1 * 2 ^ s.toNat * (if b then 1 else 0))/\Builtin.bitOr (Builtin.bitAnd a.val (255 - 1 * 2 ^ s.toNat)) (1 * 2 ^ s.toNat * (if b then 1 else 0))<256/\
  Builtin.bitAnd ((Builtin.bitOr (Builtin.bitAnd a.val (255 - 1 * 2 ^ s.toNat)) (1 * 2 ^ s.toNat * (if b then 1 else 0))).fdiv (2 ^ s.toNat)) 1=if b then 1 else 0) ?_ h2 h3
 revert b
 decide +kernel
theorem q8{p s:Int}(h0:0<=p)(h1:p<4)(h2:0<=s)(h3:s<8):(8 * p+s).fdiv 8=p/\Builtin.bitAnd (8 * p+s) 7=s:=by
 refine ge (n:=4) (P:=fun p=>(8 * p+s).fdiv 8=p/\Builtin.bitAnd (8 * p+s) 7=s) ?_ h0 h1;refine ge (n:=8) (P:=fun s=>∀ p:Fin 4,(8 * (p.val:Int)+s).fdiv 8=p.val/\Builtin.bitAnd (8 * p.val+s) 7=s) ?_ h2 h3;decide +kernel
theorem il.set{l:List Int}{o:List UInt8}{p:Nat}{v:Int}(h:il l o)(hp:p<4)(h0:0<=v)(h1:v<256):il (l.set p v) (o.take p++[v.toNat.toUInt8]++o.drop (p+1))/\o.set p v.toNat.toUInt8=o.take p++[v.toNat.toUInt8]++o.drop (p+1):=by
 have e:o.set p v.toNat.toUInt8=o.take p++[v.toNat.toUInt8]++o.drop (p+1):=by
  rw [List.set_eq_take_append_cons_drop,if_pos (by refine ac (h.len ..) ?_;exact hp)];simp
 refine⟨(ao (by refine ac (List.length_set ..) ?_;exact h.1) (fun w hw=>?_) ?_),e⟩
 ·rcases List.mem_or_eq_of_mem_set hw with hw | rfl
  ·exact h.2.1 w hw
  ·exact⟨h0,h1⟩
 ·exact bo e (ac (List.map_set ..) (ac (h.2.2 ..) rfl))
theorem il.two{l:List Int}{o:List UInt8}{p:Nat}{v w:Int}(h:il l o)(hp:p<3)(h0:0<=v/\v<256)(h1:0<=w/\w<256):il (l.take p++[v,w]++l.drop (p+2)) (o.take p++[v.toNat.toUInt8,w.toNat.toUInt8]++o.drop (p+2)):=by
 refine(ao ?_ (fun x hx=>?_) ?_)
 ·have:=h.1
  simp;lia
 ·rcases List.mem_append.mp hx with hx | hx
  ·rcases List.mem_append.mp hx with hx | hx
   ·exact h.2.1 x (List.mem_of_mem_take hx)
   ·rcases List.mem_cons.mp hx with rfl | hx
    ·exact h0
    ·refine ac (List.mem_singleton.mp hx ..) ?_;exact h1
  ·exact h.2.1 x (List.mem_of_mem_drop hx)
 ·refine ac (h.2.2 ..) ?_;simp [List.map_take,List.map_drop]
theorem il.zero:il [0,0,0,0] [0,0,0,0]:=(ao rfl (by decide) rfl)
section
variable {E:Nat->G->Tm->Prop}{g g1:G}{L:Tm}{m:Vs}{Q:AV->G->Tm->Vs->Prop}{k n:Nat}{x:Int}{QB:Bool->G->Tm->Vs->Prop}
theorem je{α β:Type}[DecidableEq α]{x y:α}{l:List (α×β)}(h:(l.map (·.1)).Nodup):lk (rm l x) y=if x=y then none else lk l y:=by
 by_cases z:x=y
 ·refine ac (if_pos z ..) (bo z ?_);exact eS l h
 ·refine ac (if_neg z ..) ?_;exact ie z l
theorem Gd.cont(h:Gd e0 g){i:Nat}{u:Bu}{t:Nat}{l:List Int}{o:List UInt8}(hi:i∈g.c.row)(hu:lk g.b i=some u)(hn:u.num=x)(ho:il l o):Gd e0 { g with b:=st g.b i { u with oct:=o },w:={ g.w with oct:=st g.w.oct x (t,l) } }:=by
 refine aM (h.hp i u hi hu) fun q1 q2 q3=>?_;exact h.upB (e':=e0) (u':={ u with oct:=o }) (H:=g.w.held) (P:=g.w.pins) (σ:=st g.w.oct x (t,l)) (K:=g.w.kept) (Ol:=g.w.old) (m1:=g.w.met) (h1:=g.c.hits) hi hu rfl (fun y hy=>(ao rfl rfl (by rw [hn] at hy;rw [bw,if_neg (Ne.symm hy)]))) ⟨q1,q2,t,l,by rw [hn,bw,if_pos rfl],ho⟩ h.out h.nn h.kp1 h.kp2 h.kpk (fun q=>q) h.old
theorem ky{α:Type}{r:St->Res α}{Q:α->G->Tm->Vs->Prop}{L':Tm}(h:Sfx L L')(hw:wp r Q E g L m):wp r Q E g L' m:=ov (fun D=>h.J) hw
def Bad(k:Nat)(g:G)(L:Tm)(t:Nat):Prop:=∀ (Q:AV->G->Tm->Vs->Prop) (E:Nat->G->Tm->Prop) (m:Vs),(∀ t',Q (.obj t') g ((t',.tu [.str .argument,.none])::L) m)->wp (lvl aG (k+8) (.base 427) [.obj t]) Q E g L m
theorem iC{r:St->Res Flow}{N:G->Tm->Vs->Prop}{R:AV->G->Tm->Vs->Prop}(h:wpS r (fun g' L' m'=>∃ L'',Sfx L'' L'/\N g' L'' m') R E g L m):wpS r N R E g L m:=fun s hs hm=>by
 have h1:=h s hs hm
 generalize r s=q at h1 ⊢
 induction q with
 | bad=>exact h1
 | exc c s'=>exact h1
 | ok fl s'=>induction fl with
  | next=>obtain ⟨g',L',h2,L'',h3,h4⟩:=h1;exact(aw g' L'' (h2.sfx h3) h4)
  | ret v=>exact h1
theorem va{K:Sy->Out}(h:∀ g1,g1=g->Go g1 L m K):Go g L m K:=h g rfl
theorem wY{g:G}{L:Tm}{cl:List AV}{k:Nat}(hcl:cl.length=12)(hc:∀ j,j<12->∃ t,cl[j]?=some (.obj t)/\∀ tl o,Bad k g ((tl,o)::L) t)(w:Int):∃ t,(dR (w.fmod 12) cl.length).bind (cl[·]?)=some (.obj t)/\∀ tl o,Bad k g ((tl,o)::L) t:=by
 have a:=Int.fmod_nonneg_of_pos w (show (0:Int)<12 by decide)
 have b:=Int.fmod_lt_of_pos w (show (0:Int)<12 by decide)
 refine af (hc (w.fmod 12).toNat (by omega)) fun t h2 h3=>?_;refine(ag t ?_ h3);refine ac hcl (ac (eF a (by omega) ..) ?_);exact h2
theorem up{cl:List AV}{calls:Nat}{w:Int}(h1:Lk g L calls (.li cl))(hcl:cl.length=12)(hc:∀ j,j<12->∃ t,cl[j]?=some (.obj t)/\∀ tl o,Bad k g ((tl,o)::L) t)(h:∀ r,(∀ tl o,Bad k g ((tl,o)::L) r)->(∀ j,j<12->∃ t,cl[j]?=some (.obj t)/\∀ tl o,Bad k g ((tl,o)::L) t)->Q (.obj r) g L m):wp (getI (.obj calls) (.int (w.fmod 12))) Q E g L m:=by
 refine af (wY hcl hc w) fun r e B=>?_;exact bV h1 (by lia) e (h r B hc)
theorem vg{N:G->Tm->Vs->Prop}{R:AV->G->Tm->Vs->Prop}{cells:List (Nm×Nat)}{t0 i jb tab f tl r1 r2:Nat}{l:List Int}{u:Bu}(hl:g.live=true)(hown:lk m .own=some (.obj t0))(B1:∀ tl o,Bad k g ((tl,o)::L) r1)(B2:∀ tl o,Bad k g ((tl,o)::L) r2)
  (cb:lk cells .buffer=some jb)(hb:Lk g L jb (.ce (some (.obj i))))(hu:lk g.b i=some u)(hoc:lk g.w.oct x=some (t0,l))(hok:il l u.oct)(hN:∀ m',lk m' .own=some (.obj t0)->N g L m') :
  wpS (loopK (.list tl) (fun vs s=>(dT (aL (lvl aG (k+8)) (f+10)) ⟨cells,tab⟩ (.one (.loc .call)) vs s).bind fun U s=>(aL (lvl aG (k+8)) (f+10)).S ⟨cells,tab⟩ [.ite (.bop .Or [.cmp (.call (.glo .law_met) [.loc .call]) [(.NotEq,(.tup [.str .argument,.none]))],.cmp (.mcall (.cel .buffer) .octets []) [(.NotEq,(.call (.glo .bytes) [.loc .own]))]]) [.ret (.bool false)] []] s)) N R E g ((tl,.li [.obj r1,.obj r2])::L) m:=by
 have hu4:=hok.len
 have hl4:=hok.1
 refine iC ?_;refine cX (l:=[.obj r1,.obj r2]) (fun j g' L' m'=>g'=g/\Sfx ((tl,.li [.obj r1,.obj r2])::L) L'/\lk m' .own=some (.obj t0)) (fun U g' L' m' hI D hD=>?_) (fun j w g' L' m' hj hI=>?_) (fun g' L' m' hI=>?_) (ao rfl .refl hown) (Nat.lt_of_sub_pos (by decide:0<100 - 2))
 ·refine aM hI fun z0 hS U=>?_;clear hI;subst z0;exact Lk.t0 D (hS.J hD)
 ·refine aM hI fun z0 hS hm'=>?_;clear hI;subst z0;refine ky hS ?_;have hB:∃ r,w=.obj r/\∀ tl o,Bad k g' ((tl,o)::L) r:=by
   match j,hj with
   | 0,hj=>exact(ag r1 (by simpa using hj.symm) B1)
   | 1,hj=>exact(ag r2 (by simpa using hj.symm) B2)
   | j+2,hj=>simp at hj
  obtain ⟨r,rfl,hB⟩:=hB
  refine eR (tO (rp (xy (lZ (uy (jO (nB rfl (d0 (k_ on (jf ?_))))))))));refine hB _ _ _ _ _ fun t'=>qh (wR (d0 (ul (d0 (uZ (jf ⟨by simp,fun t2=>?_⟩))))));refine sV (r:=true) (Lk.ts Lk.t0) Lk.t0 (fun s U=>rfl) ⟨fun U=>?_,nofun⟩;refine lZ (uy (sY (nA cb (Lk.ts (Lk.ts (Lk.ts hb))) (us (Lk.bI hl hu) (Lk.bD hl hu) rfl rfl (jf ?_)))));refine dU (k:=k+5) hl hu (by lia) (qh (jO (nB rfl (d0 (k_ (xB (by decide) hm') (jf ?_))))));refine bG (Lk.oc hl hoc) (by refine ac (List.length_map ..) ?_;lia) (dJ hok) (sQ ?_);refine ac (decide_eq_true rfl ..) ?_;exact⟨fun U=>ed ⟨nofun,fun U=>rq (rq (ao rfl (.cons (.cons .refl)) (ac (bw ..) (ac (if_neg (by decide) ..) hm'))))⟩,nofun⟩
 ·refine aM hI fun z0 hS hm'=>?_;clear hI;subst z0;have hS':Sfx L L':=by
   have:∀ {A B:Tm} {p:Nat×AO},Sfx (p::A) B->Sfx A B:=fun {A B p} h=>by
    induction h with
    | refl=>exact .cons .refl
    | cons _ ih=>exact .cons ih
   exact this hS
  exact(ag L hS' (hN m' hm'))
theorem fg{α:Type}{r:St->Res α}{Q:α->G->Tm->Vs->Prop}{E:Nat->G->Tm->Prop}{g:G}{L L':Tm}{m:Vs}(h:L'.Sublist L)(w:wp r Q E g L' m):wp r Q E g L m:=fun s hs hm=>w s ⟨hs.1.perm (fun U hp=>h.subset hp) ((h.map _).nodup hs.1.nd),hs.2⟩ hm
theorem v5{i0:Nat}(h:Gd e0 g)(hs:Sz n g)(hn:n<60)(hk:0<=g.p.k/\g.p.k<800000)(hxk:lk g.w.kept x=some i0)(hQ:∀ g',Gd e0 g'->Sz (n+1) g'->Same g g'->0<=g'.p.k->g'.p.k<=g.p.k+8->Q (.bool true) g' L m):wp (lvl aG (k+9) (.base 460) [.obj g.p.i,.obj g.c.i,.obj g.w.i,.int x]) Q E g L m:=by
 have hl:=h.live
 have kf:=h.kfz
 refine aM (h.kp1 x i0 hxk) fun a1 a2 a3=>?_;refine aj (h.bs i0 a1) fun u hu=>?_;have hun:u.num=x:=by rw [<- bX hu];exact a2
 refine cG (h.hp i0 u a1 hu) fun q1 q2 t0 l0 q3 q4=>?_;rw [hun] at q3;refine eK ym rfl (cp_cons fun j1=>cp_cons fun j2=>cp_cons fun j3=>cp_cons fun j4=>c_ ?_);refine gx 323 (fw hl) aX (wk ?_);refine cy (v:=.obj i0) (Lk.wk hl kf) (by rw [bp,hxk];rfl) ?_;refine gx 2 (fw hl) bT (wk ?_);refine cy (v:=.obj t0) (Lk.wo hl) (by rw [bp,q3];rfl) ?_;refine g0 ak fun t1=>?_;refine gx 8640 .nil aX (wc ?_);refine c0 hl rfl (by decide) ⟨hk.1,by lia⟩ fun way g1 ht1 hw0 hw6=>?_;refine g0 ak (wc ?_);refine c0 (ht1.gd h).live ht1.same.p (by decide) (by have:=ht1.bd;lia) fun p g2 ht2 hp0 hp4=>?_;have ht:=ht1.trans ht2;refine g0 ak (wc ?_);refine c0 (ht2.gd (ht1.gd h)).live ht.same.p (by decide) (by have:=ht.bd;lia) fun v g3 ht3 hv0 hv1=>?_;have ht:=ht.trans ht3;clear ht1 ht2 ht3 hk;refine g0 ak fun t2=>?_;refine gx 1089984 .nil cR (an ?_);rw [<- ht.same.w,<- ht.same.c,<- ht.same.p];have h3:=ht.gd h;have hs3:=ht.sz hs;have hb3:=ht.bd;have hQ3:∀ g',Gd e0 g'->Sz (n+1) g'->Same g3 g'->0<=g'.p.k->g'.p.k<=g3.p.k+5->Q (.bool true) g' L m:=fun g' a b c d e=>hQ g' a b (ht.same.trans c) d (by lia);have b1:i0∈g3.c.row/\lk g3.b i0=some u/\lk g3.w.oct x=some (t0,l0)/\lk g3.w.kept x=some i0/\u.hol=valI g3.w.held x/\u.pin=valI g3.w.pins x/\valI g3.w.held x≠0:=by
  refine aS ht fun P U U U z4=>?_;clear ht;subst z4;exact(nf a1 hu q3 hxk (by rw [q1,hun];simp [e0]) (by rw [q2,hun]) a3)
 clear hQ ht a1 a2 a3 hu q1 q2 q3 hxk hl kf hs h;refine na b1 fun hir hu hoc hxk hhol hpin hh0=>?_;clear b1;have hl3:=h3.live;have kf3:=h3.kfz;have hu4:=q4.len;have hl4:=q4.1;have hby:=h3.by1 i0 hir;rw [bX hu,hun] at hby;have hxr:x∈g3.w.row:=by have:=h3.num hir;rwa [bX hu,hun] at this
 have hx:=h3.rng x hxr
 have hr4:=h3.r90
 have hcl:=h3.clen
 have hnn:=(h3.nn x).1
 have hbl:=h3.bl
 have hdl:=h3.dsl
 refine⟨fun hc=>?_,fun hc0=>?_⟩
 ·refine b6 (h3.buf hxr) fun i' u' r c1 c2 c3 c4 c5 c6=>?_;have ei:i'=i0:=by rw [hby] at c1;exact(Option.some.inj c1).symm
  subst ei;rw [hu] at c2;obtain rfl:=Option.some.inj c2;have hkh:lk g3.w.held x=some (valI g3.w.held x):=by
   unfold valI at hh0 ⊢;induction e:lk g3.w.held x with
   | none=>rw [e] at hh0;exact absurd rfl hh0
   | some w=>rfl
  have hup:∀ (K:List (Int×Nat)) (Ol:List Nat),(∀ y j,lk K y=some j->j∈g3.c.row/\aQ g3.b j=y/\valI (st g3.w.held x (valI g3.w.held x - 1)) y≠0)->(∀ y,valI (st g3.w.held x (valI g3.w.held x - 1)) y≠0->(lk K y).isSome=true)->(K.map (·.1)).Nodup->(∀ j∈Ol,∃ u,lk g3.b j=some u)->Gd e0 { g3 with b:=st g3.b i' { u with hol:=u.hol - 1 },w:={ g3.w with held:=st g3.w.held x (valI g3.w.held x - 1),pins:=g3.w.pins,oct:=g3.w.oct,kept:=K,old:=Ol,met:=g3.w.met },c:={ g3.c with hits:=g3.c.hits } }:=fun K Ol k1 k2 k3 k4=>
   h3.upB (e':=e0) (u':={ u with hol:=u.hol - 1 }) hir hu rfl (fun y hy=>(ao (by rw [hun] at hy;rw [bj,if_neg (Ne.symm hy)]) rfl rfl)) ⟨by dsimp only;rw [hun,bj,if_pos rfl,hhol];simp [e0],by rw [hun];exact hpin,t0,l0,by rw [hun];exact hoc,q4⟩ (fun y hy=>⟨by rw [bj,if_neg (fun z:x=y=>hy (z▸hxr))];exact(h3.out y hy).1,(h3.out y hy).2⟩) (fun y=>⟨by
    rw [bj];split
    ·lia
    ·exact(h3.nn y).1,(h3.nn y).2⟩) k1 k2 k3 (fun q=>q) k4
  have hszh:(st g3.w.held x (valI g3.w.held x - 1)).length<=n+1:=by
   have:=dG (x:=x) (v:=valI g3.w.held x - 1) g3.w.held
   have:=hs3.held;lia
  refine gx 2 (fw hl3) bT (wk ?_);refine fg (.cons _ (.cons _ (.refl _))) ?_;refine cy (v:=.int (valI g3.w.held x)) (Lk.wh hl3) (by rw [bp,hkh];rfl) ?_;refine gx 1 .nil ak (wk ?_);refine ca (Lk.wh hl3) (by rw [bh];have:=hs3.held;lia) (Up.wh hl3 (st g3.w.held x (valI g3.w.held x - 1)) (df _ _ _ _)) ?_;refine gx 2 (fw hl3) bT (wk ?_);refine cy (v:=.int (valI g3.w.held x - 1)) (Lk.wh (by exact hl3)) (by rw [bp];dsimp only;rw [bw,if_pos rfl];rfl) ?_;refine g0 ak (an ?_);refine⟨fun hd=>?_,fun hd=>?_⟩
  ·have hz:=of_decide_eq_true hd
   refine g0 ak (wc ?_);refine mr (g:={ g3 with w:={ g3.w with held:=st g3.w.held x (valI g3.w.held x - 1) } }) (p:=r) (by exact hl3) (by exact c6) (bC h3.nd c6) (by show g3.w.row.length<=900;lia) ?_;refine gx 35685378 (.app (fw hl3) (fk hl3 kf3)) ec (wk ?_);refine uN (v:=.obj i') (Lk.wk (by exact hl3) (by exact kf3)) (show (aZ AV.obj g3.w.kept).length<=1000 by rw [bh];have:=hs3.kept;lia) (show lk (aZ AV.obj g3.w.kept) x=some (.obj i') by rw [bp,hxk];rfl) (Up.wk (by exact hl3) (rm g3.w.kept x) (ka _ _ _)) ?_;refine g0 ak (wk ?_);refine cF (Lk.ol (by exact hl3)) (by rw [List.length_map];have:=hs3.old;show g3.w.old.length<1000;lia) (Up.ol (by exact hl3) (g3.w.old++[i']) (by simp)) ?_;refine g0 ak fun t3=>?_;refine g0 ak (wc ?_);refine bv Lk.t0 fun U=>?_;refine gx 140740292 (fw hl3) ec (wg rfl ?_);refine eg (g:={ g3 with w:={ g3.w with held:=st g3.w.held x (valI g3.w.held x - 1),row:=g3.w.row.eraseIdx r++[x],kept:=rm g3.w.kept x,kfz:=false,old:=g3.w.old++[i'] } }) (p:=r) (by exact hl3) (by exact hu) (by rw [hun];exact hby) (by lia) (by exact h3.bs) (by exact c5) (bC h3.cnd c5) (by show g3.c.row.length<=900;lia) (fun hne=>absurd (by lia) hne) (fun U=>?_);refine g0 ak (fi 0 rfl ?_);intro t2;refine g0 ak fun t4=>?_;refine g0 ak (wk ?_);refine bH (r:=true) (Lk.ts Lk.t0) Lk.t0 (fun s U=>rfl) ?_;refine g0 ak (fi 7 rfl ?_);have hgd:=((hup (rm g3.w.kept x) (g3.w.old++[i']) (fun y j hj=>?_) (fun y hy=>?_) (nR _ h3.kpk) (fun j hj=>?_)).mv (i:=i') (p:=r) (x:=x) (by exact c5) (by rw [gN hu (by rfl),bX hu,hun])).unfz
   ·refine hQ3 _ hgd { hs3.mono (Nat.le_succ n) with held:=hszh,kept:=?_,old:=?_ } ⟨rfl,rfl,rfl,rfl,rfl⟩ hb3.1 (by show g3.p.k<=_;lia)
    ·have:=len_rm (x:=x) g3.w.kept
     have:=hs3.kept
     show (rm g3.w.kept x).length<=n+1;lia
    ·have:=hs3.old
     show (g3.w.old++[i']).length<=n+1;rw [List.length_append,List.length_singleton];lia
   ·rw [je h3.kpk] at hj;by_cases z:x=y
    ·rw [if_pos z] at hj;exact aA hj
    ·rw [if_neg z] at hj;rw [bj,if_neg z];exact h3.kp1 y j hj
   ·rw [bj] at hy;rw [je h3.kpk];by_cases z:x=y
    ·rw [if_pos z] at hy;exact absurd hz hy
    ·rw [if_neg z] at hy ⊢;exact h3.kp2 y hy
   ·rcases List.mem_append.mp hj with hj | hj
    ·exact h3.old j hj
    ·rw [List.mem_singleton.mp hj];exact⟨u,hu⟩
  ·have hz:=of_decide_eq_false hd
   refine g0 ak fun t3=>?_;refine g0 ak (wc ?_);refine bv Lk.t0 fun U=>?_;refine gx 140740292 (fw hl3) ec (wg rfl ?_);refine eg (g:={ g3 with w:={ g3.w with held:=st g3.w.held x (valI g3.w.held x - 1) } }) (p:=r) (by exact hl3) (by exact hu) (by rw [hun];exact hby) (by lia) (by exact h3.bs) (by exact c5) (bC h3.cnd c5) (by show g3.c.row.length<=900;lia) (fun U=>?_) (fun hne=>absurd hne (by lia));refine g0 ak (fi 0 rfl ?_);intro t2;refine g0 ak fun t4=>?_;refine g0 ak (wk ?_);refine bH (r:=true) (Lk.ts Lk.t0) Lk.t0 (fun s U=>rfl) ?_;refine g0 ak (fi 7 rfl ?_);refine hQ3 _ (hup g3.w.kept g3.w.old (fun y j hj=>?_) (fun y hy=>?_) h3.kpk h3.old) { hs3.mono (Nat.le_succ n) with held:=hszh } ⟨rfl,rfl,rfl,rfl,rfl⟩ hb3.1 (by show g3.p.k<=_;lia)
   ·refine aM (h3.kp1 y j hj) fun d1 d2 d3=>?_;refine(ao d1 d2 ?_);rw [bj];split
    ·exact hz
    ·exact d3
   ·rw [bj] at hy;by_cases z:x=y
    ·rw [<- z,hxk];rfl
    ·rw [if_neg z] at hy;exact h3.kp2 y hy
 refine g0 ak (an ?_);refine⟨fun hc=>?_,fun hc1=>?_⟩
 ·refine g0 ak (wc ?_);refine fg (.cons _ (.cons _ (.refl _))) ?_;refine ee (Lk.oc hl3 hoc) (by rw [List.length_map];lia) fun t1=>?_;refine gx 2 (fw hl3) bT (wk ?_);refine er (k':=x.toNat) (Lk.wd hl3) (by rw [List.length_map];lia) hx.1 (eF hx.1 (by rw [List.length_map];lia)) (Up.newDs (A:=[]) (j:=x.toNat) hl3 l0 (by lia) rfl rfl) ?_;refine gx 130 (fw hl3) bT (wk ?_);refine dL (Lk.world (by exact hl3)) (by simp [ch]) (Up.written (by exact hl3) _) ?_;refine g0 ak fun t3=>?_;refine g0 ak (wc ?_);refine bv Lk.t0 fun U=>?_;refine gx 140740292 (fw hl3) ec (wg rfl ?_);refine nu (k:=k+1) (g:={ g3 with w:={ g3.w with ds:=g3.w.ds.set x.toNat (t1,l0),written:=g3.w.written+1 } }) (by exact hl3) (by exact hu) (by rw [hun];exact hby) (by lia) hu4 (by rw [hun];exact hx) (by have:=hs3.lat;dsimp only;lia) (by have:=hs3.unf;dsimp only;lia) fun t3=>?_;refine g0 ak (fi 0 rfl ?_);intro t4;refine g0 ak fun t5=>?_;refine g0 ak (wk ?_);refine bH (r:=true) (Lk.ts Lk.t0) Lk.t0 (fun s U=>rfl) ?_;refine g0 ak (fi 7 rfl ?_);rw [hun];refine hQ3 _ (h3.wrt (x:=x) (t:=t1) (l:=l0) (o:=u.oct) (un:=g3.k.unf++[.obj t3]) (wr:=g3.k.writes+1) hx q4) { hs3.mono (Nat.le_succ n) with lat:=?_,unf:=?_ } ⟨rfl,rfl,rfl,rfl,rfl⟩ hb3.1 (by show g3.p.k<=_;lia)
  ·have:=dG (x:=x) (v:=u.oct) g3.k.lat
   have:=hs3.lat
   show (st g3.k.lat x u.oct).length<=n+1;lia
  ·have:=hs3.unf
   show (g3.k.unf++[AV.obj t3]).length<=n+1;rw [List.length_append,List.length_singleton];lia
 refine g0 ak (an ?_);refine⟨fun hc=>?_,fun hc2=>?_⟩
 ·refine gx 898 (fw hl3) aX (wk ?_);refine fg (.cons _ (.cons _ (.refl _))) ?_;refine g8 (Lk.wp hl3) ?_;refine gx 257 (fw hl3) bT (wk ?_);refine ca (Lk.wp hl3) (by rw [bh];have:=hs3.pins;lia) (Up.wp hl3 (st g3.w.pins x (valI g3.w.pins x+1)) (df _ _ _ _)) ?_;refine g0 ak fun t3=>?_;refine g0 ak (wc ?_);refine bv Lk.t0 fun U=>?_;refine gx 140740292 (fw hl3) ec (wg rfl ?_);refine wN (g:={ g3 with w:={ g3.w with pins:=st g3.w.pins x (valI g3.w.pins x+1) } }) (by exact hl3) (by exact hu) (by rw [hun];exact hby) (by lia) ?_;refine g0 ak (fi 0 rfl ?_);intro t4;refine g0 ak fun t5=>?_;refine g0 ak (wk ?_);refine bH (r:=true) (Lk.ts Lk.t0) Lk.t0 (fun s U=>rfl) ?_;refine g0 ak (fi 7 rfl ?_);have hpn:=(h3.nn x).2;refine hQ3 _ (h3.upB (e':=e0) (u':={ u with pin:=u.pin+1 }) (H:=g3.w.held) (P:=st g3.w.pins x (valI g3.w.pins x+1)) (σ:=g3.w.oct) (K:=g3.w.kept) (Ol:=g3.w.old) (m1:=g3.w.met) (h1:=g3.c.hits) hir hu rfl (fun y hy=>(ao rfl (by rw [hun] at hy;rw [bj,if_neg (Ne.symm hy)]) rfl)) ⟨by dsimp only;rw [hun,hhol];simp [e0],by dsimp only;rw [hun,bj,if_pos rfl,hpin],t0,l0,by rw [hun];exact hoc,q4⟩ (fun y hy=>⟨(h3.out y hy).1,by rw [bj,if_neg (fun z:x=y=>hy (z▸hxr))];exact(h3.out y hy).2⟩) (fun y=>⟨(h3.nn y).1,by
    rw [bj];split
    ·lia
    ·exact(h3.nn y).2⟩) h3.kp1 h3.kp2 h3.kpk (fun q=>q) h3.old) { hs3.mono (Nat.le_succ n) with pins:=?_ } ⟨rfl,rfl,rfl,rfl,rfl⟩ hb3.1 (by show g3.p.k<=_;lia)
  have:=dG (x:=x) (v:=valI g3.w.pins x+1) g3.w.pins
  have:=hs3.pins
  show (st g3.w.pins x (valI g3.w.pins x+1)).length<=n+1;lia
 refine g0 ak (an ?_);refine⟨fun hc=>?_,fun hc3=>?_⟩
 ·refine gx 8642 .nil aX (wk ?_);have hset:=q4.set (p:=p.toNat) (v:=v) (by lia) hv0 hv1;refine er (k':=p.toNat) (Lk.oc hl3 hoc) (by rw [List.length_map];lia) hp0 (eF hp0 (by rw [List.length_map];lia)) (Up.oc hl3 hoc (l0.set p.toNat v) (by rw [List.map_set])) ?_;refine g0 ak fun t3=>?_;refine g0 ak (wc ?_);refine fg (.cons₂ _ (.cons _ (.cons _ (.refl _)))) ?_;refine bv Lk.t0 fun U=>?_;refine gx 17586749635 (fb hl3 hu) wj fun t4=>?_;refine g0 ak (wg rfl ?_);refine bG (b:=[v.toNat.toUInt8]) Lk.t0 (by simp) (ik (l:=[v]) (fun w hw=>by rw [List.mem_singleton.mp hw];exact⟨hv0,hv1⟩)) ?_;refine g0 ak (wg rfl ?_);refine qc (k:=k+2) (u:=u) (by exact hl3) (by exact hu) (by lia) (by simp) (fun U=>?_) (fun hz=>absurd ⟨hp0,by simp;lia⟩ hz);refine g0 ak (fi 1 rfl ?_);intro t4;refine g0 ak fun t5=>?_;refine g0 ak (wk ?_);refine bH (r:=true) (Lk.ts Lk.t0) Lk.t0 (fun s U=>rfl) ?_;refine g0 ak (fi 7 rfl ?_);rw [show (p+(([v.toNat.toUInt8]:List UInt8).length:Int)).toNat=p.toNat+1 by simp;lia];refine hQ3 _ (h3.cont (t:=t0) hir hu hun hset.1) { hs3.mono (Nat.le_succ n) with oct:=?_ } ⟨rfl,rfl,rfl,rfl,rfl⟩ hb3.1 (by show g3.p.k<=_;lia);have:=hs3.oct;show (st g3.w.oct x (t0,_)).length<=n+1;rw [du hoc];lia
 refine g0 ak (an ?_);refine⟨fun hc=>?_,fun hc4=>?_⟩
 ·have hpd:0<=p.fdiv 2/\p.fdiv 2<2:=by
   have:p=0∨p=1∨p=2∨p=3:=by lia
   rcases this with rfl | rfl | rfl | rfl <;> decide
  refine dz (o5 hv0 hv1) fun e1 e2 e3 e4 e5=>?_;refine gx 52215988419 .nil ec fun t3=>?_;refine gx 25156 .nil aX (wk ?_);generalize p.fdiv 2=r at hpd ⊢;have htwo:=q4.two (p:=r.toNat) (v:=v) (w:=255 - v) (by lia) ⟨hv0,hv1⟩ ⟨by lia,by lia⟩;refine n_ (x:=r.toNat) (y:=r.toNat+2) (Lk.oc hl3 hoc) (by rw [List.length_map];lia) (by
   show (if 0<=r/\r<=r+2/\r+2<=((l0.map AV.int).length:Int) then some (r.toNat,(r+2).toNat) else none)=_;rw [List.length_map,if_pos (by lia)]
   congr 2;lia) Lk.t0 (by simp) (fun D hD hz=>hD.sep (t3,_) (List.mem_cons_self ..) (.oc x) (.li (l0.map .int)) (by rw [hz];exact b_ hl3 (lW hoc))) (Up.oc hl3 hoc (l0.take r.toNat++[v,255 - v]++l0.drop (r.toNat+2)) (by simp [List.map_take,List.map_drop])) ?_
  refine gx 72627262268145861 (fb hl3 hu) wH (wc ?_);refine iH (k:=k+3) (u:=u) (by exact hl3) (by exact hu) (by lia) ⟨hpd.1,by lia⟩ ⟨by lia,e3⟩ e1 e2 ?_;rw [show (r+2).toNat=r.toNat+2 by lia];have hu2:lk (st g3.b i0 { u with oct:=u.oct.take r.toNat++[v.toNat.toUInt8,(255 - v).toNat.toUInt8]++u.oct.drop (r.toNat+2) }) i0=some { u with oct:=u.oct.take r.toNat++[v.toNat.toUInt8,(255 - v).toNat.toUInt8]++u.oct.drop (r.toNat+2) }:=bP;have hlen2:=htwo.len;have hoc2:lk (st g3.w.oct x (t0,l0.take r.toNat++[v,255 - v]++l0.drop (r.toNat+2))) x=some (t0,l0.take r.toNat++[v,255 - v]++l0.drop (r.toNat+2)):=bP;refine gx 142639301 (fb hl3 hu2) ec (wc ?_);refine oP (k:=k+3) (u:={ u with oct:=u.oct.take r.toNat++[v.toNat.toUInt8,(255 - v).toNat.toUInt8]++u.oct.drop (r.toNat+2) }) (b0:=v.toNat.toUInt8) (b1:=(255 - v).toNat.toUInt8) (by exact hl3) (by exact hu2) (by dsimp only;lia) ⟨hpd.1,by dsimp only;lia⟩ (by
   dsimp only;rw [show (r+2).toNat=r.toNat+2 by lia];have:u.oct.length=4:=hu4;rw [List.append_assoc,List.take_append,List.take_of_length_le (l:=u.oct.take r.toNat) (by simp;lia)];rw [List.drop_append,List.drop_of_length_le (l:=u.oct.take r.toNat) (by simp;lia)];have e:(u.oct.take r.toNat).length=r.toNat:=by simp;lia
   rw [e];simp) ?_ e5
  refine ac (e4 ..) ?_;refine gx 270557635 .nil aX (an ?_);refine⟨fun U=>?_,fun hd=>absurd rfl (of_decide_eq_false hd)⟩;refine gx 32965 (fb hl3 hu2) cR (wc ?_);refine hU (k:=k+4) (u:={ u with oct:=u.oct.take r.toNat++[v.toNat.toUInt8,(255 - v).toNat.toUInt8]++u.oct.drop (r.toNat+2) }) (by exact hl3) (by exact hu2) (by dsimp only;lia) (fun U=>?_) (fun hz=>absurd (ao (by decide) (by decide) (by dsimp only;lia)) hz);rw [show ((0:Int)+4).toNat=4 by decide,show (0:Int).toNat=0 by decide,List.drop_zero,List.take_of_length_le (by dsimp only;lia)];refine g0 ak (wc ?_);refine bG (Lk.oc (by exact hl3) (by exact hoc2)) (by rw [List.length_map,htwo.1];decide) (dJ htwo) ?_;refine g0 ak (fi 7 rfl ?_);rw [decide_eq_true rfl];refine hQ3 _ (h3.cont (t:=t0) hir hu hun htwo) { hs3.mono (Nat.le_succ n) with oct:=?_ } ⟨rfl,rfl,rfl,rfl,rfl⟩ hb3.1 (by show g3.p.k<=_;lia);have:=hs3.oct;show (st g3.w.oct x (t0,_)).length<=n+1;rw [du hoc];lia
 refine gx 194 .nil bT (wk ?_);have hs8:0<=v.fmod 8/\v.fmod 8<8:=⟨Int.fmod_nonneg_of_pos _ (by decide),Int.fmod_lt_of_pos _ (by decide)⟩;obtain ⟨bb,hbb⟩:∃ b:Bool,v.fdiv 128=if b then 1 else 0:=by
  have:=ge (n:=256) (P:=fun v=>∃ b:Bool,v.fdiv 128=if b then 1 else 0) (by decide +kernel) hv0 hv1
  exact this
 refine aq (q8 hp0 hp4 hs8.1 hs8.2) fun hq1 hq2=>?_;have hpl:p.toNat<l0.length:=by lia
 obtain ⟨a,ha⟩:∃ a,l0[p.toNat]?=some a:=⟨_,List.getElem?_eq_getElem hpl⟩
 have har:=q4.2.1 a (List.mem_of_getElem? ha)
 refine bK (sC (b:=bb) har.1 har.2 hs8.1 hs8.2) fun f1 f2 f3 f4=>?_;obtain ⟨s,hsv⟩:∃ s,s=v.fmod 8:=⟨_,rfl⟩;rw [<- hsv] at hs8 hq1 hq2 f1 f2 f3 f4 ⊢;refine a_ (z:=1 * 2 ^ s.toNat) (by show (if (sm 1&&decide (0<=s)&&decide (s<=1000))=true then _ else _)=_;rw [if_pos (by rw [decide_eq_true hs8.1,decide_eq_true (show s<=1000 by lia)];decide)]) ?_;refine gx 67 .nil bT (wk ?_);refine fg (.cons _ (.cons _ (.refl _))) ?_;refine bV (v:=.int a) (Lk.oc hl3 hoc) (by rw [List.length_map];lia) (by rw [List.length_map,eF hp0 (by lia)];show (l0.map AV.int)[p.toNat]?=_;rw [List.getElem?_map,ha];rfl) ?_;refine gx 3145857 .nil bT (wk ?_);rw [hbb];refine a_ (z:=1 * 2 ^ s.toNat * (if bb then 1 else 0)) (by show (if (sm _||sm _)=true then _ else _)=_;rw [if_pos (by induction bb <;> simp [sm])]) ?_;refine gx 8321 .nil bT (wk ?_);have hw:∃ w,w=Builtin.bitOr (Builtin.bitAnd a (255 - 1 * 2 ^ s.toNat)) (1 * 2 ^ s.toNat * (if bb then 1 else 0)):=⟨_,rfl⟩;refine aj hw fun w hw=>?_;rw [<- hw] at f2 f3 f4 ⊢;have hset:=q4.set (p:=p.toNat) (v:=w) (by lia) f2 f3;refine er (k':=p.toNat) (Lk.oc hl3 hoc) (by rw [List.length_map];lia) hp0 (eF hp0 (by rw [List.length_map];lia)) (Up.oc hl3 hoc (l0.set p.toNat w) (by rw [List.map_set])) ?_;refine gx 13835627602710134978 (fb hl3 hu) wH (wc ?_);rw [<- hsv];rw [hbb];have hub:u.oct[p.toNat]?=some a.toNat.toUInt8:=by rw [q4.2.2,List.getElem?_map,ha];rfl
 have hab:((a.toNat.toUInt8.toNat:Nat):Int)=a:=by rw [UInt8.toNat_ofNat'];lia
 refine oQ (k:=k+4) (u:=u) (b:=a.toNat.toUInt8) (b':=w.toNat.toUInt8) (by exact hl3) (by exact hu) (by lia) ⟨by rw [hq1];exact hp0,by rw [hq1];lia⟩ ⟨by rw [hq2];exact hs8.1,by rw [hq2];lia⟩ (by induction bb <;> decide) (by rw [hq1];exact hub) (by
  rw [hab,hq2,f1,<- hw];unfold cz;dsimp only;rw [if_pos ⟨f2,f3⟩]) ?_
 rw [hq1,hset.2];have hgA:=h3.cont (t:=t0) hir hu hun hset.1;have hszA:Sz (n+1) { g3 with b:=st g3.b i0 { u with oct:=u.oct.take p.toNat++[w.toNat.toUInt8]++u.oct.drop (p.toNat+1) },w:={ g3.w with oct:=st g3.w.oct x (t0,l0.set p.toNat w) } }:={ hs3.mono (Nat.le_succ n) with oct:=by have:=hs3.oct;show (st g3.w.oct x (t0,_)).length<=n+1;rw [du hoc];lia };have huA:lk (st g3.b i0 { u with oct:=u.oct.take p.toNat++[w.toNat.toUInt8]++u.oct.drop (p.toNat+1) }) i0=some { u with oct:=u.oct.take p.toNat++[w.toNat.toUInt8]++u.oct.drop (p.toNat+1) }:=bP;have hocA:lk (st g3.w.oct x (t0,l0.set p.toNat w)) x=some (t0,l0.set p.toNat w):=bP;have hokA:=hset.1;have hwA:(u.oct.take p.toNat++[w.toNat.toUInt8]++u.oct.drop (p.toNat+1))[p.toNat]?=some w.toNat.toUInt8:=by
  rw [<- hset.2,List.getElem?_set_self (by lia)]
 refine va fun gA eA=>?_;rw [<- eA] at hgA hszA;have huA':lk gA.b i0=some { u with oct:=u.oct.take p.toNat++[w.toNat.toUInt8]++u.oct.drop (p.toNat+1) }:=by rw [eA];exact huA
 have hocA':lk gA.w.oct x=some (t0,l0.set p.toNat w):=by rw [eA];exact hocA
 have hsA:Same g3 gA:=by rw [eA];exact⟨rfl,rfl,rfl,rfl,rfl⟩
 have hpA:gA.p=g3.p:=by rw [eA]
 have hirA:i0∈gA.c.row:=by rw [eA];exact hir
 have hlA:=hgA.live
 generalize u.oct.take p.toNat++[w.toNat.toUInt8]++u.oct.drop (p.toNat+1)=oA at *
 generalize l0.set p.toNat w=lA at *
 clear eA huA hocA hset hab hub;have hoA4:=hokA.len;have hlA4:=hokA.1;refine gx 569547427971266 (fb hlA huA') wj (wc ?_);rw [<- hsv];refine pY (k:=k+4) (u:={ u with oct:=oA }) hlA huA' (by dsimp only;lia) (fun b U hb=>?_) (by rw [hq2];exact hs8.1) (fun hz=>absurd ⟨by rw [hq1];exact hp0,by rw [hq1];dsimp only;lia⟩ hz);rw [hq1] at hb;dsimp only at hb;rw [hwA] at hb;obtain rfl:=Option.some.inj hb;rw [hq2,show ((w.toNat.toUInt8.toNat:Nat):Int)=w by rw [UInt8.toNat_ofNat'];lia,f4];refine gx 192 .nil bT (an ?_);rw [hbb];refine⟨fun hd=>absurd hd (by rw [decide_eq_true rfl];decide),fun U=>?_⟩;refine g0 ak fun t3=>?_;refine g0 ak fun t4=>?_;refine g0 ak fun t5=>?_;refine g0 ak fun t6=>?_;refine g0 ak fun t7=>?_;refine g0 ak fun t8=>?_;refine g0 ak fun t9=>?_;refine g0 ak fun t10=>?_;refine g0 ak (wk ?_);refine me (Lk.n 4 rfl) Lk.t0 (by simp) fun tc=>?_;refine g0 ak fun t11=>?_;refine g0 ak fun t12=>?_;refine g0 ak fun t13=>?_;refine g0 ak fun t14=>?_;refine g0 ak (wk ?_);refine me (Lk.n 4 rfl) Lk.t0 (by simp) fun te=>?_;refine g0 ak fun t15=>?_;refine g0 ak fun t16=>?_;refine g0 ak fun t17=>?_;refine g0 ak fun t18=>?_;refine g0 ak (wk ?_);refine me (Lk.n 4 rfl) Lk.t0 (by simp) fun th=>?_;refine gx 211 .nil bT (wk ?_);refine up (k:=k) Lk.t0 rfl (fun j hj=>?_) fun r1 B1 hcc=>?_
 ·have:j=0∨j=1∨j=2∨j=3∨j=4∨j=5∨j=6∨j=7∨j=8∨j=9∨j=10∨j=11:=by lia
  rcases this with rfl | rfl | rfl | rfl | rfl | rfl | rfl | rfl | rfl | rfl | rfl | rfl
  all_goals refine(ag _ rfl (fun tl o Q E m hq=>?_))
  ·refine bv (Lk.n 19 rfl) fun U=>?_;refine gx 178290902 (fb hlA huA') ec (wg rfl ?_);refine dm (by decide) ?_;refine g0 ak (wg rfl ?_);exact qc (k:=k+2) hlA huA' (by dsimp only;lia) (by simp) (fun hz=>absurd hz (by dsimp only;rw [List.length_replicate];lia)) (fun U=>⟨.refl,.inr (.inr ⟨rfl,hq⟩)⟩)
  ·refine bv (Lk.n 18 rfl) fun U=>?_;refine gx 32982 (fb hlA huA') cR (wg rfl ?_);exact hU (k:=k+2) hlA huA' (by dsimp only;lia) (fun hz=>absurd hz (by dsimp only;lia)) (fun U=>⟨.refl,.inr (.inr ⟨rfl,hq⟩)⟩)
  ·refine bv (Lk.n 17 rfl) fun U=>?_;refine gx 32982 (fb hlA huA') cR (wg rfl ?_);refine dm (by decide) ?_;refine g0 ak (wg rfl ?_);exact mj (k:=k+3) hlA huA' (by dsimp only;lia) (by simp) (fun hz=>absurd hz (by dsimp only;rw [List.length_replicate,hoA4];decide)) (fun U=>⟨.refl,.inr (.inr ⟨rfl,hq⟩)⟩)
  ·refine bv (Lk.n 15 rfl) fun U=>?_;refine gx 32982 (fb hlA huA') cR (wg rfl ?_);exact dn (k:=k+1) (by decide) (by decide) ⟨.refl,.inr (.inr ⟨rfl,hq⟩)⟩
  ·refine bv (Lk.n 14 rfl) fun U=>?_;refine gx 32982 (fb hlA huA') cR (wg rfl ?_);exact pY (k:=k+2) hlA huA' (by dsimp only;lia) (fun b hz1 hz=>absurd hz (by first | exact absurd hz1 (by decide) | (rw [List.getElem?_eq_none (by dsimp only;rw [hoA4];decide)];nofun))) (by decide) (fun U=>⟨.refl,.inr (.inr ⟨rfl,hq⟩)⟩)
  ·refine bv (Lk.n 13 rfl) fun U=>?_;refine gx 32982 (fb hlA huA') cR (wg rfl ?_);exact jI (k:=k+1) hlA huA' (by dsimp only;lia) (by dsimp only;lia) ⟨.refl,.inr (.inr ⟨rfl,hq⟩)⟩
  ·refine bv (Lk.n 10 rfl) fun U=>?_;refine gx 32982 (fb hlA huA') cR (wg rfl ?_);refine dm (by decide) ?_;refine g0 ak (wg rfl ?_);exact mj (k:=k+3) hlA huA' (by dsimp only;lia) (by simp) (fun hz=>absurd hz (by dsimp only;rw [List.length_replicate,hoA4];decide)) (fun U=>⟨.refl,.inr (.inr ⟨rfl,hq⟩)⟩)
  ·refine bv (Lk.n 9 rfl) fun U=>?_;refine gx 32982 (fb hlA huA') cR (wg rfl ?_);exact hU (k:=k+2) hlA huA' (by dsimp only;lia) (fun hz=>absurd hz (by dsimp only;lia)) (fun U=>⟨.refl,.inr (.inr ⟨rfl,hq⟩)⟩)
  ·refine bv (Lk.n 8 rfl) fun U=>?_;refine gx 32982 (fb hlA huA') cR (wg rfl ?_);exact dn (k:=k+1) (by decide) (by decide) ⟨.refl,.inr (.inr ⟨rfl,hq⟩)⟩
  ·refine bv (Lk.n 5 rfl) fun U=>?_;refine gx 32982 (fb hlA huA') cR (wg rfl ?_);exact eE (k:=k+2) hlA huA' (by dsimp only;lia) (fun hz=>by dsimp only at hz;rw [hoA4] at hz;revert hz;decide) ⟨.refl,.inr (.inr ⟨rfl,hq⟩)⟩
  ·refine bv (Lk.n 4 rfl) fun U=>?_;refine gx 32982 (fb hlA huA') cR (wg rfl ?_);exact eE (k:=k+2) hlA huA' (by dsimp only;lia) (fun hz=>by dsimp only at hz;rw [hoA4] at hz;revert hz;decide) ⟨.refl,.inr (.inr ⟨rfl,hq⟩)⟩
  ·refine bv (Lk.n 3 rfl) fun U=>?_;refine gx 32982 (fb hlA huA') cR (wg rfl ?_);exact pY (k:=k+2) hlA huA' (by dsimp only;lia) (fun b hz1 hz=>absurd hz (by first | exact absurd hz1 (by decide) | (rw [List.getElem?_eq_none (by dsimp only;rw [hoA4];decide)];nofun))) (by decide) (fun U=>⟨.refl,.inr (.inr ⟨rfl,hq⟩)⟩)
 refine gx 16595 .nil bT (wk ?_);refine up (k:=k) Lk.t0 rfl hcc fun r2 B2 U=>?_;refine g0 ak fun t19=>?_;refine g0 ak (ex ?_);refine(ag _ (cM Lk.t0) ?_);refine vg (k:=k) (f:=49) (x:=x) (t0:=t0) (l:=lA) (i:=i0) (u:={ u with oct:=oA }) hlA rfl B1 B2 rfl (Lk.n 21 rfl) huA' hocA' hokA (fun m' hm'=>?_);refine gy 211 (.c hm' .n) .nil bT (an ?_);refine⟨fun U=>?_,fun U=>?_⟩
 ·refine gh (.c hm' .n) ak fun t20=>?_;refine gh (.c hm' .n) ak (wk ?_);refine n_ (x:=0) (y:=4) (Lk.oc hlA hocA') (by refine ac (List.length_map ..) ?_;lia) (ac (List.length_map ..) (ac (hlA4 ..) rfl)) Lk.t0 rfl (fun D hD hz=>hD.sep (t20,_) (List.mem_cons_self ..) (.oc x) (.li (lA.map .int)) (ac (hz ..) (b_ hlA (lW hocA')))) (Up.oc hlA hocA' [0,0,0,0] (by
   rw [List.take_zero,List.drop_of_length_le (by refine ac (List.length_map ..) ?_;lia)];rfl)) ?_
  refine gy 32982 (.c hm' .n) (fb hlA huA') cR (wc ?_);refine sI (k:=k+5) (u:={ u with oct:=oA }) (by exact hlA) (by exact huA') (by dsimp only;lia) ?_;refine gh (.c hm' .n) ak (fi 24 rfl ?_);refine ac (hoA4 ..) ?_;refine hQ3 _ (hgA.cont (u:={ u with oct:=oA }) (t:=t0) (l:=[0,0,0,0]) (o:=List.replicate 4 0) hirA huA' hun il.zero) { hszA with oct:=?_ } { hsA with } (ac (hpA ..) hb3.1) (by refine ac (hpA ..) ?_;lia);exact ac (du hocA' ..) hszA.oct
 ·refine gh (.c hm' .n) ak (fi 23 rfl ?_);exact hQ3 gA hgA hszA hsA (ac (hpA ..) hb3.1) (by refine ac (hpA ..) ?_;lia)
end
section
variable {E:Nat->G->Tm->Prop}{g g1:G}{L:Tm}{m:Vs}{Q:AV->G->Tm->Vs->Prop}{k n:Nat}{x:Int}{QB:Bool->G->Tm->Vs->Prop}
theorem Up.wk_back(hl:g.live=true)(kf:g.w.kfz=false):Up { g with w:={ g.w with kfz:=true } } L g.w.iwk (.idd (aZ .obj g.w.kept)) g L:=by
 have:=Up.wk (g:={ g with w:={ g.w with kfz:=true } }) (L:=L) hl g.w.kept rfl
 have e2:({ g with w:={ g.w with kfz:=false } }:G)=g:=by
  exact bo kf rfl
 rw [show ({ ({ g with w:={ g.w with kfz:=true } }:G) with w:={ ({ g with w:={ g.w with kfz:=true } }:G).w with kept:=g.w.kept,kfz:=false } }:G)=g from e2] at this;exact this
theorem kr(h:Gd e0 g)(hs:Sz n g)(hn:n<60)(hQ:Q (.bool true) g L m):wp (lvl aG (k+9) (.base 470) [.obj g.c.i,.obj g.w.i]) Q E g L m:=by
 have hl:=h.live
 have kf:=h.kfz
 have hr4:=h.r90
 have hcl:=h.clen
 refine eK yo rfl (cp_cons fun j=>c_ ?_);refine gx 231104 (fw hl) cR (wc ?_);refine sK hl (by lia) h.bs fun t1=>?_;refine bo (h.row ..) ?_;refine gx 321 (fw hl) aX (wk ?_);refine ny Lk.t0 (Lk.wr hl) ?_;refine gx 62023113344642 (fw hl) yM fun t2=>?_;refine gx 86441492802 (fw hl) wH fun t3=>?_;refine g0 ak (wk ?_);refine ac (h.cnt.1 ..) (ac (h.cnt.2.1 ..) (ac (h.cnt.2.2 ..) ?_));refine ny (a:=[g.w.met,g.w.seen,g.w.written]) (Lk.ts Lk.t0) Lk.t0 ?_;refine gx 5292290 (fw hl) ec (ex ?_);refine(ag _ (nJ (Lk.wk hl kf)) ?_);refine iC ?_;refine nM (Lk.wk hl kf) (Up.wkf hl) ?_;refine nP (l:=aZ .obj g.w.kept) (fun U g' L' m'=>g'={ g with w:={ g.w with kfz:=true } }/\Sfx ((t3,.li [.int g.w.met,.int g.w.seen,.int g.w.written])::(t2,.li [.int g.w.met,.int g.w.seen,.int g.w.written])::(t1,.li (g.w.row.map .int))::(j,.ce (some (.obj g.w.i)))::L) L'/\lk m' .cache=some (.obj g.c.i)) (fun U g' L' m' hI=>?_) (fun jj w g' L' m' hj hI=>?_) (fun g' L' m' hI=>?_) (ao rfl .refl rfl) (by rw [bh];have:=hs.kept;lia)
 ·refine aM hI fun z0 U U=>?_;clear hI;subst z0;exact Lk.wkf (by exact hl) rfl
 ·refine aM hI fun z0 hS hm=>?_;clear hI;subst z0;refine ky hS ?_;unfold aZ at hj;rw [List.getElem?_map] at hj;refine af (Option.map_eq_some_iff.mp hj) fun z hz z2=>?_;subst z2;have hlk:=fE h.kpk hz;refine aM (h.kp1 _ _ hlk) fun a1 a2 a3=>?_;refine aj (h.bs _ a1) fun u hu=>?_;refine cG (h.hp _ u a1 hu) fun U U t0 l0 q3 q4=>?_;have hun:u.num=z.1:=by refine bo (bX hu ..) ?_;exact a2
  rw [hun] at q3;have hu4:=q4.len;refine eR (kB ?_);refine gy 323 (.s (.c hm .n)) (fw hl) aX (wk ?_);refine le (v:=.obj z.2) (Lk.wkf (by exact hl) rfl) (by rw [bp];dsimp only;rw [hlk];rfl) ?_;refine gy 257 (.s (.c hm .n)) (fb hl hu) aX (wb ?_);refine dU (k:=k+5) (by exact hl) (by exact hu) (by lia) ?_;refine gy 323 (.s (.c hm .n)) (fw hl) aX (wk ?_);refine cy (v:=.obj t0) (Lk.wo (by exact hl)) (by rw [bp];dsimp only;rw [q3];rfl) ?_;refine gh (.s (.c hm .n)) ak (wb ?_);refine bG (Lk.oc (by exact hl) (by exact q3)) (by refine ac (List.length_map ..) (ac (q4.1 ..) ?_);decide) (dJ q4) ?_;refine gh (.s (.c hm .n)) ak (an ?_);refine ac (decide_eq_true rfl ..) ?_;refine⟨(fun h=>gw h),fun U=>?_⟩;refine gh (.s (.c hm .n)) ak (en ?_);exact(ao rfl .refl (by exact ac (bw ..) (ac (if_neg (by decide) ..) (hm))))
 ·refine aM hI fun z0 hS hm=>?_;clear hI;subst z0;refine⟨_,g,_,Lk.wkf (by exact hl) rfl,Up.wk_back hl kf,_,hS,?_⟩;refine gh (.c hm .n) ak (wk ?_);refine cT (pB ?_);refine gy 323 (.c hm .n) (fw hl) aX (en (ex ?_));refine(ax _ _ (cM (Lk.wr hl)) rfl (fun acc=>?_));refine nk (k:=k+6) hl hr4 rfl (fun o=>(Lk.n 4 rfl)) fun U=>?_;refine gy 1805 (.c hm .n) (fw hl) aX (wc ?_);refine jH (k:=k+5) hl (by lia) h.bs ?_;refine gy 324 (.s (.c hm .n)) (fw hl) aX (wc ?_);have hfl:=List.length_filter_le (fun x=>!frW g.w x) g.w.row;refine cw Lk.t0 (by refine ac (List.length_map ..) ?_;lia) ?_;refine gy 1 (.s (.c hm .n)) .nil ak (fi 5 rfl ?_);have e:(g.c.row.filter fun i=>!isFr g.b i).length=((g.w.row.filter fun x=>!frW g.w x).map AV.int).length:=by
   refine ac (List.length_map ..) (ac (h.row ..) (ac (List.filter_map ..) (ac (List.length_map ..) ?_)))
   congr 1
   exact List.filter_congr fun i hi=>by show _=(!frW g.w (aQ g.b i));exact ac (h.free hi ..) rfl
  refine ac e (ac (h.most.1 ..) (ac (decide_eq_true rfl ..) ?_));exact hQ
end
section
variable {E:Nat->G->Tm->Prop}{g g1:G}{L:Tm}{m:Vs}{Q:AV->G->Tm->Vs->Prop}{k n:Nat}{x:Int}{QB:Bool->G->Tm->Vs->Prop}
theorem J.claims{T L':Tm}{D:Hp}{pos:Ro->Option Nat}(h:J g T D)(h1:∀ r i o,Mine.Lake.own g1 r=some (i,o)->∃ p,pos r=some p/\T[p]?=some (i,o))(h2:∀ r r' p,pos r=some p->pos r'=some p->r=r')(h3:∀ q∈L',∃ p,T[p]?=some q/\∀ r,pos r≠some p)(h4:(L'.map (·.1)).Nodup):J g1 L' D:=by
 have key:∀ {p p' i:Nat} {o o':AO},T[p]?=some (i,o)->T[p']?=some (i,o')->p=p':=fun {p p' i o o'} e e'=>by
  have a:(T.map (·.1))[p]?=some i:=by refine ac (List.getElem?_map ..) (ac e ?_);rfl
  have b:(T.map (·.1))[p']?=some i:=by refine ac (List.getElem?_map ..) (ac e' ?_);rfl
  refine aj (List.getElem?_eq_some_iff.mp a) fun a1 a2=>?_;refine aj (List.getElem?_eq_some_iff.mp b) fun b1 b2=>?_;exact(List.getElem_inj h.nd).mp (a2.trans b2.symm)
 exact {
  own:=fun r i o e=>by
   refine af (h1 r i o e) fun p U e2=>?_;exact h.tmp _ (List.mem_of_getElem? e2)
  inj:=fun r r' i o o' e e'=>by
   refine af (h1 r i o e) fun p e1 e2=>?_;refine af (h1 r' i o' e') fun p' f1 f2=>?_;have:=key e2 f2;subst this;exact h2 r r' p e1 f1
  tmp:=fun q hq=>by
   refine af (h3 q hq) fun p e U=>?_;exact h.tmp _ (List.mem_of_getElem? e)
  nd:=h4
  sep:=fun q hq r o e=>by
   refine af (h1 r _ o e) fun p e1 e2=>?_;refine af (h3 q hq) fun p' f1 f2=>?_;have:=key e2 f1;exact f2 r (this▸e1) }
theorem ue{α:Type}{r:St->Res α}{Q:α->G->Tm->Vs->Prop}(h:wp r (fun v g' L' m'=>∃ g2 L2,(∀ D,J g' L' D->J g2 L2 D)/\Q v g2 L2 m') E g L m):wp r Q E g L m:=fun s hs hm=>by
 have h1:=h s hs hm
 generalize r s=res at h1 ⊢
 induction res with
 | ok v s'=>obtain ⟨g',L',h2,g2,L2,h3,h4⟩:=h1;exact(aw g2 L2 ⟨h3 _ h2.1,h2.2⟩ h4)
 | exc C s'=>exact h1
 | bad=>exact h1
theorem v7{i:Nat}{l:List Int}(h1:Lk g L i (.fl (l.map .int)))(hl:l.length<=63)(h:∀ (t:Nat) (w:Int),Q (.obj t) g ((t,.li [.int w,.int 0])::L) m):wp (lvl aG (k+3) (.base 413) [.obj i]) Q E g L m:=by
 refine ue ?_;refine nL yg rfl rfl (kB ?_);refine g0 ak (wk ?_);refine td (x:=0) (y:=min 24 (l.map AV.int).length) h1 (by refine ac (List.length_map ..) ?_;lia) rfl fun t1=>?_;refine ac (List.drop_zero ..) ?_;have hsl:∀ j v,((l.map AV.int).take (min 24 (l.map AV.int).length))[j]?=some v->∃ c:Int,v=AV.int c:=fun j v hv=>by
  have:=List.mem_of_getElem? hv
  refine af (List.mem_map.mp (List.mem_of_mem_take this)) fun c U z2=>?_;subst z2;exact⟨c,rfl⟩
 have hlen:((l.map AV.int).take (min 24 (l.map AV.int).length)).length<=24:=by refine ac (List.length_take ..) ?_;lia
 generalize (l.map AV.int).take (min 24 (l.map AV.int).length)=sl at hsl hlen
 refine g0 ak (ex ?_);refine(ag _ (cM Lk.t0) ?_);refine cX (l:=sl) (fun U g' L' m'=>g'=g/\L'=(t1,.li sl)::L/\∃ w,lk m' .whole=some (.int w)) (fun U g' L' m' hI=>?_) (fun j v g' L' m' hj hI=>?_) (fun g' L' m' hI=>?_) ⟨rfl,rfl,0,rfl⟩ (by lia)
 ·refine aM hI fun z0 z1 U=>?_;clear hI;subst z0;subst z1;exact Lk.t0
 ·refine oy hI fun z0 z1 w hw=>?_;clear hI;subst z0;subst z1;refine aj (hsl j v hj) fun c z1=>?_;subst z1;refine eR (kB ?_);refine gh (.s (.c hw .n)) ak (wk ?_);refine a_ (z:=w * 1019) (by show (if (sm w||sm 1019)=true then _ else _)=_;exact ac (show sm 1019=true by decide) (ac (Bool.or_true ..) (ac (if_pos rfl ..) rfl))) ?_;refine gy 16513 (.s (.c hw .n)) .nil ak (wk ?_);refine a_ (z:=10 ^ 90) rfl ?_;refine gy 1 (.s (.c hw .n)) .nil ak (en ?_);exact⟨rfl,rfl,_,by rw [bw,if_pos rfl]⟩
 ·refine oy hI fun z0 z1 w hw=>?_;clear hI;subst z0;subst z1;refine gh (.c hw .n) ak fun t2=>?_;refine gh (.c hw .n) ak (en (ex ?_));refine(aw g' ((t2,.li [.int w,.int 0])::L) (fun D hD=>hD.perm (fun p hp=>?_) ?_) (h t2 w))
  ·rcases List.mem_cons.mp hp with rfl | hp
   ·exact List.mem_cons_self ..
   ·exact List.mem_cons_of_mem _ (List.mem_cons_of_mem _ hp)
  ·have:=hD.nd
   simp only [List.map_cons,List.nodup_cons,List.mem_cons,not_or] at this ⊢;exact⟨this.1.2,this.2.2⟩
end
section
variable {E:Nat->G->Tm->Prop}{g g1:G}{L:Tm}{m:Vs}{Q:AV->G->Tm->Vs->Prop}{k n:Nat}{x:Int}{QB:Bool->G->Tm->Vs->Prop}{N:G->Tm->Vs->Prop}{R:AV->G->Tm->Vs->Prop}
theorem mem_ins{x y:Int}:∀ {l:List Int},y∈r6 x l->y=x∨y∈l:=by
 intro l_
 induction l_ with
 | nil=>
  intro h
  exact .inl (List.mem_singleton.mp h)
 | cons z l ih_=>
  intro h
  simp only [fA,dW] at h;split at h
  ·simpa using h
  ·rcases List.mem_cons.mp h with rfl | h
   ·exact .inr (List.mem_cons_self ..)
   ·rcases ih_ h with h | h
    ·exact .inl h
    ·exact .inr (List.mem_cons_of_mem _ h)
theorem o8{y:Int}:∀ {l:List Int},y∈sortI l->y∈l:=by
 intro l_
 induction l_ with
 | nil=>
  intro h
  exact h
 | cons x l ih_=>
  intro h
  rcases mem_ins h with rfl | h
  ·exact List.mem_cons_self ..
  ·exact List.mem_cons_of_mem _ (ih_ h)
theorem tx{x:Int}:∀ l:List Int,(r6 x l).length=l.length+1:=by
 intro l_
 induction l_ with
 | nil=>
  exact rfl
 | cons z l ih_=>
  simp only [fA,dW];split
  ·rfl
  ·simp only [List.length_cons];rw [ih_]
theorem ja:∀ l:List Int,(sortI l).length=l.length
 | []=>rfl
 | x::l=>by
  simp only [ph,mY,List.length_cons];rw [tx,ja l]
theorem oU(s:St):∀ (l:List (List UInt8)),eqs s (l.map .bytes) (l.map .bytes)=some true:=by
 intro l_
 induction l_ with
 | nil=>
  exact rfl
 | cons a l ih_=>
  show la (some (decide (a=a))) (eqs s (l.map AV.bytes) (l.map .bytes))=_;exact ac (decide_eq_true rfl ..) ih_
theorem sU{i j:Nat}{a:List (List UInt8)}(h1:Lk g L i (.li (a.map .bytes)))(h2:Lk g L j (.li (a.map .bytes)))(h:QB true g L m):wp (dc .Eq (.obj i) (.obj j)) QB E g L m:=
 dp (fun s hs=>by dsimp only [eO,eqv,liAt,tuAt];rw [bz hs h1,bz hs h2];dsimp only;rw [if_pos rfl,oU]) h
theorem xc{C:b9}{nn:Nat}{env:AEnv}{B:List RS}:∀ {A:List RS} {s:St},(∃ Q2:Flow->St->Prop,True)->(aL C (nn+1)).S env (A++B) s=((aL C (nn+1)).S env A s).bind fun fl s=>match fl with | .next=>(aL C (nn+1)).S env B s | .ret v=>.ok (.ret v) s:=by
 intro l_
 induction l_ with
 | nil=>
  intro s c2_
  exact rfl
 | cons a A ih_=>
  intro s q
  show (step1 (aL C nn) env a s).bind (fun fl s=>match fl with | .next=>stepS (aL C nn) env (A++B) s | .ret v=>.ok (.ret v) s)=((step1 (aL C nn) env a s).bind (fun fl s=>match fl with | .next=>stepS (aL C nn) env A s | .ret v=>.ok (.ret v) s)).bind _;induction step1 (aL C nn) env a s with
  | bad=>rfl
  | exc c s'=>rfl
  | ok fl s'=>induction fl with
   | ret v=>rfl
   | next=>exact ih_ q
theorem xC{C:b9}{nn:Nat}{env:AEnv}{A B:List RS}(h:wpS ((aL C (nn+1)).S env A) (fun g L m=>wpS ((aL C (nn+1)).S env B) N R E g L m) R E g L m):wpS ((aL C (nn+1)).S env (A++B)) N R E g L m:=
 aE (y:=fun s=>((aL C (nn+1)).S env A s).bind fun fl s=>match fl with | .next=>(aL C (nn+1)).S env B s | .ret v=>.ok (.ret v) s) (fun s U U=>xc ⟨fun U U=>True,trivial⟩) (ay (wp_mono h (fun fl U U U h=>by
  induction fl with
  | next=>exact h
  | ret v=>exact aF h) fun U U U h=>h))
noncomputable def yv(l:List RS):List RS:=match l with | .for _ _ _ b::_=>b | _=>[]
noncomputable def mV(g:G):Vs:=[(.cache,.obj g.c.i),(.world,.obj g.w.i),(.blocks,.int g.k.blocks),(.pool,.obj g.p.i)]
theorem Vf.same{g g':G}(h:Vf m (mV g))(s:Same g g'):Vf m (mV g'):=by
 unfold mV;exact ac (s.c ..) (ac (s.w ..) (ac (s.bl ..) (ac (s.p ..) h)))
theorem Vf.w{V:Vs}{x:Nm}{v:AV}(hx:lk V x=none)(h:Vf m V):Vf (st m x v) V:=fun y w e=>by
 by_cases q:x=y
 ·rw [<- q,hx] at e;exact aA e
 ·exact ac (bw ..) (ac (if_neg q ..) (h y w e))
theorem v6{gs:G}{jd:Nat}{l:List Int}(h:Gd e0 gs)(hs:Sz 0 gs)(hk:0<=gs.p.k/\gs.p.k<=10)(hl:l.length<=63)(m1:lk m .script=some (.obj 0))(hV:Vf m (mV gs))(hR:∀ g' L' m',Sfx [(0,.fl (l.map .int))] L'->R (.bool true) g' L' m') :
  wpS ((aL (lvl aG 12) 60).S ⟨[(.disk,jd)],0⟩ (c475.body.drop 6)) N R E gs [(jd,.ce (some (.obj gs.k.i))),(0,.fl (l.map .int))] m:=by
 have hbl:=h.bl
 refine kB (k:=11) ?_;refine gh (.c m1 hV) ak (wb ?_);refine pK (l:=l.map .int) (Lk.n 1 rfl) (by rw [List.length_map];lia) ?_;refine gh (.c m1 hV) ak (an ?_)
 suffices key:∀ (c:Int) (g2:G),Tk 1 gs g2->0<=c->c<30->(wU (Bx 11 E R) 59 ⟨[(.disk,jd)],0⟩ (.one (.loc .turn)) 1 (yv (c475.body.drop 6)) (stepXS (Bx 11 E R) 59 (f0 (Bx 11 E R) 59) ⟨[(.disk,jd)],0⟩ (c475.body.drop 7) (Nb N)) (.int c) ⟨0,[],[],g2,[(jd,.ce (some (.obj gs.k.i))),(0,.fl (l.map .int))],m⟩).p by
  refine⟨fun U=>?_,fun U=>?_⟩
  ·refine gh (.c m1 hV) ak (ex ?_);exact key 8 gs ⟨gs.p,rfl,hk.1,by lia,rfl⟩ (by decide) (by decide)
  ·refine gh (.c m1 hV) ak (wb ?_);refine c0 (k:=10) h.live rfl (by decide) ⟨hk.1,by lia⟩ fun d g2 ht hd0 hd1=>?_;refine gy 1 (.c m1 hV) .nil ak (ex ?_);exact key _ g2 ht (by lia) (by lia)
 intro c g2 ht hc0 hc30
 have h2:=ht.gd h
 have hs2:=ht.sz hs
 have hb2:=ht.bd
 refine ex (ag _ (dZ ⟨hc0,by lia⟩) ?_);refine iC ?_;refine fF (len:=c.toNat) (fun j g' L' m'=>Gd e0 g'/\Sz j g'/\Same gs g'/\0<=g'.p.k/\g'.p.k<=11+12 * j/\Sfx [(jd,.ce (some (.obj gs.k.i))),(0,.fl (l.map .int))] L'/\Vf m' (mV gs)) (fun j g' L' m' hj hI=>?_) (fun g' L' m' hI=>?_) ⟨h2,hs2,ht.same,hb2.1,by lia,.refl,hV⟩ (by lia)
 ·obtain ⟨hg,hsz,hsm,hk0,hk1,hS,hV⟩:=hI
  refine ky hS ?_;have hbl':=hg.bl;have hV':=hV.same hsm;refine eR (kB ?_);refine gh (.s hV') ak (wb ?_);refine c0 (k:=10) hg.live rfl (by decide) ⟨hk0,by lia⟩ fun way g3 ht3 hw0 hw5=>?_;have h3:=ht3.gd hg;have hs3:=ht3.sz hsz;have hb3:=ht3.bd;have hl3:=h3.live;have kf3:=h3.kfz;have hbl3:=h3.bl;have hsm3:=hsm.trans ht3.same;have hV3:=hV.same hsm3;have fin:∀ (g5:G),Gd e0 g5->Sz (j+1) g5->Same g3 g5->0<=g5.p.k->g5.p.k<=g3.p.k+10->∀ (L5:Tm) (m5:Vs),Sfx [(jd,.ce (some (.obj gs.k.i))),(0,.fl (l.map .int))] L5->Vf m5 (mV gs)->
    Gd e0 g5/\Sz (j+1) g5/\Same gs g5/\0<=g5.p.k/\g5.p.k<=11+12 * ((j+1:Nat):Int)/\Sfx [(jd,.ce (some (.obj gs.k.i))),(0,.fl (l.map .int))] L5/\Vf m5 (mV gs):=
   fun g5 h5 hs5 hsm5 k0 k1 L5 m5 hS5 hv=>⟨h5,hs5,hsm3.trans hsm5,k0,by lia,hS5,hv⟩
  refine gy 2 (.s hV3) (fw hl3) bT (wb ?_);refine pL (k:=11) (Lk.wk hl3 kf3) (by rw [bh];have:=hs3.kept;lia) fun t1=>?_;have hlen:(sortI (dX (aZ AV.obj g3.w.kept))).length<=30:=by
   rw [ja];show ((aZ AV.obj g3.w.kept).map (·.1)).length<=30;rw [List.length_map,bh];have:=hs3.kept;lia
  have hmem:∀ y∈sortI (dX (aZ AV.obj g3.w.kept)),∃ i,lk g3.w.kept y=some i:=fun y hy=>by
   refine af (List.mem_map.mp (o8 hy)) fun p hp z2=>?_;subst z2;refine af (List.mem_map.mp hp) fun q hq z2=>?_;subst z2;refine aj (List.mem_iff_getElem?.mp hq) fun a ha=>?_;exact⟨_,fE h3.kpk ha⟩
  generalize sortI (dX (aZ AV.obj g3.w.kept))=ks at hlen hmem
  refine gh (.s hV3) ak fun t2=>?_;refine gy 64 (.s hV3) .nil bT (an ?_);refine⟨fun hc=>?_,fun hc=>?_⟩
  ·refine gh (.s (.s (.s hV3))) ak (an ?_);refine⟨fun hd=>?_,fun hd=>?_⟩
   ·refine gh (.s (.s (.s hV3))) ak fun t3=>?_;refine gh (.s (.s (.s hV3))) ak (wk ?_);refine gH (Lk.ts (Lk.ts Lk.t0)) Lk.t0 ?_;refine gh (.s (.s (.s hV3))) ak (an ?_);refine⟨fun he=>?_,fun he=>?_⟩
    ·refine gy 129 (.s (.s (.s hV3))) .nil aX (wb ?_);refine gF (k:=10) hl3 rfl (by lia) ⟨hb3.1,by lia⟩ fun d w4 k4 ht4 hd0 hd1=>?_;have hb4:=ht4.bd;refine gh (.s (.s (.s hV3))) ak (wb ?_);refine uz (k:=3) (ht4.gd h3) (ht4.sz hs3) (by lia) ⟨hd0,by rw [ht4.same.bl];exact hd1⟩ fun g5 h5 hs5 hsm5 hk5=>?_;have hsm5:=ht4.same.trans hsm5;have hV5:=hV3.same hsm5;refine gy 2 (.s (.s (.s hV5))) .nil bT (wb ?_);refine kr (k:=3) h5 hs5 (by lia) ?_;refine gy 258 (.s (.s (.s (.s hV5)))) .nil aX (en ?_);exact fin g5 h5 hs5 hsm5 (by rw [hk5];exact hb4.1) (by rw [hk5];lia) _ _ (by repeat (first | exact Sfx.refl | refine Sfx.cons ?_)) (.w rfl (.w rfl (.w rfl (.w rfl hV))))
    ·refine gy 258 (.s (.s (.s hV3))) .nil aX (an ?_);refine⟨fun U=>?_,fun hz=>absurd hd (by rw [hz];decide)⟩;have hks:ks≠[]:=fun z=>by rw [z] at he;exact of_decide_eq_false he rfl
     have hk0':0<ks.length:=List.length_pos_iff.mpr hks
     refine gh (.s (.s (.s hV3))) ak (wb ?_);refine cw (k:=11) (Lk.n 2 rfl) (by rw [List.length_map];lia) ?_;refine gh (.s (.s (.s hV3))) ak (wb ?_);rw [List.length_map];refine gF (k:=10) hl3 rfl (by lia) ⟨hb3.1,by lia⟩ fun d w4 k4 ht4 hd0 hd1=>?_;obtain ⟨y,hy⟩:∃ y,ks[d.toNat]?=some y:=⟨_,List.getElem?_eq_getElem (by lia)⟩;refine aj (hmem y (List.mem_of_getElem? hy)) fun i0 hi0=>?_;have hb4:=ht4.bd;refine gh (.s (.s (.s hV3))) ak (wk ?_);refine bV (v:=.int y) (Lk.n 2 rfl) (by rw [List.length_map];lia) (by rw [List.length_map,eF hd0 (by lia)];show (ks.map AV.int)[d.toNat]?=_;rw [List.getElem?_map,hy];rfl) ?_;refine gh (.s (.s (.s hV3))) ak (wb ?_);refine v5 (k:=3) (i0:=i0) (ht4.gd h3) (ht4.sz hs3) (by lia) ⟨hb4.1,by lia⟩ hi0 fun g5 h5 hs5 hsm5 hk50 hk51=>?_;have hsm5:=ht4.same.trans hsm5;have hV5:=hV3.same hsm5;refine gy 2 (.s (.s (.s hV5))) .nil bT (wb ?_);refine kr (k:=3) h5 hs5 (by lia) ?_;refine gy 258 (.s (.s (.s (.s hV5)))) .nil aX (en ?_);exact fin g5 h5 hs5 hsm5 hk50 (by lia) _ _ (by repeat (first | exact Sfx.refl | refine Sfx.cons ?_)) (.w rfl (.w rfl (.w rfl (.w rfl hV))))
   ·refine gy 258 (.s (.s (.s hV3))) .nil aX (an ?_);refine⟨fun hz=>absurd hd (by refine ac (hz ..) ?_;decide),fun U=>?_⟩;refine gh (.s (.s (.s hV3))) ak (wb ?_);refine ud (k:=3) h3 hs3 (by lia) ⟨hb3.1,by lia⟩ fun g5 h5 hs5 hsm5 hk50 hk51=>?_;have hV5:=hV3.same hsm5;refine gy 2 (.s (.s (.s hV5))) .nil bT (wb ?_);refine kr (k:=3) h5 hs5 (by lia) ?_;refine gy 258 (.s (.s (.s (.s hV5)))) .nil aX (en ?_);exact fin g5 h5 hs5 hsm5 hk50 (by lia) _ _ (by repeat (first | exact Sfx.refl | refine Sfx.cons ?_)) (.w rfl (.w rfl (.w rfl (.w rfl hV))))
  ·refine gy 1 (.s (.s (.s hV3))) .nil bT (wb ?_);refine gF (k:=10) hl3 rfl (by lia) ⟨hb3.1,by lia⟩ fun d w4 k4 ht4 hd0 hd1=>?_;have hb4:=ht4.bd;refine gh (.s (.s (.s hV3))) ak (wb ?_);refine uz (k:=3) (ht4.gd h3) (ht4.sz hs3) (by lia) ⟨hd0,by rw [ht4.same.bl];exact hd1⟩ fun g5 h5 hs5 hsm5 hk5=>?_;have hsm5:=ht4.same.trans hsm5;have hV5:=hV3.same hsm5;refine gy 2 (.s (.s (.s hV5))) .nil bT (wb ?_);refine kr (k:=3) h5 hs5 (by lia) ?_;refine gy 258 (.s (.s (.s (.s hV5)))) .nil aX (en ?_);exact fin g5 h5 hs5 hsm5 (ac (hk5 ..) hb4.1) (by refine ac (hk5 ..) ?_;lia) _ _ (by repeat (first | exact Sfx.refl | refine Sfx.cons ?_)) (.w rfl (.w rfl (.w rfl (.w rfl hV))))
 ·obtain ⟨hg,hsz,hsm,hk0,hk1,hS,hV⟩:=hI
  refine(ag _ hS ?_);have hl':=hg.live;have hbl':=hg.bl;have hdl:=hg.dsl;have hV:=hV.same hsm;refine bo (hsm.k ..) ?_;obtain ⟨outs,ho⟩:∃ outs:List (List UInt8),outs=(List.range g'.w.ds.length).map fun (j:Nat)=>(lk g'.k.lat (j:Int)).getD [0,0,0,0]:=⟨_,rfl⟩;have hol:outs.length=g'.w.ds.length:=by rw [ho,List.length_map,List.length_range]
  have hoj:∀ j:Nat,j<g'.w.ds.length->outs[j]?=some ((lk g'.k.lat (j:Int)).getD [0,0,0,0]):=fun j hj=>by
   rw [ho,List.getElem?_map,List.getElem?_range hj];rfl
  have htk:∀ j:Nat,j<g'.w.ds.length->outs.take (j+1)=outs.take j++[(lk g'.k.lat (j:Int)).getD [0,0,0,0]]:=fun j hj=>by
   rw [List.take_add_one,hoj j hj];rfl
  refine gh hV ak (wk ?_);refine cT (pB ?_);refine gh hV ak (en (ex ?_));refine⟨_,_,dZ (i:=g'.k.blocks) (by lia),rfl,fun acc=>?_⟩;refine fF (len:=g'.k.blocks.toNat) (fun j g2 L2 U=>g2=g'/\L2=[(acc,.li ((outs.take j).map .bytes)),(jd,.ce (some (.obj g'.k.i))),(0,.fl (l.map .int))]) (fun j g2 L2 m2 hj hI=>?_) (fun g2 L2 m2 hI=>?_) ⟨rfl,rfl⟩ (by lia)
  ·refine aq hI fun z0 z1=>?_;clear hI;subst z0;subst z1;refine lO ?_;refine gy 21127297 (.s .n) (fw hl') ec (wb ?_);refine qd (k:=8) hl' ⟨by lia,by lia⟩ ?_;refine gh (.s .n) ak (en (ex ?_));refine⟨_,_,_,Lk.t0,by rw [List.length_map,List.length_take];lia,Up.t0,rfl,?_⟩;rw [htk j (by lia),List.map_append];rfl
  ·refine aq hI fun z0 z1=>?_;clear hI;subst z0;subst z1;refine ac (List.take_of_length_le (by lia) ..) ?_;refine gh hV ak (wk ?_);refine cT (pB ?_);refine gy 2 hV (fw hl') bT (en (ex ?_));refine⟨_,_,cM (Lk.wd hl'),rfl,fun acc2=>?_⟩;refine cX (l:=g2.w.ds.map fun p=>.obj p.1) (fun j g3 L3 U=>g3=g2/\L3=[(acc2,.li ((outs.take j).map .bytes)),(acc,.li (outs.map .bytes)),(jd,.ce (some (.obj g2.k.i))),(0,.fl (l.map .int))]) (fun j g3 L3 m3 hI=>?_) (fun j v g3 L3 m3 hj hI=>?_) (fun g3 L3 m3 hI=>?_) ⟨rfl,rfl⟩ (by refine ac (List.length_map ..) ?_;lia)
   ·refine aq hI fun z0 z1=>?_;clear hI;subst z0;subst z1;exact Lk.wd hl'
   ·refine aq hI fun z0 z1=>?_;clear hI;subst z0;subst z1;rw [List.getElem?_map] at hj;refine af (Option.map_eq_some_iff.mp hj) fun p hp z2=>?_;subst z2;have hok:=hg.dso j p.1 p.2 hp;have hjl:=(List.getElem?_eq_some_iff.mp hp).1;refine lO ?_;refine gy 1 (.s .n) .nil bT (wb ?_);refine bG (k:=11) (Lk.ds (j:=j) (l:=p.2) hl' hp) (by refine ac (List.length_map ..) (ac (hok.1 ..) ?_);decide) (dJ hok) ?_;refine gh (.s .n) ak (en (ex ?_));refine⟨_,_,_,Lk.t0,by rw [List.length_map,List.length_take];lia,Up.t0,rfl,?_⟩;rw [htk j hjl,List.map_append];rfl
   ·refine aq hI fun z0 z1=>?_;clear hI;subst z0;subst z1;refine ac (List.take_of_length_le (by refine ac (List.length_map ..) ?_;lia) ..) ?_;refine gh hV ak (wk ?_);refine sU (Lk.ts Lk.t0) Lk.t0 ?_;refine gh hV ak (en ?_);exact hR _ _ _ (.cons (.cons (.cons .refl)))
end
section
variable {E:Nat->G->Tm->Prop}{g g1:G}{L:Tm}{m:Vs}{Q:AV->G->Tm->Vs->Prop}{k n:Nat}{x:Int}{QB:Bool->G->Tm->Vs->Prop}{N:G->Tm->Vs->Prop}{R:AV->G->Tm->Vs->Prop}
theorem rL{i:Nat}{n w kk:Int}(hn:0<n/\n<1000000)(hk:0<=kk/\kk<1000000)(h:∀ d w' k',0<=d->d<n->0<=k'->k'<=kk+1->Q (.int d) g ((i,.li [.int w',.int k'])::L) m):wp (lvl aG (k+2) (.base 420) [.obj i,.int n]) Q E g ((i,.li [.int w,.int kk])::L) m:=
 kW (w:=w) (kk:=kk) (gg:=fun U U=>g) (LL:=fun w k=>(i,.li [.int w,.int k])::L) (fun w k=>Lk.t0) (fun U U U U=>Up.t0) hn hk (fun U U=>.refl) h
theorem Lk.mid{A B:Tm}{i:Nat}{o:AO}:Lk g (A++(i,o)::B) i o:=fun D h=>h.tmp (i,o) (by simp)
noncomputable abbrev zs:AO:=.li [.int 0,.int 0,.int 0,.int 0]
theorem rW{r:St->Res Flow}{N:G->Tm->Vs->Prop}{R:AV->G->Tm->Vs->Prop}(h:wpS r (fun g' L' m'=>∃ g2 L2,(∀ D,J g' L' D->J g2 L2 D)/\N g2 L2 m') R E g L m):wpS r N R E g L m:=fun s hs hm=>by
 have h1:=h s hs hm
 generalize r s=q at h1 ⊢
 induction q with
 | bad=>exact h1
 | exc c s'=>exact h1
 | ok fl s'=>induction fl with
  | next=>obtain ⟨g',L',h2,g2,L2,h3,h4⟩:=h1;exact⟨g2,L2,⟨h3 _ h2.1,h2.2⟩,h4⟩
  | ret v=>exact h1
theorem sr{acc nb f:Nat}{env:AEnv}(hnb:nb<=20)(hN:∀ (ids:List Nat) m,ids.length=nb->N g ((acc,.li (ids.reverse.map .obj))::(L++ids.map fun i=>(i,zs))) m) :
  wpS (loopK (.range nb) (cB (aL (lvl aG (k+2)) (f+6)) env .number [] (.list [.int 0,.int 0,.int 0,.int 0]) acc)) N R o_ g ((acc,.li [])::L) m:=by
 refine rW ?_;refine fF (len:=nb) (fun j g' L' m'=>g'=g/\∃ ids:List Nat,ids.length=j/\L'=(ids.map fun i=>(i,zs))++(acc,.li (ids.reverse.map .obj))::L) (fun j g' L' m' hj hI=>?_) (fun g' L' m' hI=>?_) ⟨rfl,[],rfl,rfl⟩ (by lia)
 ·obtain ⟨rfl,ids,h1,rfl⟩:=hI
  refine lO ?_;refine gy 1 (.s .n) .nil bT fun t1=>?_;refine gh (.s .n) ak (en (ex ?_));refine⟨_,_,_,Lk.ts Lk.mid,by rw [List.length_map,List.length_reverse];lia,Up.ta ((t1,zs)::ids.map fun i=>(i,zs)),rfl,t1::ids,by simp [h1],by simp⟩
 ·obtain ⟨rfl,ids,h1,rfl⟩:=hI
  refine⟨_,_,fun D hD=>hD.perm (fun p hp=>?_) ?_,hN ids m' h1⟩
  ·rcases List.mem_cons.mp hp with rfl | hp
   ·simp
   ·rcases List.mem_append.mp hp with hp | hp
    ·exact List.mem_append_right _ (List.mem_cons_of_mem _ hp)
    ·exact List.mem_append_left _ hp
  ·refine(List.Perm.nodup_iff (List.Perm.map _ ?_)).mp hD.nd;exact List.perm_append_comm (l₁:=ids.map fun i=>(i,zs)) (l₂:=(acc,AO.li (ids.reverse.map .obj))::L)
noncomputable def eW(tcb tcr ci cd tol twk twp twh two twr twd wi tun tlat tkp di dd tp:Nat)(nb nm w2 k2:Int)(ids:List Nat):G:=
 ⟨true,⟨tp,w2,k2⟩,⟨wi,1+nm,0,0,0,twd,ids.reverse.map fun i=>(i,[0,0,0,0]),twr,[],two,[],twh,[],twp,[],twk,[],false,tol,[]⟩,⟨di,dd,tkp,5+nb,0,tlat,[],tun,[]⟩,⟨ci,cd,1+nm,0,0,0,tcr,[],tcb,[]⟩,[]⟩
noncomputable def uk:G:={ eW 0 0 0 0 0 0 0 0 0 0 0 0 0 0 0 0 0 0 0 0 0 0 [] with live:=false }
theorem rH{tcb tcr ci cd tol twk twp twh two twr twd wi tun tlat tkp di dd tp:Nat}{nb nm w2 k2:Int}{ids:List Nat}(hids:ids.length=(5+nb).toNat)(hb:0<=nb/\nb<5)(hm:0<=nm/\nm<4):Gd e0 (eW tcb tcr ci cd tol twk twp twh two twr twd wi tun tlat tkp di dd tp nb nm w2 k2 ids) where
 live:=rfl
 kfz:=rfl
 bl:=by show 5<=5+nb/\5+nb<=9;lia
 most:=⟨rfl,by show 1<=1+nm/\1+nm<=4;lia⟩
 rlen:=by show (0:Int)<=1+nm;lia
 row:=rfl
 bs:=(fun U h=>absurd h List.not_mem_nil)
 nd:=List.nodup_nil
 rng:=(fun U h=>absurd h List.not_mem_nil)
 by1:=(fun U h=>absurd h List.not_mem_nil)
 by2:=(fun U U h=>aA h)
 byk:=List.nodup_nil
 hp:=(fun U U h=>absurd h List.not_mem_nil)
 out:=fun U U=>⟨rfl,rfl⟩
 nn:=fun U=>⟨Int.le_refl _,Int.le_refl _⟩
 kp1:=(fun U U h=>aA h)
 kp2:=fun U h=>absurd rfl h
 kpk:=List.nodup_nil
 cnt:=⟨rfl,rfl,rfl⟩
 dsl:=by
  show (((ids.reverse.map fun i=>(i,([0,0,0,0]:List Int))).length:Nat):Int)=5+nb;rw [List.length_map,List.length_reverse];lia
 dso:=fun j t l hj=>by
  have hj:(ids.reverse.map fun i=>(i,([0,0,0,0]:List Int)))[j]?=some (t,l):=hj
  rw [List.getElem?_map] at hj;refine af (Option.map_eq_some_iff.mp hj) fun i U h=>?_
  cases h
  exact il.zero
 old:=(fun U h=>absurd h List.not_mem_nil)
noncomputable def posL(n:Nat):Ro->Option Nat
 | .cb=>some 0 | .cr=>some 1 | .cI=>some 2 | .cD=>some 3 | .ol=>some 5 | .wk=>some 6 | .wp=>some 7 | .wh=>some 8 | .wo=>some 9 | .wr=>some 10 | .wd=>some 11 | .world=>some 12 | .unf=>some 13 | .lat=>some 14 | .dI=>some 16 | .dD=>some 17 | .pool=>some 19
 | .ds j=>if j<n then some (22+(n - 1 - j)) else none
 | _=>none
noncomputable def zJ(n p:Nat):Ro:=if 22<=p then .ds (n - 1 - (p - 22)) else [Ro.cb,.cr,.cI,.cD,.pool,.ol,.wk,.wp,.wh,.wo,.wr,.wd,.world,.unf,.lat,.pool,.dI,.dD,.pool,.pool,.pool,.pool].getD p .pool
theorem j9{n p:Nat}{r:Ro}(h:posL n r=some p):zJ n p=r:=by
 induction r with
 | ds j=>
  have h:(if j<n then some (22+(n - 1 - j)) else none)=some p:=h
  by_cases z:j<n
  ·rw [if_pos z] at h;obtain rfl:=Option.some.inj h;show (if 22<=22+(n - 1 - j) then Ro.ds (n - 1 - (22+(n - 1 - j) - 22)) else _)=_;refine ac (if_pos (Nat.le_add_right ..) ..) (ac (Nat.add_sub_cancel_left ..) ?_)
   congr 1;omega
  ·rw [if_neg z] at h;exact aA h
 | _=>cases h <;> rfl
theorem tW{tcb tcr ci cd t2 tol twk twp twh two twr twd wi tun tlat tkp di dd t1 tp jd:Nat}{nb nm w2 k2:Int}{l:List Int}{ids:List Nat}{D:Hp}{o2 o1:AO}
  (h:J g ((tcb,.idd [])::(tcr,.li [])::(ci,.inst 304 cd)::(cd,.sd (dh (eW tcb tcr ci cd tol twk twp twh two twr twd wi tun tlat tkp di dd tp nb nm w2 k2 ids).k (eW tcb tcr ci cd tol twk twp twh two twr twd wi tun tlat tkp di dd tp nb nm w2 k2 ids).c))::(t2,o2)::(tol,.li [])::(twk,.idd [])::(twp,.idd [])::(twh,.idd [])::(two,.idd [])::(twr,.li [])::(twd,.li (ids.reverse.map .obj))::(wi,.sd (ch (eW tcb tcr ci cd tol twk twp twh two twr twd wi tun tlat tkp di dd tp nb nm w2 k2 ids).w))::(tun,.li [])::(tlat,.idd [])::(tkp,.idd [])::(di,.inst 402 dd)::(dd,.sd (iX (eW tcb tcr ci cd tol twk twp twh two twr twd wi tun tlat tkp di dd tp nb nm w2 k2 ids).k))::(t1,o1)::(tp,.li [.int w2,.int k2])::(jd,.ce (some (.obj di)))::(0,.fl (l.map .int))::ids.map fun i=>(i,zs)) D) :
  J (eW tcb tcr ci cd tol twk twp twh two twr twd wi tun tlat tkp di dd tp nb nm w2 k2 ids) [(jd,.ce (some (.obj di))),(0,.fl (l.map .int))] D:=by
 refine h.claims (pos:=posL ids.length) (fun r i o e=>?_) (fun r r' p e e'=>?_) (fun q hq=>?_) ?_
 ·induction r with
  | oc x=>exact aA e
  | bI x=>exact aA e
  | bD x=>exact aA e
  | bA x=>exact aA e
  | ds j=>
   have e:((ids.reverse.map fun i=>(i,([0,0,0,0]:List Int)))[j]?.map fun p=>(p.1,AO.li (p.2.map .int)))=some (i,o):=e
   refine af (Option.map_eq_some_iff.mp e) fun p hp e=>?_;rw [List.getElem?_map] at hp;refine af (Option.map_eq_some_iff.mp hp) fun a ha hp=>?_;subst hp
   cases e
   have hj:j<ids.length:=by have:=(List.getElem?_eq_some_iff.mp ha).1;simpa using this
   rw [List.getElem?_reverse hj] at ha;refine⟨22+(ids.length - 1 - j),if_pos hj,?_⟩;refine ac (Nat.add_comm ..) ?_;show (ids.map fun i=>(i,zs))[ids.length - 1 - j]?=_;rw [List.getElem?_map,ha];rfl
  | wd=>
   have e:some (twd,AO.li ((ids.reverse.map fun i=>(i,([0,0,0,0]:List Int))).map fun p=>.obj p.1))=some (i,o):=e
   cases e
   refine⟨11,rfl,?_⟩;rw [List.map_map];rfl
  | _=>cases e;exact⟨_,rfl,rfl⟩
 ·exact(j9 e).symm.trans (j9 e')
 ·have key:∀ p:Nat,(p=20∨p=21)->∀ r,posL ids.length r≠some p:=fun p hp r e=>by
   have q:=j9 e
   rcases hp with rfl | rfl <;> (have q:Ro.pool=r:=q;rw [<- q] at e;exact absurd (Option.some.inj (show some 19=some _ from e)) (by decide))
  rcases List.mem_cons.mp hq with rfl | hq
  ·exact⟨20,rfl,key 20 (.inl rfl)⟩
  ·refine ac (List.mem_singleton.mp hq ..) ?_;exact⟨21,rfl,key 21 (.inr rfl)⟩
 ·have:=h.tail.tail.tail.tail.tail.tail.tail.tail.tail.tail.tail.tail.tail.tail.tail.tail.tail.tail.tail.tail.nd
  simp only [List.map_cons,List.nodup_cons,List.mem_cons,not_or] at this;simp [this.1.1]
theorem xD{l:List Int}(hl:l.length<=63)(hg:g.live=false):wp (lvl aG 13 (.base 475) [.obj 0]) (fun v U U U=>v=.bool true) E g [(0,.fl (l.map .int))] []:=by
 refine ur yp rfl (cp_cons fun jd=>c_ (uQ rfl (uP ?_)));refine xC (A:=c475.body.take 6) (B:=c475.body.drop 6) ?_;refine kB (k:=11) ?_;refine g0 ak (wb ?_);refine v7 (k:=9) (Lk.ts Lk.t0) hl fun tp w=>?_;refine g0 ak (wb ?_);refine rL (k:=10) (by decide) (by decide) fun nb w1 k1 hb0 hb5 hk0 hk1=>?_;refine gx 1 .nil ak (wb ?_);refine rL (k:=10) (by decide) ⟨hk0,by lia⟩ fun nm w2 k2 hm0 hm4 hk20 hk21=>?_;refine gx 1 .nil ak fun t1=>?_;refine gx 64 .nil bT (wb ?_);refine jT (i:=322) rfl yb fun dd di=>⟨_,rfl,kB ?_⟩;refine g0 ak (an ?_);refine⟨fun U=>?_,fun hd=>absurd (of_decide_eq_true hd) (by lia)⟩;refine gx 2250700226818 .nil wH fun t2=>?_;refine gx 8513 .nil aX fun t3=>?_;refine gx 8642 .nil aX fun t4=>?_;refine gx 10355601161047341748249155 .nil yq (en (fi 5 rfl ?_));refine gx 71 .nil bT (wk ?_);refine' uY ?hd fun wi=>?_
 case hd=>exact⟨by decide,by decide⟩
 dsimp only [List.map];refine zL ?_;refine g0 ak (wk ?_);refine cT (pB ?_);refine g0 ak (en (ex ?_));refine⟨.range (5+nb).toNat,_,dZ (i:=5+nb) (by lia),rfl,fun twd=>?_⟩;refine sr (k:=10) (by lia) (fun ids m hids=>?_);simp only [List.cons_append,List.nil_append];refine g0 ak fun t5=>?_;refine g0 ak fun t6=>?_;refine g0 ak fun t7=>?_;refine g0 ak fun t8=>?_;refine g0 ak (en ?_);refine⟨Lk.n 5 rfl,_,_,Up.t5,?_⟩;refine g0 ak fun t9=>?_;refine g0 ak fun t10=>?_;refine g0 ak fun t11=>?_;refine gx 45355149003203648 .nil xH (wb ?_);refine jT (i:=207) rfl wv fun cd ci=>⟨_,rfl,kB ?_⟩;refine g0 ak (an ?_);refine⟨fun hd=>absurd (of_decide_eq_true hd) (by lia),fun U=>?_⟩;refine gx 36875957443764416 .nil xH fun t12=>?_;refine gx 8513 .nil aX fun t13=>?_;refine gx 38010237909770690 .nil xH (en (fi 4 rfl ?_));refine g0 ak (en ?_);have hids:ids.length=(5+nb).toNat:=hids;refine ov (fun D hD=>tW (nb:=nb) (nm:=nm) (w2:=w2) (k2:=k2) (l:=l) (ids:=ids) hD) ?_;exact v6 (rH hids ⟨hb0,hb5⟩ ⟨hm0,hm4⟩) ⟨Nat.le_refl _,Nat.le_refl _,Nat.le_refl _,Nat.le_refl _,Nat.le_refl _,Nat.le_refl _,Nat.le_refl _,Nat.le_refl _⟩ ⟨hk20,by show k2<=10;lia⟩ hl rfl (.c rfl (.c rfl (.c rfl (.c rfl .n)))) (fun U U U hS=>⟨hS,rfl⟩)
theorem hB(l:List Int)(hl:l.length<=63):∃ O',lvl aG 13 (.base 475) [.obj 0] (s0 l)=.ok (.bool true) O':=by
 have hJ:J uk [(0,.fl (l.map .int))] (s0 l).H:={
  own:=fun r i o e=>by exact aA e
  inj:=fun r r' i o o' e=>by exact aA e
  tmp:=fun p hp=>by rw [List.mem_singleton.mp hp];rfl
  nd:=by simp
  sep:=fun p hp r o e=>by exact aA e }
 have h:=xD (E:=fun U U U=>False) (g:=uk) hl rfl (s0 l) ⟨hJ,fun i hi=>by
  have hi:1<=i:=hi
  show (if i=0 then _ else none)=none;rw [if_neg (by lia)]⟩ rfl
 generalize lvl aG 13 (.base 475) [.obj 0] (s0 l)=r at h ⊢
 induction r with
 | ok v s'=>refine aI h fun U U U z3=>?_;clear h;subst z3;exact⟨s',rfl⟩
 | exc C s'=>refine aI h fun U U U h=>?_;exact h.elim
 | bad=>exact h.elim
end
end Mine.Lake
end
theorem PySem.Challenge.cw_nu0087_01_holds : PySem.Challenge.rw_nu0087_01.Holds :=
 Mine.Lake.law_join Mine.Lake.hB
