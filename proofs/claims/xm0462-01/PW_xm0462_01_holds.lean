import PyProof.Rows.All
import Wide.All
import OpenK.AllK
import Wide.FinOn
import KE.KIntText
import KE.KNest
import Lean
import PySem.Challenge.RW_xm0462_01
set_option Elab.async false
set_option maxRecDepth 100000
set_option maxHeartbeats 4000000
set_option linter.unusedVariables false
set_option bootstrap.genMatcherCode false
set_option genSizeOf false
set_option genSizeOfSpec false
set_option backward.match.sparseCases false
open List
namespace Mine.Internal
section
inductive mz (a b c:Prop):Prop where
 |mk (_:a) (_:b) (_:c)
inductive rC (a b c d:Prop):Prop where
 |mk (_:a) (_:b) (_:c) (_:d)
inductive sS (a b c d e:Prop):Prop where
 |mk (_:a) (_:b) (_:c) (_:d) (_:e)
inductive An6 (a b c d e f:Prop):Prop where
 |mk (_:a) (_:b) (_:c) (_:d) (_:e) (_:f)
inductive DO (a b c d e f g:Prop):Prop where
 |mk (_:a) (_:b) (_:c) (_:d) (_:e) (_:f) (_:g)
inductive DX (a b c d e f g h:Prop):Prop where
 |mk (_:a) (_:b) (_:c) (_:d) (_:e) (_:f) (_:g) (_:h)
inductive An9 (a b c d e f g h i:Prop):Prop where
 |mk (_:a) (_:b) (_:c) (_:d) (_:e) (_:f) (_:g) (_:h) (_:i)
inductive mh {A B:Type} (p:A->B->Prop):Prop where
 |mk (O:A) (x1:B) (_:p O x1)
inductive DW {A B C:Type} (p:A->B->C->Prop):Prop where
 |mk (O:A) (x1:B) (x2:C) (_:p O x1 x2)
inductive GZ {A B C D:Type} (p:A->B->C->D->Prop):Prop where
 |mk (O:A) (x1:B) (x2:C) (x3:D) (_:p O x1 x2 x3)
inductive Ex8 {A B C D E F G H:Type} (p:A->B->C->D->E->F->G->H->Prop):Prop where
 |mk (O:A) (x1:B) (x2:C) (x3:D) (x4:E) (x5:F) (x6:G) (x7:H) (_:p O x1 x2 x3 x4 x5 x6 x7)
universe uE vE
theorem LC{α:Type uE}{motive:List α->Prop}(t:List α)(nil:motive [])(cons:∀head tail,motive (head::tail)):motive t:=casesOn t nil cons
theorem NC{motive:Nat->Prop}(t:Nat)(zero:motive 0)(succ:∀n,motive (n+1)):motive t:=Nat.casesAuxOn t zero succ
@[elab_as_elim] theorem J{α:Sort uE}{P:α->Prop}{a b:α}(h:a=b)(x:P b):P a:=h▸x
@[elab_as_elim] theorem rS{α:Sort uE}{P:α->Prop}{a b:α}(h:b=a)(x:P b):P a:=h▸x
@[elab_as_elim] theorem rI{P:Prop->Prop}{a b:Prop}(h:a↔b)(x:P b):P a:=propext h▸x
@[elab_as_elim] theorem rJ{P:Prop->Prop}{a b:Prop}(h:b↔a)(x:P b):P a:=propext h▸x
theorem km{α:Type uE}{x:α}{G:Prop}(h:x∈([]:List α)):G:=(not_mem_nil h).elim
theorem bL{α:Type uE}{x:α}{G:Prop}(h:none=some x):G:=nomatch h
theorem fB{α:Type uE}{x:α}{G:Prop}(h:some x=none):G:=nomatch h
theorem iD{G:Prop}(h:false=true):G:=nomatch h
theorem rB{G:Prop}(h:true=false):G:=nomatch h
theorem qp{n:Nat}{G:Prop}(h:0=n+1):G:=nomatch h
theorem Mr{n:Nat}{G:Prop}(h:n+1=0):G:=nomatch h
theorem lnc{α:Type uE}{x:α}{l:List α}{G:Prop}(h:[]=x::l):G:=nomatch h
theorem MC{α:Type uE}{x:α}{l:List α}{G:Prop}(h:x::l=[]):G:=nomatch h
theorem sI{α:Type uE}{a b:α}(h:some a=some b):a=b:=Option.some.inj h
theorem MK{α:Type uE}{G:Prop}(f:α->Nat){a b:α}(h:a=b)(e:Nat.beq (f a) (f b)=false):G:=by subst h;exact rB ((Nat.beq_refl _).symm.trans e)
theorem ur{P0 P1 P2 P3 P4 P5:Prop}{G:Prop}(h:((((P0/\P1)/\P2)/\P3)/\P4)/\P5)(k:P0->P1->P2->P3->P4->P5->G):G:=h.rec (λh1 h2=>h1.rec (λh3 h4=>h3.rec (λh5 h6=>h5.rec (λh7 h8=>h7.rec (λh9 iY=>k h9 iY h8 h6 h4 h2)))))
theorem iA{P0 P1 P2 P3:Prop}{G:Prop}(h:((P0/\P1)/\P2)/\P3)(k:P0->P1->P2->P3->G):G:=h.rec (λh1 h2=>h1.rec (λh3 h4=>h3.rec (λh5 h6=>k h5 h6 h4 h2)))
theorem DM{P0 P1 P2:Prop}{G:Prop}(h:(P0/\P1)/\P2)(k:P0->P1->P2->G):G:=h.rec (λh1 h2=>h1.rec (λh3 h4=>k h3 h4 h2))
theorem fR{P0 P1 P2 P3 P4 P5 P6 P7 P8 P9 GW:Prop}{G:Prop}(h:P0/\P1/\P2/\P3/\P4/\P5/\P6/\P7/\P8/\P9/\GW)(k:P0->P1->P2->P3->P4->P5->P6->P7->P8->P9->GW->G):G:=h.rec (λh1 h2=>h2.rec (λh3 h4=>h4.rec (λh5 h6=>h6.rec (λh7 h8=>h8.rec (λh9 iY=>iY.rec (λl6 t9=>t9.rec (λCD yJ=>yJ.rec (λI4 ZC=>ZC.rec (λNr h18=>h18.rec (k h1 h3 h5 h7 h9 l6 CD I4 Nr))))))))))
theorem jv{P0 P1 P2 P3 P4 P5 P6 P7:Prop}{G:Prop}(h:P0/\P1/\P2/\P3/\P4/\P5/\P6/\P7)(k:P0->P1->P2->P3->P4->P5->P6->P7->G):G:=h.rec (λh1 h2=>h2.rec (λh3 h4=>h4.rec (λh5 h6=>h6.rec (λh7 h8=>h8.rec (λh9 iY=>iY.rec (λl6 t9=>t9.rec (k h1 h3 h5 h7 h9 l6)))))))
theorem j6{P0 P1 P2 P3 P4 P5:Prop}{G:Prop}(h:P0/\P1/\P2/\P3/\P4/\P5)(k:P0->P1->P2->P3->P4->P5->G):G:=h.rec (λh1 h2=>h2.rec (λh3 h4=>h4.rec (λh5 h6=>h6.rec (λh7 h8=>h8.rec (k h1 h3 h5 h7)))))
theorem cF{P0 P1 P2 P3 P4:Prop}{G:Prop}(h:P0/\P1/\P2/\P3/\P4)(k:P0->P1->P2->P3->P4->G):G:=h.rec (λh1 h2=>h2.rec (λh3 h4=>h4.rec (λh5 h6=>h6.rec (k h1 h3 h5))))
theorem cT{P0 P1 P2 P3:Prop}{G:Prop}(h:P0/\P1/\P2/\P3)(k:P0->P1->P2->P3->G):G:=h.rec (λh1 h2=>h2.rec (λh3 h4=>h4.rec (k h1 h3)))
theorem iR{A0:Sort _}{P0 P1:Prop}{P2 P3:A0->Prop}{P4:Prop}{G:Prop}(h:P0/\P1/\(∃O,P2 O/\P3 O)/\P4)(k:P0->P1->∀O,P2 O->P3 O->P4->G):G:=h.rec (λh1 h2=>h2.rec (λh3 h4=>h4.rec (λh5 h6=>h5.rec (λO h7=>h7.rec (λh8 h9=>k h1 h3 O h8 h9 h6)))))
theorem bt{P0 P1 P2:Prop}{G:Prop}(h:P0/\P1/\P2)(k:P0->P1->P2->G):G:=h.rec (λh1 h2=>h2.rec (k h1))
theorem gq{A0:Sort _}{P0 P1:Prop}{P2:A0->Prop}{G:Prop}(h:P0/\P1/\(∃O,P2 O))(k:P0->P1->∀O,P2 O->G):G:=h.rec (λh1 h2=>h2.rec (λh3 h4=>h4.rec (k h1 h3)))
theorem xJ{A0 A1:Sort _}{P0 P1:Prop}{P2 P3:A0->A1->Prop}{G:Prop}(h:P0/\P1/\(∃O,∃x1,P2 O x1/\P3 O x1))(k:P0->P1->∀O x1,P2 O x1->P3 O x1->G):G:=h.rec (λh1 h2=>h2.rec (λh3 h4=>h4.rec (λO h5=>h5.rec (λx1 h6=>h6.rec (k h1 h3 O x1)))))
theorem lG{A0 A1 A2 A3:Sort _}{P0:Prop}{P1 P2:A0->A1->A2->A3->Prop}{P3:A0->Prop}{P4:Prop}{G:Prop}(h:P0/\(∃O,(∃x1,∃x2,∃x3,P1 O x1 x2 x3/\P2 O x1 x2 x3)/\P3 O)/\P4)(k:P0->∀O x1 x2 x3,P1 O x1 x2 x3->P2 O x1 x2 x3->P3 O->P4->G):G:=h.rec (λh1 h2=>h2.rec (λh3 h4=>h3.rec (λO h5=>h5.rec (λh6 h7=>h6.rec (λx1 h8=>h8.rec (λx2 h9=>h9.rec (λx3 iY=>iY.rec (λl6 t9=>k h1 O x1 x2 x3 l6 t9 h7 h4))))))))
theorem aA{P0 P1:Prop}{G:Prop}(h:P0/\P1)(k:P0->P1->G):G:=h.rec k
theorem xI{B0 B1:Type}{P0:Prop}{P1 P2 P3:B0->B1->Prop}{G:Prop}(h:P0/\(mh λO x1=>mz (P1 O x1) (P2 O x1) (P3 O x1)))(k:P0->∀O x1,P1 O x1->P2 O x1->P3 O x1->G):G:=h.rec (λh1 h2=>h2.rec (λO x1 h3=>h3.rec (k h1 O x1)))
theorem my{A0:Sort _}{P0:Prop}{P1 P2 P3 P4 P5:A0->Prop}{G:Prop}(h:P0/\(∃O,P1 O/\P2 O/\P3 O/\P4 O/\P5 O))(k:P0->∀O,P1 O->P2 O->P3 O->P4 O->P5 O->G):G:=h.rec (λh1 h2=>h2.rec (λO h3=>h3.rec (λh4 h5=>h5.rec (λh6 h7=>h7.rec (λh8 h9=>h9.rec (k h1 O h4 h6 h8))))))
theorem sR{A0:Sort _}{P0:Prop}{P1 P2 P3:A0->Prop}{G:Prop}(h:P0/\(∃O,P1 O/\P2 O/\P3 O))(k:P0->∀O,P1 O->P2 O->P3 O->G):G:=h.rec (λh1 h2=>h2.rec (λO h3=>h3.rec (λh4 h5=>h5.rec (k h1 O h4))))
theorem eX{A0:Sort _}{P0:Prop}{P1 P2:A0->Prop}{G:Prop}(h:P0/\(∃O,P1 O/\P2 O))(k:P0->∀O,P1 O->P2 O->G):G:=h.rec (λh1 h2=>h2.rec (λO h3=>h3.rec (k h1 O)))
theorem uq{A0 A1:Sort _}{P0:Prop}{P1 P2 P3 P4:A0->A1->Prop}{G:Prop}(h:P0/\(∃O,∃x1,P1 O x1/\P2 O x1/\P3 O x1/\P4 O x1))(k:P0->∀O x1,P1 O x1->P2 O x1->P3 O x1->P4 O x1->G):G:=h.rec (λh1 h2=>h2.rec (λO h3=>h3.rec (λx1 h4=>h4.rec (λh5 h6=>h6.rec (λh7 h8=>h8.rec (k h1 O x1 h5 h7))))))
theorem aR{A0 A1:Sort _}{P0:Prop}{P1 P2 P3:A0->A1->Prop}{G:Prop}(h:P0/\(∃O,∃x1,P1 O x1/\P2 O x1/\P3 O x1))(k:P0->∀O x1,P1 O x1->P2 O x1->P3 O x1->G):G:=h.rec (λh1 h2=>h2.rec (λO h3=>h3.rec (λx1 h4=>h4.rec (λh5 h6=>h6.rec (k h1 O x1 h5)))))
theorem rV{A0 A1 A2:Sort _}{P0:Prop}{P1 P2:A0->A1->Prop}{P3 P4:A0->A1->A2->Prop}{G:Prop}(h:P0/\(∃O,∃x1,P1 O x1/\P2 O x1/\(∃x2,P3 O x1 x2/\P4 O x1 x2)))(k:P0->∀O x1,P1 O x1->P2 O x1->∀x2,P3 O x1 x2->P4 O x1 x2->G):G:=h.rec (λh1 h2=>h2.rec (λO h3=>h3.rec (λx1 h4=>h4.rec (λh5 h6=>h6.rec (λh7 h8=>h8.rec (λx2 h9=>h9.rec (k h1 O x1 h5 h7 x2)))))))
theorem kz{A0 A1 A2 A3 A4:Sort _}{P0:Prop}{P1 P2:A0->A1->Prop}{P3:A0->A1->A2->A3->Prop}{P4 P5 P6 P7:A0->A1->A2->A3->A4->Prop}{G:Prop}(h:P0/\(∃O,∃x1,P1 O x1/\P2 O x1/\(∃x2,∃x3,P3 O x1 x2 x3/\(∃x4,P4 O x1 x2 x3 x4/\P5 O x1 x2 x3 x4/\P6 O x1 x2 x3 x4/\P7 O x1 x2 x3 x4))))(k:P0->∀O x1,P1 O x1->P2 O x1->∀x2 x3,P3 O x1 x2 x3->∀x4,P4 O x1 x2 x3 x4->P5 O x1 x2 x3 x4->P6 O x1 x2 x3 x4->P7 O x1 x2 x3 x4->G):G:=h.rec (λh1 h2=>h2.rec (λO h3=>h3.rec (λx1 h4=>h4.rec (λh5 h6=>h6.rec (λh7 h8=>h8.rec (λx2 h9=>h9.rec (λx3 iY=>iY.rec (λl6 t9=>t9.rec (λx4 CD=>CD.rec (λyJ I4=>I4.rec (λZC Nr=>Nr.rec (k h1 O x1 h5 h7 x2 x3 l6 x4 yJ ZC))))))))))))
theorem iz{A0 A1:Sort _}{P0:Prop}{P1 P2:A0->A1->Prop}{G:Prop}(h:P0/\(∃O,∃x1,P1 O x1/\P2 O x1))(k:P0->∀O x1,P1 O x1->P2 O x1->G):G:=h.rec (λh1 h2=>h2.rec (λO h3=>h3.rec (λx1 h4=>h4.rec (k h1 O x1))))
theorem eR{A0 A1 A2:Sort _}{P0:Prop}{P1 P2 P3:A0->A1->A2->Prop}{G:Prop}(h:P0/\(∃O,∃x1,∃x2,P1 O x1 x2/\P2 O x1 x2/\P3 O x1 x2))(k:P0->∀O x1 x2,P1 O x1 x2->P2 O x1 x2->P3 O x1 x2->G):G:=h.rec (λh1 h2=>h2.rec (λO h3=>h3.rec (λx1 h4=>h4.rec (λx2 h5=>h5.rec (λh6 h7=>h7.rec (k h1 O x1 x2 h6))))))
theorem FX{A0 A1 A2:Sort _}{P0:Prop}{P1:A0->A1->A2->Prop}{G:Prop}(h:P0/\(∃O,∃x1,∃x2,P1 O x1 x2))(k:P0->∀O x1 x2,P1 O x1 x2->G):G:=h.rec (λh1 h2=>h2.rec (λO h3=>h3.rec (λx1 h4=>h4.rec (k h1 O x1))))
theorem FV{A0:Sort _}{P0 P1:A0->Prop}{P2:Prop}{G:Prop}(h:(∃O,P0 O/\P1 O)/\P2)(k:∀O,P0 O->P1 O->P2->G):G:=h.rec (λh1 h2=>h1.rec (λO h3=>h3.rec (λh4 h5=>k O h4 h5 h2)))
theorem FU{A0:Sort _}{P0:A0->Prop}{P1 P2:Prop}{G:Prop}(h:(∃O,P0 O)/\P1/\P2)(k:∀O,P0 O->P1->P2->G):G:=h.rec (λh1 h2=>h1.rec (λO h3=>h2.rec (k O h3)))
theorem wy{B0 B1:Type}{P0 P1 P2:B0->B1->Prop}{G:Prop}(h:mh λO x1=>mz (P0 O x1) (P1 O x1) (P2 O x1))(k:∀O x1,P0 O x1->P1 O x1->P2 O x1->G):G:=h.rec (λO x1 h1=>h1.rec (k O x1))
theorem gg{B0 B1:Type}{P0 P1 P2 P3:B0->B1->Prop}{G:Prop}(h:mh λO x1=>rC (P0 O x1) (P1 O x1) (P2 O x1) (P3 O x1))(k:∀O x1,P0 O x1->P1 O x1->P2 O x1->P3 O x1->G):G:=h.rec (λO x1 h1=>h1.rec (k O x1))
theorem d5{B0 B1:Type}{P0 P1 P2 P3 P4:B0->B1->Prop}{G:Prop}(h:mh λO x1=>sS (P0 O x1) (P1 O x1) (P2 O x1) (P3 O x1) (P4 O x1))(k:∀O x1,P0 O x1->P1 O x1->P2 O x1->P3 O x1->P4 O x1->G):G:=h.rec (λO x1 h1=>h1.rec (k O x1))
theorem nY{B0 B1:Type}{P0 P1 P2 P3 P4 P5 P6:B0->B1->Prop}{G:Prop}(h:mh λO x1=>DO (P0 O x1) (P1 O x1) (P2 O x1) (P3 O x1) (P4 O x1) (P5 O x1) (P6 O x1))(k:∀O x1,P0 O x1->P1 O x1->P2 O x1->P3 O x1->P4 O x1->P5 O x1->P6 O x1->G):G:=h.rec (λO x1 h1=>h1.rec (k O x1))
theorem gp{B0 B1:Type}{P0 P1 P2 P3 P4 P5 P6 P7:B0->B1->Prop}{G:Prop}(h:mh λO x1=>DX (P0 O x1) (P1 O x1) (P2 O x1) (P3 O x1) (P4 O x1) (P5 O x1) (P6 O x1) (P7 O x1))(k:∀O x1,P0 O x1->P1 O x1->P2 O x1->P3 O x1->P4 O x1->P5 O x1->P6 O x1->P7 O x1->G):G:=h.rec (λO x1 h1=>h1.rec (k O x1))
theorem rx{B0 B1:Type}{P0 P1 P2 P3 P4 P5 P6 P7 P8:B0->B1->Prop}{G:Prop}(h:mh λO x1=>An9 (P0 O x1) (P1 O x1) (P2 O x1) (P3 O x1) (P4 O x1) (P5 O x1) (P6 O x1) (P7 O x1) (P8 O x1))(k:∀O x1,P0 O x1->P1 O x1->P2 O x1->P3 O x1->P4 O x1->P5 O x1->P6 O x1->P7 O x1->P8 O x1->G):G:=h.rec (λO x1 h1=>h1.rec (k O x1))
theorem DL{B0 B1 B2:Type}{P0 P1 P2:B0->B1->B2->Prop}{G:Prop}(h:DW λO x1 x2=>mz (P0 O x1 x2) (P1 O x1 x2) (P2 O x1 x2))(k:∀O x1 x2,P0 O x1 x2->P1 O x1 x2->P2 O x1 x2->G):G:=h.rec (λO x1 x2 h1=>h1.rec (k O x1 x2))
theorem xH{B0 B1 B2:Type}{P0 P1 P2 P3 P4:B0->B1->B2->Prop}{G:Prop}(h:DW λO x1 x2=>sS (P0 O x1 x2) (P1 O x1 x2) (P2 O x1 x2) (P3 O x1 x2) (P4 O x1 x2))(k:∀O x1 x2,P0 O x1 x2->P1 O x1 x2->P2 O x1 x2->P3 O x1 x2->P4 O x1 x2->G):G:=h.rec (λO x1 x2 h1=>h1.rec (k O x1 x2))
theorem uo{B0 B1 B2:Type}{P0 P1 P2 P3 P4 P5 P6:B0->B1->B2->Prop}{G:Prop}(h:DW λO x1 x2=>DO (P0 O x1 x2) (P1 O x1 x2) (P2 O x1 x2) (P3 O x1 x2) (P4 O x1 x2) (P5 O x1 x2) (P6 O x1 x2))(k:∀O x1 x2,P0 O x1 x2->P1 O x1 x2->P2 O x1 x2->P3 O x1 x2->P4 O x1 x2->P5 O x1 x2->P6 O x1 x2->G):G:=h.rec (λO x1 x2 h1=>h1.rec (k O x1 x2))
theorem i9{B0 B1 B2:Type}{P0 P1 P2 P3 P4 P5 P6 P7:B0->B1->B2->Prop}{G:Prop}(h:DW λO x1 x2=>DX (P0 O x1 x2) (P1 O x1 x2) (P2 O x1 x2) (P3 O x1 x2) (P4 O x1 x2) (P5 O x1 x2) (P6 O x1 x2) (P7 O x1 x2))(k:∀O x1 x2,P0 O x1 x2->P1 O x1 x2->P2 O x1 x2->P3 O x1 x2->P4 O x1 x2->P5 O x1 x2->P6 O x1 x2->P7 O x1 x2->G):G:=h.rec (λO x1 x2 h1=>h1.rec (k O x1 x2))
theorem wx{B0 B1 B2 B3:Type}{P0 P1 P2 P3 P4 P5:B0->B1->B2->B3->Prop}{G:Prop}(h:GZ λO x1 x2 x3=>An6 (P0 O x1 x2 x3) (P1 O x1 x2 x3) (P2 O x1 x2 x3) (P3 O x1 x2 x3) (P4 O x1 x2 x3) (P5 O x1 x2 x3))(k:∀O x1 x2 x3,P0 O x1 x2 x3->P1 O x1 x2 x3->P2 O x1 x2 x3->P3 O x1 x2 x3->P4 O x1 x2 x3->P5 O x1 x2 x3->G):G:=h.rec (λO x1 x2 x3 h1=>h1.rec (k O x1 x2 x3))
theorem j5{B0 B1 B2 B3:Type}{P0 P1 P2 P3 P4 P5 P6:B0->B1->B2->B3->Prop}{G:Prop}(h:GZ λO x1 x2 x3=>DO (P0 O x1 x2 x3) (P1 O x1 x2 x3) (P2 O x1 x2 x3) (P3 O x1 x2 x3) (P4 O x1 x2 x3) (P5 O x1 x2 x3) (P6 O x1 x2 x3))(k:∀O x1 x2 x3,P0 O x1 x2 x3->P1 O x1 x2 x3->P2 O x1 x2 x3->P3 O x1 x2 x3->P4 O x1 x2 x3->P5 O x1 x2 x3->P6 O x1 x2 x3->G):G:=h.rec (λO x1 x2 x3 h1=>h1.rec (k O x1 x2 x3))
theorem rU{B0 B1 B2 B3 B4 B5 B6 B7:Type}{P0 P1 P2 P3 P4 P5 P6 P7:B0->B1->B2->B3->B4->B5->B6->B7->Prop}{G:Prop}(h:Ex8 λO x1 x2 x3 x4 x5 x6 x7=>DX (P0 O x1 x2 x3 x4 x5 x6 x7) (P1 O x1 x2 x3 x4 x5 x6 x7) (P2 O x1 x2 x3 x4 x5 x6 x7) (P3 O x1 x2 x3 x4 x5 x6 x7) (P4 O x1 x2 x3 x4 x5 x6 x7) (P5 O x1 x2 x3 x4 x5 x6 x7) (P6 O x1 x2 x3 x4 x5 x6 x7) (P7 O x1 x2 x3 x4 x5 x6 x7))(k:∀O x1 x2 x3 x4 x5 x6 x7,P0 O x1 x2 x3 x4 x5 x6 x7->P1 O x1 x2 x3 x4 x5 x6 x7->P2 O x1 x2 x3 x4 x5 x6 x7->P3 O x1 x2 x3 x4 x5 x6 x7->P4 O x1 x2 x3 x4 x5 x6 x7->P5 O x1 x2 x3 x4 x5 x6 x7->P6 O x1 x2 x3 x4 x5 x6 x7->P7 O x1 x2 x3 x4 x5 x6 x7->G):G:=h.rec (λO x1 x2 x3 x4 x5 x6 x7 h1=>h1.rec (k O x1 x2 x3 x4 x5 x6 x7))
theorem fp{P0 P1 P2:Prop}{G:Prop}(h:mz (P0) (P1) (P2))(k:P0->P1->P2->G):G:=h.rec k
theorem pj{A0:Sort _}{P0 P1 P2 P3 P4:A0->Prop}{G:Prop}(h:∃O,P0 O/\P1 O/\P2 O/\P3 O/\P4 O)(k:∀O,P0 O->P1 O->P2 O->P3 O->P4 O->G):G:=h.rec (λO h1=>h1.rec (λh2 h3=>h3.rec (λh4 h5=>h5.rec (λh6 h7=>h7.rec (k O h2 h4 h6)))))
theorem cZ{A0:Sort _}{P0 P1 P2 P3:A0->Prop}{G:Prop}(h:∃O,P0 O/\P1 O/\P2 O/\P3 O)(k:∀O,P0 O->P1 O->P2 O->P3 O->G):G:=h.rec (λO h1=>h1.rec (λh2 h3=>h3.rec (λh4 h5=>h5.rec (k O h2 h4))))
theorem aK{A0:Sort _}{P0 P1 P2:A0->Prop}{G:Prop}(h:∃O,P0 O/\P1 O/\P2 O)(k:∀O,P0 O->P1 O->P2 O->G):G:=h.rec (λO h1=>h1.rec (λh2 h3=>h3.rec (k O h2)))
theorem xG{A0 A1:Sort _}{P0 P1:A0->Prop}{P2 P3:A0->A1->Prop}{G:Prop}(h:∃O,P0 O/\P1 O/\(∃x1,P2 O x1/\P3 O x1))(k:∀O,P0 O->P1 O->∀x1,P2 O x1->P3 O x1->G):G:=h.rec (λO h1=>h1.rec (λh2 h3=>h3.rec (λh4 h5=>h5.rec (λx1 h6=>h6.rec (k O h2 h4 x1)))))
theorem fQ{A0 A1:Sort _}{P0 P1:A0->Prop}{P2:A0->A1->Prop}{G:Prop}(h:∃O,P0 O/\P1 O/\(∃x1,P2 O x1))(k:∀O,P0 O->P1 O->∀x1,P2 O x1->G):G:=h.rec (λO h1=>h1.rec (λh2 h3=>h3.rec (λh4 h5=>h5.rec (k O h2 h4))))
theorem ah{A0:Sort _}{P0 P1:A0->Prop}{G:Prop}(h:∃O,P0 O/\P1 O)(k:∀O,P0 O->P1 O->G):G:=h.rec (λO h1=>h1.rec (k O))
theorem DK{A0 A1:Sort _}{P0:A0->Prop}{P1 P2:A0->A1->Prop}{G:Prop}(h:∃O,P0 O/\(∃x1,P1 O x1/\P2 O x1))(k:∀O,P0 O->∀x1,P1 O x1->P2 O x1->G):G:=h.rec (λO h1=>h1.rec (λh2 h3=>h3.rec (λx1 h4=>h4.rec (k O h2 x1))))
theorem DJ{A0 A1:Sort _}{P0 P1:A0->A1->Prop}{P2:A0->Prop}{G:Prop}(h:∃O,(∃x1,P0 O x1/\P1 O x1)/\P2 O)(k:∀O x1,P0 O x1->P1 O x1->P2 O->G):G:=h.rec (λO h1=>h1.rec (λh2 h3=>h2.rec (λx1 h4=>h4.rec (λh5 h6=>k O x1 h5 h6 h3))))
theorem iy{A0 A1 A2 A3:Sort _}{P0 P1 P2 P3:A0->A1->A2->A3->Prop}{P4:A0->Prop}{G:Prop}(h:∃O,(∃x1,∃x2,∃x3,P0 O x1 x2 x3/\P1 O x1 x2 x3/\P2 O x1 x2 x3/\P3 O x1 x2 x3)/\P4 O)(k:∀O x1 x2 x3,P0 O x1 x2 x3->P1 O x1 x2 x3->P2 O x1 x2 x3->P3 O x1 x2 x3->P4 O->G):G:=h.rec (λO h1=>h1.rec (λh2 h3=>h2.rec (λx1 h4=>h4.rec (λx2 h5=>h5.rec (λx3 h6=>h6.rec (λh7 h8=>h8.rec (λh9 iY=>iY.rec (λl6 t9=>k O x1 x2 x3 h7 h9 l6 t9 h3))))))))
theorem ix{A0 A1 A2 A3:Sort _}{P0 P1:A0->A1->A2->A3->Prop}{P2:A0->Prop}{G:Prop}(h:∃O,(∃x1,∃x2,∃x3,P0 O x1 x2 x3/\P1 O x1 x2 x3)/\P2 O)(k:∀O x1 x2 x3,P0 O x1 x2 x3->P1 O x1 x2 x3->P2 O->G):G:=h.rec (λO h1=>h1.rec (λh2 h3=>h2.rec (λx1 h4=>h4.rec (λx2 h5=>h5.rec (λx3 h6=>h6.rec (λh7 h8=>k O x1 x2 x3 h7 h8 h3))))))
theorem bK{A0:Sort _}{P0:A0->Prop}{G:Prop}(h:∃O,P0 O)(k:∀O,P0 O->G):G:=h.rec k
theorem gn{A0:Sort _}{P0 P1 P2:A0->Prop}{G:Prop}(h:∃O,mz (P0 O) (P1 O) (P2 O))(k:∀O,P0 O->P1 O->P2 O->G):G:=h.rec (λO h1=>h1.rec (k O))
theorem cS{A0:Sort _}{P0 P1 P2 P3:A0->Prop}{G:Prop}(h:∃O,rC (P0 O) (P1 O) (P2 O) (P3 O))(k:∀O,P0 O->P1 O->P2 O->P3 O->G):G:=h.rec (λO h1=>h1.rec (k O))
theorem fz{A0:Sort _}{P0 P1 P2 P3 P4:A0->Prop}{G:Prop}(h:∃O,sS (P0 O) (P1 O) (P2 O) (P3 O) (P4 O))(k:∀O,P0 O->P1 O->P2 O->P3 O->P4 O->G):G:=h.rec (λO h1=>h1.rec (k O))
theorem iw{A0 A1:Sort _}{P0 P1 P2 P3 P4 P5 P6 P7:A0->A1->Prop}{G:Prop}(h:∃O,∃x1,P0 O x1/\P1 O x1/\P2 O x1/\P3 O x1/\P4 O x1/\P5 O x1/\P6 O x1/\P7 O x1)(k:∀O x1,P0 O x1->P1 O x1->P2 O x1->P3 O x1->P4 O x1->P5 O x1->P6 O x1->P7 O x1->G):G:=h.rec (λO h1=>h1.rec (λx1 h2=>h2.rec (λh3 h4=>h4.rec (λh5 h6=>h6.rec (λh7 h8=>h8.rec (λh9 iY=>iY.rec (λl6 t9=>t9.rec (λCD yJ=>yJ.rec (k O x1 h3 h5 h7 h9 l6 CD)))))))))
theorem ju{A0 A1:Sort _}{P0 P1 P2 P3 P4 P5 P6:A0->A1->Prop}{G:Prop}(h:∃O,∃x1,P0 O x1/\P1 O x1/\P2 O x1/\P3 O x1/\P4 O x1/\P5 O x1/\P6 O x1)(k:∀O x1,P0 O x1->P1 O x1->P2 O x1->P3 O x1->P4 O x1->P5 O x1->P6 O x1->G):G:=h.rec (λO h1=>h1.rec (λx1 h2=>h2.rec (λh3 h4=>h4.rec (λh5 h6=>h6.rec (λh7 h8=>h8.rec (λh9 iY=>iY.rec (λl6 t9=>t9.rec (k O x1 h3 h5 h7 h9 l6))))))))
theorem dj{A0 A1:Sort _}{P0 P1 P2 P3 P4 P5:A0->A1->Prop}{G:Prop}(h:∃O,∃x1,P0 O x1/\P1 O x1/\P2 O x1/\P3 O x1/\P4 O x1/\P5 O x1)(k:∀O x1,P0 O x1->P1 O x1->P2 O x1->P3 O x1->P4 O x1->P5 O x1->G):G:=h.rec (λO h1=>h1.rec (λx1 h2=>h2.rec (λh3 h4=>h4.rec (λh5 h6=>h6.rec (λh7 h8=>h8.rec (λh9 iY=>iY.rec (k O x1 h3 h5 h7 h9)))))))
theorem g0{A0 A1:Sort _}{P0 P1 P2 P3 P4:A0->A1->Prop}{G:Prop}(h:∃O,∃x1,P0 O x1/\P1 O x1/\P2 O x1/\P3 O x1/\P4 O x1)(k:∀O x1,P0 O x1->P1 O x1->P2 O x1->P3 O x1->P4 O x1->G):G:=h.rec (λO h1=>h1.rec (λx1 h2=>h2.rec (λh3 h4=>h4.rec (λh5 h6=>h6.rec (λh7 h8=>h8.rec (k O x1 h3 h5 h7))))))
theorem dF{A0 A1:Sort _}{P0 P1 P2 P3:A0->A1->Prop}{G:Prop}(h:∃O,∃x1,P0 O x1/\P1 O x1/\P2 O x1/\P3 O x1)(k:∀O x1,P0 O x1->P1 O x1->P2 O x1->P3 O x1->G):G:=h.rec (λO h1=>h1.rec (λx1 h2=>h2.rec (λh3 h4=>h4.rec (λh5 h6=>h6.rec (k O x1 h3 h5)))))
theorem aV{A0 A1:Sort _}{P0 P1 P2:A0->A1->Prop}{G:Prop}(h:∃O,∃x1,P0 O x1/\P1 O x1/\P2 O x1)(k:∀O x1,P0 O x1->P1 O x1->P2 O x1->G):G:=h.rec (λO h1=>h1.rec (λx1 h2=>h2.rec (λh3 h4=>h4.rec (k O x1 h3))))
theorem mf{A0 A1 A2:Sort _}{P0 P1:A0->A1->Prop}{P2 P3 P4 P5 P6 P7:A0->A1->A2->Prop}{G:Prop}(h:∃O,∃x1,P0 O x1/\P1 O x1/\(∃x2,P2 O x1 x2/\P3 O x1 x2/\P4 O x1 x2/\P5 O x1 x2/\P6 O x1 x2/\P7 O x1 x2))(k:∀O x1,P0 O x1->P1 O x1->∀x2,P2 O x1 x2->P3 O x1 x2->P4 O x1 x2->P5 O x1 x2->P6 O x1 x2->P7 O x1 x2->G):G:=h.rec (λO h1=>h1.rec (λx1 h2=>h2.rec (λh3 h4=>h4.rec (λh5 h6=>h6.rec (λx2 h7=>h7.rec (λh8 h9=>h9.rec (λiY l6=>l6.rec (λt9 CD=>CD.rec (λyJ I4=>I4.rec (k O x1 h3 h5 x2 h8 iY t9 yJ))))))))))
theorem pH{A0 A1 A2:Sort _}{P0 P1:A0->A1->Prop}{P2 P3 P4 P5:A0->A1->A2->Prop}{G:Prop}(h:∃O,∃x1,P0 O x1/\P1 O x1/\(∃x2,P2 O x1 x2/\P3 O x1 x2/\P4 O x1 x2/\P5 O x1 x2))(k:∀O x1,P0 O x1->P1 O x1->∀x2,P2 O x1 x2->P3 O x1 x2->P4 O x1 x2->P5 O x1 x2->G):G:=h.rec (λO h1=>h1.rec (λx1 h2=>h2.rec (λh3 h4=>h4.rec (λh5 h6=>h6.rec (λx2 h7=>h7.rec (λh8 h9=>h9.rec (λiY l6=>l6.rec (k O x1 h3 h5 x2 h8 iY))))))))
theorem mx{A0 A1 A2:Sort _}{P0 P1:A0->A1->Prop}{P2 P3 P4:A0->A1->A2->Prop}{G:Prop}(h:∃O,∃x1,P0 O x1/\P1 O x1/\(∃x2,P2 O x1 x2/\P3 O x1 x2/\P4 O x1 x2))(k:∀O x1,P0 O x1->P1 O x1->∀x2,P2 O x1 x2->P3 O x1 x2->P4 O x1 x2->G):G:=h.rec (λO h1=>h1.rec (λx1 h2=>h2.rec (λh3 h4=>h4.rec (λh5 h6=>h6.rec (λx2 h7=>h7.rec (λh8 h9=>h9.rec (k O x1 h3 h5 x2 h8)))))))
theorem ph{A0 A1 A2:Sort _}{P0 P1:A0->A1->Prop}{P2 P3:A0->A1->A2->Prop}{G:Prop}(h:∃O,∃x1,P0 O x1/\P1 O x1/\(∃x2,P2 O x1 x2/\P3 O x1 x2))(k:∀O x1,P0 O x1->P1 O x1->∀x2,P2 O x1 x2->P3 O x1 x2->G):G:=h.rec (λO h1=>h1.rec (λx1 h2=>h2.rec (λh3 h4=>h4.rec (λh5 h6=>h6.rec (λx2 h7=>h7.rec (k O x1 h3 h5 x2))))))
theorem b0{A0 A1:Sort _}{P0 P1:A0->A1->Prop}{G:Prop}(h:∃O,∃x1,P0 O x1/\P1 O x1)(k:∀O x1,P0 O x1->P1 O x1->G):G:=h.rec (λO h1=>h1.rec (λx1 h2=>h2.rec (k O x1)))
theorem i8{A0 A1 A2:Sort _}{P0:A0->A1->Prop}{P1 P2 P3 P4:A0->A1->A2->Prop}{G:Prop}(h:∃O,∃x1,P0 O x1/\(∃x2,P1 O x1 x2/\P2 O x1 x2/\P3 O x1 x2/\P4 O x1 x2))(k:∀O x1,P0 O x1->∀x2,P1 O x1 x2->P2 O x1 x2->P3 O x1 x2->P4 O x1 x2->G):G:=h.rec (λO h1=>h1.rec (λx1 h2=>h2.rec (λh3 h4=>h4.rec (λx2 h5=>h5.rec (λh6 h7=>h7.rec (λh8 h9=>h9.rec (k O x1 h3 x2 h6 h8)))))))
theorem me{A0 A1:Sort _}{P0:A0->A1->Prop}{G:Prop}(h:∃O,∃x1,P0 O x1)(k:∀O x1,P0 O x1->G):G:=h.rec (λO h1=>h1.rec (k O))
theorem pG{A0 A1 A2:Sort _}{P0 P1 P2 P3 P4 P5:A0->A1->A2->Prop}{G:Prop}(h:∃O,∃x1,∃x2,P0 O x1 x2/\P1 O x1 x2/\P2 O x1 x2/\P3 O x1 x2/\P4 O x1 x2/\P5 O x1 x2)(k:∀O x1 x2,P0 O x1 x2->P1 O x1 x2->P2 O x1 x2->P3 O x1 x2->P4 O x1 x2->P5 O x1 x2->G):G:=h.rec (λO h1=>h1.rec (λx1 h2=>h2.rec (λx2 h3=>h3.rec (λh4 h5=>h5.rec (λh6 h7=>h7.rec (λh8 h9=>h9.rec (λiY l6=>l6.rec (k O x1 x2 h4 h6 h8 iY))))))))
theorem fy{A0 A1 A2:Sort _}{P0 P1 P2 P3:A0->A1->A2->Prop}{G:Prop}(h:∃O,∃x1,∃x2,P0 O x1 x2/\P1 O x1 x2/\P2 O x1 x2/\P3 O x1 x2)(k:∀O x1 x2,P0 O x1 x2->P1 O x1 x2->P2 O x1 x2->P3 O x1 x2->G):G:=h.rec (λO h1=>h1.rec (λx1 h2=>h2.rec (λx2 h3=>h3.rec (λh4 h5=>h5.rec (λh6 h7=>h7.rec (k O x1 x2 h4 h6))))))
theorem sQ{A0 A1 A2:Sort _}{P0 P1 P2:A0->A1->A2->Prop}{G:Prop}(h:∃O,∃x1,∃x2,P0 O x1 x2/\P1 O x1 x2/\P2 O x1 x2)(k:∀O x1 x2,P0 O x1 x2->P1 O x1 x2->P2 O x1 x2->G):G:=h.rec (λO h1=>h1.rec (λx1 h2=>h2.rec (λx2 h3=>h3.rec (λh4 h5=>h5.rec (k O x1 x2 h4)))))
theorem nX{A0 A1 A2:Sort _}{P0 P1:A0->A1->A2->Prop}{G:Prop}(h:∃O,∃x1,∃x2,P0 O x1 x2/\P1 O x1 x2)(k:∀O x1 x2,P0 O x1 x2->P1 O x1 x2->G):G:=h.rec (λO h1=>h1.rec (λx1 h2=>h2.rec (λx2 h3=>h3.rec (k O x1 x2))))
theorem rt{A0 A1 A2:Sort _}{P0:A0->A1->A2->Prop}{G:Prop}(h:∃O,∃x1,∃x2,P0 O x1 x2)(k:∀O x1 x2,P0 O x1 x2->G):G:=h.rec (λO h1=>h1.rec (λx1 h2=>h2.rec (k O x1)))
theorem rq{A0 A1 A2 A3:Sort _}{P0 P1 P2 P3 P4:A0->A1->A2->A3->Prop}{G:Prop}(h:∃O,∃x1,∃x2,∃x3,P0 O x1 x2 x3/\P1 O x1 x2 x3/\P2 O x1 x2 x3/\P3 O x1 x2 x3/\P4 O x1 x2 x3)(k:∀O x1 x2 x3,P0 O x1 x2 x3->P1 O x1 x2 x3->P2 O x1 x2 x3->P3 O x1 x2 x3->P4 O x1 x2 x3->G):G:=h.rec (λO h1=>h1.rec (λx1 h2=>h2.rec (λx2 h3=>h3.rec (λx3 h4=>h4.rec (λh5 h6=>h6.rec (λh7 h8=>h8.rec (λh9 iY=>iY.rec (k O x1 x2 x3 h5 h7 h9))))))))
theorem um{A0 A1 A2 A3:Sort _}{P0 P1 P2 P3:A0->A1->A2->A3->Prop}{G:Prop}(h:∃O,∃x1,∃x2,∃x3,P0 O x1 x2 x3/\P1 O x1 x2 x3/\P2 O x1 x2 x3/\P3 O x1 x2 x3)(k:∀O x1 x2 x3,P0 O x1 x2 x3->P1 O x1 x2 x3->P2 O x1 x2 x3->P3 O x1 x2 x3->G):G:=h.rec (λO h1=>h1.rec (λx1 h2=>h2.rec (λx2 h3=>h3.rec (λx3 h4=>h4.rec (λh5 h6=>h6.rec (λh7 h8=>h8.rec (k O x1 x2 x3 h5 h7)))))))
theorem wu{A0 A1 A2 A3:Sort _}{P0 P1:A0->A1->A2->A3->Prop}{G:Prop}(h:∃O,∃x1,∃x2,∃x3,P0 O x1 x2 x3/\P1 O x1 x2 x3)(k:∀O x1 x2 x3,P0 O x1 x2 x3->P1 O x1 x2 x3->G):G:=h.rec (λO h1=>h1.rec (λx1 h2=>h2.rec (λx2 h3=>h3.rec (λx3 h4=>h4.rec (k O x1 x2 x3)))))
theorem pT{A0 A1 A2 A3 A4:Sort _}{P0:A0->A1->A2->A3->A4->Prop}{G:Prop}(h:∃O,∃x1,∃x2,∃x3,∃x4,P0 O x1 x2 x3 x4)(k:∀O x1 x2 x3 x4,P0 O x1 x2 x3 x4->G):G:=h.rec (λO h1=>h1.rec (λx1 h2=>h2.rec (λx2 h3=>h3.rec (λx3 h4=>h4.rec (k O x1 x2 x3)))))
theorem wq{A0 A1 A2 A3 A4 A5:Sort _}{P0:A0->A1->A2->A3->A4->A5->Prop}{G:Prop}(h:∃O,∃x1,∃x2,∃x3,∃x4,∃x5,P0 O x1 x2 x3 x4 x5)(k:∀O x1 x2 x3 x4 x5,P0 O x1 x2 x3 x4 x5->G):G:=h.rec (λO h1=>h1.rec (λx1 h2=>h2.rec (λx2 h3=>h3.rec (λx3 h4=>h4.rec (λx4 h5=>h5.rec (k O x1 x2 x3 x4))))))
theorem iE{α β:Type}{f:α->β}{l:List α}{i:Nat}{x:β}(h:(l.map f)[i]? =some x):∃p,l[i]? =some p/\f p=x:=by rw[getElem?_map] at h;exact Option.map_eq_some_iff.mp h
theorem oO{A0:Sort _}{P0 P1:A0->Prop}{P2 P3:Prop}(O:A0)(h2:P0 O)(h3:P1 O)(h4:P2)(h5:P3):(((∃O,(P0 O/\P1 O))/\P2)/\P3):=⟨⟨⟨O,⟨h2,h3⟩⟩,h4⟩,h5⟩
theorem d4{P0 P1 P2 P3 P4 P5 P6 P7 P8 P9 GW:Prop}(h1:P0)(h2:P1)(h3:P2)(h4:P3)(h5:P4)(h6:P5)(h7:P6)(h8:P7)(h9:P8)(iY:P9)(l6:GW):(P0/\(P1/\(P2/\(P3/\(P4/\(P5/\(P6/\(P7/\(P8/\(P9/\GW)))))))))):=⟨h1,⟨h2,⟨h3,⟨h4,⟨h5,⟨h6,⟨h7,⟨h8,⟨h9,⟨iY,l6⟩⟩⟩⟩⟩⟩⟩⟩⟩⟩
theorem cC{P0 P1 P2 P3 P4 P5 P6 P7:Prop}(h1:P0)(h2:P1)(h3:P2)(h4:P3)(h5:P4)(h6:P5)(h7:P6)(h8:P7):(P0/\(P1/\(P2/\(P3/\(P4/\(P5/\(P6/\P7))))))):=⟨h1,⟨h2,⟨h3,⟨h4,⟨h5,⟨h6,⟨h7,h8⟩⟩⟩⟩⟩⟩⟩
theorem iu{P0 P1 P2 P3 P4 P5 P6:Prop}(h1:P0)(h2:P1)(h3:P2)(h4:P3)(h5:P4)(h6:P5)(h7:P6):(P0/\(P1/\(P2/\(P3/\(P4/\(P5/\P6)))))):=⟨h1,⟨h2,⟨h3,⟨h4,⟨h5,⟨h6,h7⟩⟩⟩⟩⟩⟩
theorem dZ{P0 P1 P2 P3 P4 P5:Prop}(h1:P0)(h2:P1)(h3:P2)(h4:P3)(h5:P4)(h6:P5):(P0/\(P1/\(P2/\(P3/\(P4/\P5))))):=⟨h1,⟨h2,⟨h3,⟨h4,⟨h5,h6⟩⟩⟩⟩⟩
theorem aQ{P0 P1 P2 P3 P4:Prop}(h1:P0)(h2:P1)(h3:P2)(h4:P3)(h5:P4):(P0/\(P1/\(P2/\(P3/\P4)))):=⟨h1,⟨h2,⟨h3,⟨h4,h5⟩⟩⟩⟩
theorem cj{P0 P1 P2 P3:Prop}(h1:P0)(h2:P1)(h3:P2)(h4:P3):(P0/\(P1/\(P2/\P3))):=⟨h1,⟨h2,⟨h3,h4⟩⟩⟩
theorem lF{A0 A1:Sort _}{P0 P1 P2:Prop}{P3 P4 P5:A0->A1->Prop}(h1:P0)(h2:P1)(h3:P2)(O:A0)(x1:A1)(h6:P3 O x1)(h7:P4 O x1)(h8:P5 O x1):(P0/\(P1/\(P2/\(∃O,(∃x1,(P3 O x1/\(P4 O x1/\P5 O x1))))))):=⟨h1,⟨h2,⟨h3,⟨O,⟨x1,⟨h6,⟨h7,h8⟩⟩⟩⟩⟩⟩⟩
theorem aN{P0 P1 P2:Prop}(h1:P0)(h2:P1)(h3:P2):(P0/\(P1/\P2)):=⟨h1,⟨h2,h3⟩⟩
theorem iQ{A0:Sort _}{P0 P1:Prop}{P2:A0->Prop}(h1:P0)(h2:P1)(O:A0)(h4:P2 O):(P0/\(P1/\(∃O,P2 O))):=⟨h1,⟨h2,⟨O,h4⟩⟩⟩
theorem lZ{A0:Sort _}{P0:Prop}{P1 P2:A0->Prop}{P3:Prop}(h1:P0)(O:A0)(h3:P1 O)(h4:P2 O)(h5:P3):(P0/\((∃O,(P1 O/\P2 O))/\P3)):=⟨h1,⟨⟨O,⟨h3,h4⟩⟩,h5⟩⟩
theorem cL{A0:Sort _}{P0:Prop}{P1 P2:A0->Prop}(h1:P0)(O:A0)(h3:P1 O)(h4:P2 O):(P0/\(∃O,(P1 O/\P2 O))):=⟨h1,⟨O,⟨h3,h4⟩⟩⟩
theorem DI{A0:Sort _}{P0:Prop}{P1:A0->Prop}(h1:P0)(O:A0)(h3:P1 O):(P0/\(∃O,P1 O)):=⟨h1,⟨O,h3⟩⟩
theorem af{A0 A1:Sort _}{P0:Prop}{P1 P2 P3:A0->A1->Prop}(h1:P0)(O:A0)(x1:A1)(h4:P1 O x1)(h5:P2 O x1)(h6:P3 O x1):(P0/\(∃O,(∃x1,(P1 O x1/\(P2 O x1/\P3 O x1))))):=⟨h1,⟨O,⟨x1,⟨h4,⟨h5,h6⟩⟩⟩⟩⟩
theorem lE{A0 A1:Sort _}{P0:Prop}{P1 P2:A0->A1->Prop}(h1:P0)(O:A0)(x1:A1)(h4:P1 O x1)(h5:P2 O x1):(P0/\(∃O,(∃x1,(P1 O x1/\P2 O x1)))):=⟨h1,⟨O,⟨x1,⟨h4,h5⟩⟩⟩⟩
theorem bS{A0 A1 A2:Sort _}{P0:Prop}{P1 P2 P3:A0->A1->A2->Prop}(h1:P0)(O:A0)(x1:A1)(x2:A2)(h5:P1 O x1 x2)(h6:P2 O x1 x2)(h7:P3 O x1 x2):(P0/\(∃O,(∃x1,(∃x2,(P1 O x1 x2/\(P2 O x1 x2/\P3 O x1 x2)))))):=⟨h1,⟨O,⟨x1,⟨x2,⟨h5,⟨h6,h7⟩⟩⟩⟩⟩⟩
theorem hH{B0 B1:Type}{P0 P1 P2 P3:B0->B1->Prop}(O:B0)(x1:B1)(h3:P0 O x1)(h4:P1 O x1)(h5:P2 O x1)(h6:P3 O x1):(mh λO x1=>(rC (P0 O x1) (P1 O x1) (P2 O x1) (P3 O x1))):=⟨O,x1,⟨h3,h4,h5,h6⟩⟩
theorem dE{B0 B1:Type}{P0 P1 P2 P3 P4:B0->B1->Prop}(O:B0)(x1:B1)(h3:P0 O x1)(h4:P1 O x1)(h5:P2 O x1)(h6:P3 O x1)(h7:P4 O x1):(mh λO x1=>(sS (P0 O x1) (P1 O x1) (P2 O x1) (P3 O x1) (P4 O x1))):=⟨O,x1,⟨h3,h4,h5,h6,h7⟩⟩
theorem gk{B0 B1:Type}{P0 P1 P2 P3 P4 P5 P6 P7:B0->B1->Prop}(O:B0)(x1:B1)(h3:P0 O x1)(h4:P1 O x1)(h5:P2 O x1)(h6:P3 O x1)(h7:P4 O x1)(h8:P5 O x1)(h9:P6 O x1)(iY:P7 O x1):(mh λO x1=>(DX (P0 O x1) (P1 O x1) (P2 O x1) (P3 O x1) (P4 O x1) (P5 O x1) (P6 O x1) (P7 O x1))):=⟨O,x1,⟨h3,h4,h5,h6,h7,h8,h9,iY⟩⟩
theorem eC{B0 B1 B2:Type}{P0 P1 P2 P3 P4 P5 P6 P7:B0->B1->B2->Prop}(O:B0)(x1:B1)(x2:B2)(h4:P0 O x1 x2)(h5:P1 O x1 x2)(h6:P2 O x1 x2)(h7:P3 O x1 x2)(h8:P4 O x1 x2)(h9:P5 O x1 x2)(iY:P6 O x1 x2)(l6:P7 O x1 x2):(DW λO x1 x2=>(DX (P0 O x1 x2) (P1 O x1 x2) (P2 O x1 x2) (P3 O x1 x2) (P4 O x1 x2) (P5 O x1 x2) (P6 O x1 x2) (P7 O x1 x2))):=⟨O,x1,x2,⟨h4,h5,h6,h7,h8,h9,iY,l6⟩⟩
theorem j4{B0 B1 B2 B3:Type}{P0 P1 P2 P3 P4 P5 P6:B0->B1->B2->B3->Prop}(O:B0)(x1:B1)(x2:B2)(x3:B3)(h5:P0 O x1 x2 x3)(h6:P1 O x1 x2 x3)(h7:P2 O x1 x2 x3)(h8:P3 O x1 x2 x3)(h9:P4 O x1 x2 x3)(iY:P5 O x1 x2 x3)(l6:P6 O x1 x2 x3):(GZ λO x1 x2 x3=>(DO (P0 O x1 x2 x3) (P1 O x1 x2 x3) (P2 O x1 x2 x3) (P3 O x1 x2 x3) (P4 O x1 x2 x3) (P5 O x1 x2 x3) (P6 O x1 x2 x3))):=⟨O,x1,x2,x3,⟨h5,h6,h7,h8,h9,iY,l6⟩⟩
theorem jt{A0:Sort _}{P0 P1 P2 P3:A0->Prop}(O:A0)(h2:P0 O)(h3:P1 O)(h4:P2 O)(h5:P3 O):(∃O,((P0 O/\(P1 O/\P2 O))/\P3 O)):=⟨O,⟨⟨h2,⟨h3,h4⟩⟩,h5⟩⟩
theorem cK{A0:Sort _}{P0 P1 P2:A0->Prop}(O:A0)(h2:P0 O)(h3:P1 O)(h4:P2 O):(∃O,((P0 O/\P1 O)/\P2 O)):=⟨O,⟨⟨h2,h3⟩,h4⟩⟩
theorem dg{A0:Sort _}{P0 P1 P2 P3:A0->Prop}(O:A0)(h2:P0 O)(h3:P1 O)(h4:P2 O)(h5:P3 O):(∃O,(P0 O/\(P1 O/\(P2 O/\P3 O)))):=⟨O,⟨h2,⟨h3,⟨h4,h5⟩⟩⟩⟩
theorem bb{A0:Sort _}{P0 P1 P2:A0->Prop}(O:A0)(h2:P0 O)(h3:P1 O)(h4:P2 O):(∃O,(P0 O/\(P1 O/\P2 O))):=⟨O,⟨h2,⟨h3,h4⟩⟩⟩
theorem ir{A0 A1:Sort _}{P0 P1:A0->Prop}{P2:A0->A1->Prop}(O:A0)(h2:P0 O)(h3:P1 O)(x1:A1)(h5:P2 O x1):(∃O,(P0 O/\(P1 O/\(∃x1,P2 O x1)))):=⟨O,⟨h2,⟨h3,⟨x1,h5⟩⟩⟩⟩
theorem dA{A0 A1:Sort _}{P0:A0->Prop}{P1:A0->A1->Prop}{P2 P3 P4:A0->Prop}(O:A0)(h2:P0 O)(x1:A1)(h4:P1 O x1)(h5:P2 O)(h6:P3 O)(h7:P4 O):(∃O,(P0 O/\((∃x1,P1 O x1)/\(P2 O/\(P3 O/\P4 O))))):=⟨O,⟨h2,⟨⟨x1,h4⟩,⟨h5,⟨h6,h7⟩⟩⟩⟩⟩
theorem aj{A0:Sort _}{P0 P1:A0->Prop}(O:A0)(h2:P0 O)(h3:P1 O):(∃O,(P0 O/\P1 O)):=⟨O,⟨h2,h3⟩⟩
theorem iP{A0:Sort _}{B1 B2:Type}{P0:A0->Prop}{P1 P2 P3:A0->B1->B2->Prop}(O:A0)(h2:P0 O)(x1:B1)(x2:B2)(h5:P1 O x1 x2)(h6:P2 O x1 x2)(h7:P3 O x1 x2):(∃O,(P0 O/\(mh λx1 x2=>(mz (P1 O x1 x2) (P2 O x1 x2) (P3 O x1 x2))))):=⟨O,⟨h2,⟨x1,x2,⟨h5,h6,h7⟩⟩⟩⟩
theorem fk{A0:Sort _}{B1 B2 B3 B4:Type}{P0:A0->Prop}{P1 P2 P3 P4 P5 P6 P7:A0->B1->B2->B3->B4->Prop}(O:A0)(h2:P0 O)(x1:B1)(x2:B2)(x3:B3)(x4:B4)(h7:P1 O x1 x2 x3 x4)(h8:P2 O x1 x2 x3 x4)(h9:P3 O x1 x2 x3 x4)(iY:P4 O x1 x2 x3 x4)(l6:P5 O x1 x2 x3 x4)(t9:P6 O x1 x2 x3 x4)(CD:P7 O x1 x2 x3 x4):(∃O,(P0 O/\(GZ λx1 x2 x3 x4=>(DO (P1 O x1 x2 x3 x4) (P2 O x1 x2 x3 x4) (P3 O x1 x2 x3 x4) (P4 O x1 x2 x3 x4) (P5 O x1 x2 x3 x4) (P6 O x1 x2 x3 x4) (P7 O x1 x2 x3 x4))))):=⟨O,⟨h2,⟨x1,x2,x3,x4,⟨h7,h8,h9,iY,l6,t9,CD⟩⟩⟩⟩
theorem kh{A0:Sort _}{B1 B2:Type}{P0 P1 P2 P3 P4 P5 P6:A0->B1->B2->Prop}{P7:A0->Prop}(O:A0)(x1:B1)(x2:B2)(h4:P0 O x1 x2)(h5:P1 O x1 x2)(h6:P2 O x1 x2)(h7:P3 O x1 x2)(h8:P4 O x1 x2)(h9:P5 O x1 x2)(iY:P6 O x1 x2)(l6:P7 O):(∃O,((mh λx1 x2=>(DO (P0 O x1 x2) (P1 O x1 x2) (P2 O x1 x2) (P3 O x1 x2) (P4 O x1 x2) (P5 O x1 x2) (P6 O x1 x2)))/\P7 O)):=⟨O,⟨⟨x1,x2,⟨h4,h5,h6,h7,h8,h9,iY⟩⟩,l6⟩⟩
theorem gf{A0:Sort _}{P0 P1 P2 P3:A0->Prop}(O:A0)(h2:P0 O)(h3:P1 O)(h4:P2 O)(h5:P3 O):(∃O,((mz (P0 O) (P1 O) (P2 O))/\P3 O)):=⟨O,⟨⟨h2,h3,h4⟩,h5⟩⟩
theorem lD{A0 A1 A2:Sort _}{P0 P1:A0->A1->Prop}{P2:A0->A1->A2->Prop}{P3:A0->Prop}(O:A0)(x1:A1)(h3:P0 O x1)(h4:P1 O x1)(x2:A2)(h6:P2 O x1 x2)(h7:P3 O):(∃O,((∃x1,(P0 O x1/\(P1 O x1/\(∃x2,P2 O x1 x2))))/\P3 O)):=⟨O,⟨⟨x1,⟨h3,⟨h4,⟨x2,h6⟩⟩⟩⟩,h7⟩⟩
theorem jZ{A0 A1:Sort _}{P0 P1 P2:A0->A1->Prop}{P3:A0->Prop}(O:A0)(x1:A1)(h3:P0 O x1)(h4:P1 O x1)(h5:P2 O x1)(h6:P3 O):(∃O,((∃x1,(mz (P0 O x1) (P1 O x1) (P2 O x1)))/\P3 O)):=⟨O,⟨⟨x1,⟨h3,h4,h5⟩⟩,h6⟩⟩
theorem dY{A0:Sort _}{P0 P1 P2:A0->Prop}(O:A0)(h2:P0 O)(h3:P1 O)(h4:P2 O):(∃O,(mz (P0 O) (P1 O) (P2 O))):=⟨O,⟨h2,h3,h4⟩⟩
theorem fi{A0:Sort _}{P0 P1 P2 P3:A0->Prop}(O:A0)(h2:P0 O)(h3:P1 O)(h4:P2 O)(h5:P3 O):(∃O,(rC (P0 O) (P1 O) (P2 O) (P3 O))):=⟨O,⟨h2,h3,h4,h5⟩⟩
theorem fx{A0:Sort _}{P0 P1 P2 P3 P4:A0->Prop}(O:A0)(h2:P0 O)(h3:P1 O)(h4:P2 O)(h5:P3 O)(h6:P4 O):(∃O,(sS (P0 O) (P1 O) (P2 O) (P3 O) (P4 O))):=⟨O,⟨h2,h3,h4,h5,h6⟩⟩
theorem m5{A0 A1:Sort _}{P0 P1 P2 P3 P4 P5 P6 P7:A0->A1->Prop}(O:A0)(x1:A1)(h3:P0 O x1)(h4:P1 O x1)(h5:P2 O x1)(h6:P3 O x1)(h7:P4 O x1)(h8:P5 O x1)(h9:P6 O x1)(iY:P7 O x1):(∃O,(∃x1,(P0 O x1/\(P1 O x1/\(P2 O x1/\(P3 O x1/\(P4 O x1/\(P5 O x1/\(P6 O x1/\P7 O x1))))))))):=⟨O,⟨x1,⟨h3,⟨h4,⟨h5,⟨h6,⟨h7,⟨h8,⟨h9,iY⟩⟩⟩⟩⟩⟩⟩⟩⟩
theorem oN{A0 A1:Sort _}{P0 P1 P2 P3 P4 P5 P6:A0->A1->Prop}(O:A0)(x1:A1)(h3:P0 O x1)(h4:P1 O x1)(h5:P2 O x1)(h6:P3 O x1)(h7:P4 O x1)(h8:P5 O x1)(h9:P6 O x1):(∃O,(∃x1,(P0 O x1/\(P1 O x1/\(P2 O x1/\(P3 O x1/\(P4 O x1/\(P5 O x1/\P6 O x1)))))))):=⟨O,⟨x1,⟨h3,⟨h4,⟨h5,⟨h6,⟨h7,⟨h8,h9⟩⟩⟩⟩⟩⟩⟩⟩
theorem fO{A0 A1:Sort _}{P0 P1 P2 P3 P4 P5:A0->A1->Prop}(O:A0)(x1:A1)(h3:P0 O x1)(h4:P1 O x1)(h5:P2 O x1)(h6:P3 O x1)(h7:P4 O x1)(h8:P5 O x1):(∃O,(∃x1,(P0 O x1/\(P1 O x1/\(P2 O x1/\(P3 O x1/\(P4 O x1/\P5 O x1))))))):=⟨O,⟨x1,⟨h3,⟨h4,⟨h5,⟨h6,⟨h7,h8⟩⟩⟩⟩⟩⟩⟩
theorem dX{A0 A1:Sort _}{P0 P1 P2 P3:A0->A1->Prop}(O:A0)(x1:A1)(h3:P0 O x1)(h4:P1 O x1)(h5:P2 O x1)(h6:P3 O x1):(∃O,(∃x1,(P0 O x1/\(P1 O x1/\(P2 O x1/\P3 O x1))))):=⟨O,⟨x1,⟨h3,⟨h4,⟨h5,h6⟩⟩⟩⟩⟩
theorem dM{A0 A1:Sort _}{P0 P1 P2:A0->A1->Prop}(O:A0)(x1:A1)(h3:P0 O x1)(h4:P1 O x1)(h5:P2 O x1):(∃O,(∃x1,(P0 O x1/\(P1 O x1/\P2 O x1)))):=⟨O,⟨x1,⟨h3,⟨h4,h5⟩⟩⟩⟩
theorem gT{A0 A1 A2:Sort _}{P0 P1:A0->A1->Prop}{P2 P3 P4 P5 P6 P7:A0->A1->A2->Prop}(O:A0)(x1:A1)(h3:P0 O x1)(h4:P1 O x1)(x2:A2)(h6:P2 O x1 x2)(h7:P3 O x1 x2)(h8:P4 O x1 x2)(h9:P5 O x1 x2)(iY:P6 O x1 x2)(l6:P7 O x1 x2):(∃O,(∃x1,(P0 O x1/\(P1 O x1/\(∃x2,(P2 O x1 x2/\(P3 O x1 x2/\(P4 O x1 x2/\(P5 O x1 x2/\(P6 O x1 x2/\P7 O x1 x2)))))))))):=⟨O,⟨x1,⟨h3,⟨h4,⟨x2,⟨h6,⟨h7,⟨h8,⟨h9,⟨iY,l6⟩⟩⟩⟩⟩⟩⟩⟩⟩⟩
theorem gD{A0 A1:Sort _}{B2 B3:Type}{P0:A0->A1->Prop}{P1 P2 P3 P4 P5 P6 P7 P8 P9:A0->A1->B2->B3->Prop}{GW:A0->A1->Prop}(O:A0)(x1:A1)(h3:P0 O x1)(x2:B2)(x3:B3)(h6:P1 O x1 x2 x3)(h7:P2 O x1 x2 x3)(h8:P3 O x1 x2 x3)(h9:P4 O x1 x2 x3)(iY:P5 O x1 x2 x3)(l6:P6 O x1 x2 x3)(t9:P7 O x1 x2 x3)(CD:P8 O x1 x2 x3)(yJ:P9 O x1 x2 x3)(I4:GW O x1):(∃O,(∃x1,(P0 O x1/\((mh λx2 x3=>(An9 (P1 O x1 x2 x3) (P2 O x1 x2 x3) (P3 O x1 x2 x3) (P4 O x1 x2 x3) (P5 O x1 x2 x3) (P6 O x1 x2 x3) (P7 O x1 x2 x3) (P8 O x1 x2 x3) (P9 O x1 x2 x3)))/\GW O x1)))):=⟨O,⟨x1,⟨h3,⟨⟨x2,x3,⟨h6,h7,h8,h9,iY,l6,t9,CD,yJ⟩⟩,I4⟩⟩⟩⟩
theorem fN{A0 A1:Sort _}{P0 P1:A0->A1->Prop}(O:A0)(x1:A1)(h3:P0 O x1)(h4:P1 O x1):(∃O,(∃x1,(P0 O x1/\P1 O x1))):=⟨O,⟨x1,⟨h3,h4⟩⟩⟩
theorem DH{A0 A1:Sort _}{P0:A0->A1->Prop}(O:A0)(x1:A1)(h3:P0 O x1):(∃O,(∃x1,P0 O x1)):=⟨O,⟨x1,h3⟩⟩
theorem lY{A0 A1 A2:Sort _}{P0 P1:A0->A1->A2->Prop}(O:A0)(x1:A1)(x2:A2)(h4:P0 O x1 x2)(h5:P1 O x1 x2):(∃O,(∃x1,(∃x2,(P0 O x1 x2/\P1 O x1 x2)))):=⟨O,⟨x1,⟨x2,⟨h4,h5⟩⟩⟩⟩
theorem nW{A0 A1 A2:Sort _}{P0:A0->A1->A2->Prop}(O:A0)(x1:A1)(x2:A2)(h4:P0 O x1 x2):(∃O,(∃x1,(∃x2,P0 O x1 x2))):=⟨O,⟨x1,⟨x2,h4⟩⟩⟩
theorem gZ{A0 A1 A2 A3:Sort _}{P0 P1 P2 P3:A0->A1->A2->A3->Prop}(O:A0)(x1:A1)(x2:A2)(x3:A3)(h5:P0 O x1 x2 x3)(h6:P1 O x1 x2 x3)(h7:P2 O x1 x2 x3)(h8:P3 O x1 x2 x3):(∃O,(∃x1,(∃x2,(∃x3,(P0 O x1 x2 x3/\(P1 O x1 x2 x3/\(P2 O x1 x2 x3/\P3 O x1 x2 x3))))))):=⟨O,⟨x1,⟨x2,⟨x3,⟨h5,⟨h6,⟨h7,h8⟩⟩⟩⟩⟩⟩⟩
theorem mZ{A0 A1 A2 A3:Sort _}{P0 P1 P2:A0->A1->A2->A3->Prop}(O:A0)(x1:A1)(x2:A2)(x3:A3)(h5:P0 O x1 x2 x3)(h6:P1 O x1 x2 x3)(h7:P2 O x1 x2 x3):(∃O,(∃x1,(∃x2,(∃x3,(P0 O x1 x2 x3/\(P1 O x1 x2 x3/\P2 O x1 x2 x3)))))):=⟨O,⟨x1,⟨x2,⟨x3,⟨h5,⟨h6,h7⟩⟩⟩⟩⟩⟩
theorem jY{A0 A1 A2 A3 A4 A5:Sort _}{P0 P1:A0->A1->A2->A3->A4->A5->Prop}(O:A0)(x1:A1)(x2:A2)(x3:A3)(x4:A4)(x5:A5)(h7:P0 O x1 x2 x3 x4 x5)(h8:P1 O x1 x2 x3 x4 x5):(∃O,(∃x1,(∃x2,(∃x3,(∃x4,(∃x5,(P0 O x1 x2 x3 x4 x5/\P1 O x1 x2 x3 x4 x5))))))):=⟨O,⟨x1,⟨x2,⟨x3,⟨x4,⟨x5,⟨h7,h8⟩⟩⟩⟩⟩⟩⟩
end
section
set_option genInjectivity false
set_option genCtorIdx false
noncomputable def dm:List Nat->List Nat->Nat
 |a::x,b::y=>a*b+dm x y
 |_,_=>0
noncomputable def i0:List Nat->List Nat->List Nat
 |a::x,b::y=>(a+b)::i0 x y
 |[],y=>y
 |x,[]=>x
noncomputable def vL(k:Nat)(x:List Nat):List Nat:=x.map λa=>k*a
noncomputable def Jf:List Nat->List Nat->Bool
 |_,[]=>true
 |[],b::y=>Nat.beq b 0&&Jf [] y
 |a::x,b::y=>Nat.ble b a&&Jf x y
noncomputable def mP:List Nat->Nat->Nat
 |[],_=>0
 |a::_,0=>a
 |_::x,n+1=>mP x n
noncomputable abbrev FC:=List Nat×List Nat
def wG(c:List Nat)(f:FC):Prop:=dm f.1 c<=dm f.2 c
noncomputable def CX(f:FC):Bool:=Jf f.1 (i0 f.2 [1])
noncomputable def ZG(i:Nat)(p n:FC):FC:=
 let a:=mP p.2 i-mP p.1 i
 let b:=mP n.1 i-mP n.2 i
 (i0 (vL b p.1) (vL a n.1),i0 (vL b p.2) (vL a n.2))
noncomputable def CW(i:Nat)(cs:List FC):List FC:=
 cs.filter (λf=>Nat.beq (mP f.1 i) (mP f.2 i))++(cs.filter λf=>Nat.blt (mP f.1 i) (mP f.2 i)).flatMap λp=>(cs.filter λf=>Nat.blt (mP f.2 i) (mP f.1 i)).map λn=>ZG i p n
noncomputable def CN:List Nat->List FC->Bool
 |[],cs=>cs.any CX
 |i::is,cs=>cs.any CX||CN is (CW i cs)
theorem cQ(c:List Nat):dm [] c=0:=by induction c using casesOn<;>rfl
theorem dy(x:List Nat):∀y c:List Nat,dm (i0 x y) c=dm x c+dm y c:=by
 induction x with
 |nil=>intro y c;rw[cQ,Nat.zero_add];rfl
 |cons a x ih=>
  intro y c;induction y using casesOn with
  |nil=>rw[cQ];rfl
  |cons b y=>
   induction c using casesOn with
   |nil=>rfl
   |cons d c=>
    show (a+b)*d+dm (i0 x y) c=a*d+dm x c+(b*d+dm y c);rw[ih,Nat.add_mul,Nat.add_add_add_comm]
theorem lh(k:Nat)(x:List Nat):∀c:List Nat,dm (vL k x) c=k*dm x c:=by
 induction x with
 |nil=>intro c;show dm [] c=k*dm [] c;rw[cQ,Nat.mul_zero]
 |cons a x ih=>
  intro c;induction c using casesOn with
  |nil=>rfl
  |cons d c=>
   show k*a*d+dm (vL k x) c=k*(a*d+dm x c);rw[ih,Nat.mul_add,Nat.mul_assoc]
theorem Je(x:List Nat):∀y c:List Nat,Jf x y=true->dm y c<=dm x c:=by
 have z:∀y c:List Nat,Jf [] y=true->dm y c=0:=by
  intro y;induction y with
  |nil=>intro c _;exact cQ c
  |cons b y ih=>
   intro c h;obtain ⟨h1,h2⟩:=Bool.and_eq_true_iff.mp (show (Nat.beq b 0&&Jf [] y)=true from h);have h1:=Nat.eq_of_beq_eq_true h1;subst h1;induction c using casesOn with
   |nil=>rfl
   |cons d c=>show 0*d+dm y c=0;rw[ih c h2,Nat.zero_mul]
 induction x with
 |nil=>intro y c h;rw[z y c h];exact Nat.zero_le _
 |cons a x ih=>
  intro y c h;induction y using casesOn with
  |nil=>rw[cQ];exact Nat.zero_le _
  |cons b y=>
   obtain ⟨h1,h2⟩:=Bool.and_eq_true_iff.mp (show (Nat.ble b a&&Jf x y)=true from h);induction c using casesOn with
   |nil=>exact Nat.le_refl _
   |cons d c=>exact Nat.add_le_add (Nat.mul_le_mul_right d (Nat.le_of_ble_eq_true h1)) (ih y c h2)
theorem Fg{f:FC}{c:List Nat}(h:CX f=true):¬wG (1::c) f:=λk=>by have q:=Je _ _ (1::c) h;rw[dy] at q;exact absurd (Nat.le_trans q k) (Nat.not_succ_le_self _)
theorem CV{i:Nat}{c:List Nat}{cs:List FC}(h:∀f∈cs,wG c f):∀f∈CW i cs,wG c f:=λf hf=>by
 rcases mem_append.mp hf with q|q
 ·exact h f (mem_filter.mp q).1
 ·obtain ⟨p,hp,q⟩:=mem_flatMap.mp q
  obtain ⟨n,hn,rfl⟩:=mem_map.mp q;have a:=h p (mem_filter.mp hp).1;have b:=h n (mem_filter.mp hn).1;show dm (i0 _ _) c<=dm (i0 _ _) c;rw[dy,dy,lh,lh,lh,lh];exact Nat.add_le_add (Nat.mul_le_mul_left _ a) (Nat.mul_le_mul_left _ b)
theorem E7{c:List Nat}(is:List Nat):∀cs:List FC,CN is cs=true->¬∀f∈cs,wG (1::c) f:=by
 have b:∀cs:List FC,cs.any CX=true->¬∀f∈cs,wG (1::c) f:=λcs h k=>by obtain ⟨f,hf,q⟩:=any_eq_true.mp h;exact Fg q (k f hf)
 induction is with
 |nil=>exact b
 |cons i is ih=>
  intro cs h;rcases Bool.or_eq_true_iff.mp (show (cs.any CX||CN is (CW i cs))=true from h) with q|q
  ·exact b cs q
  ·exact λk=>ih _ q (CV k)
mutual
inductive FN where
 |v (i:Nat)
 |n (k:Nat)
 |add (a b:FN)
 |sub (a b:FN)
 |ml (k:Nat) (a:FN)
 |mr (a:FN) (k:Nat)
 |min (a b:FN)
 |max (a b:FN)
 |toN (a:FI)
inductive FI where
 |of (a:FN)
 |n (k:Nat)
 |pw (k e:Nat)
 |neg (a:FI)
 |add (a b:FI)
 |sub (a b:FI)
 |mr (a:FI) (k:Nat)
 |min (a b:FI)
 |max (a b:FI)
end
mutual
noncomputable def FN.d(c:List Nat):FN->Nat
 |.v i=>mP c i
 |.n k=>k
 |.add a b=>a.d c+b.d c
 |.sub a b=>a.d c-b.d c
 |.ml k a=>k*a.d c
 |.mr a k=>a.d c*k
 |.min a b=>Min.min (a.d c) (b.d c)
 |.max a b=>Max.max (a.d c) (b.d c)
 |.toN a=>(a.d c).toNat
noncomputable def FI.d(c:List Nat):FI->Int
 |.of a=>(a.d c:Nat)
 |.n k=>(k:Nat)
 |.pw k e=>((k:Nat):Int)^e
 |.neg a=>-a.d c
 |.add a b=>a.d c+b.d c
 |.sub a b=>a.d c-b.d c
 |.mr a k=>a.d c*(k:Nat)
 |.min a b=>Min.min (a.d c) (b.d c)
 |.max a b=>Max.max (a.d c) (b.d c)
end
noncomputable abbrev FA:=List FC×FC
noncomputable def Af(i:Nat):List Nat:=match i with
 |0=>[0,1]
 |1=>[0,0,1]
 |i=>0::(replicate i 0++[1])
noncomputable def two(x y:List FA)(f:FC->FC->List FA):List FA:=x.flatMap λa=>y.flatMap λb=>(f a.2 b.2).map λr=>(r.1++(a.1++b.1),r.2)
noncomputable def JD(a b:FC):List FA:=[([],(i0 a.1 b.1,i0 a.2 b.2))]
noncomputable def GU(a b:FC):List FA:=[([],(i0 a.1 b.2,i0 a.2 b.1))]
noncomputable def AB(a b:FC):FC:=(i0 a.1 b.2,i0 b.1 a.2)
noncomputable def N7(a b:FC):List FA:=[([AB b a],(i0 a.1 b.2,i0 a.2 b.1)),([AB a b],([],[]))]
noncomputable def JB(a b:FC):List FA:=[([AB a b],a),([AB b a],b)]
noncomputable def JC(a b:FC):List FA:=[([AB a b],b),([AB b a],a)]
noncomputable def FT(k:Nat)(x:List FA):List FA:=x.map λa=>(a.1,(vL k a.2.1,vL k a.2.2))
noncomputable def N6(x:List FA):List FA:=x.flatMap λa=>[((a.2.2,a.2.1)::a.1,a.2),((a.2.1,a.2.2)::a.1,([],[]))]
mutual
noncomputable def FN.a:FN->List FA
 |.v i=>[([],(Af i,[]))]
 |.n k=>[([],([k],[]))]
 |.add a b=>two a.a b.a JD
 |.sub a b=>two a.a b.a N7
 |.ml k a=>FT k a.a
 |.mr a k=>FT k a.a
 |.min a b=>two a.a b.a JB
 |.max a b=>two a.a b.a JC
 |.toN a=>N6 a.a
noncomputable def FI.a:FI->List FA
 |.of a=>a.a
 |.n k=>[([],([k],[]))]
 |.pw k e=>[([],([k^e],[]))]
 |.neg a=>a.a.map λx=>(x.1,(x.2.2,x.2.1))
 |.add a b=>two a.a b.a JD
 |.sub a b=>two a.a b.a GU
 |.mr a k=>FT k a.a
 |.min a b=>two a.a b.a JB
 |.max a b=>two a.a b.a JC
end
noncomputable def fv(c:List Nat)(f:FC):Int:=(dm f.1 c:Nat)-(dm f.2 c:Nat)
def FS(c:List Nat)(l:List FA)(z:Int):Prop:=∃r∈l,(∀f∈r.1,wG c f)/\fv c r.2=z
theorem E5(c:List Nat)(i:Nat):dm (Af i) (1::c)=mP c i:=by
 have g:∀(i:Nat) (c:List Nat),dm (replicate i 0++[1]) c=mP c i:=by
  intro i;induction i with
  |zero=>intro c;induction c using casesOn with
   |nil=>rfl
   |cons b c=>show 1*b+dm [] c=b;rw[cQ,Nat.one_mul];rfl
  |succ i ih=>intro c;induction c using casesOn with
   |nil=>rfl
   |cons b c=>show 0*b+dm (replicate i 0++[1]) c=_;rw[ih,Nat.zero_mul,Nat.zero_add];rfl
 have e:Af i=0::(replicate i 0++[1]):=by
  unfold Af
  split<;>rfl
 rw[e];show 0*1+dm (replicate i 0++[1]) c=_;rw[g];exact Nat.zero_add _
theorem fa1{a b c d:Nat}:((a+b:Nat):Int)-(c+d:Nat)=((a:Int)-c)+(b-d):=by omega
theorem fa2{a b c d:Nat}:((a+d:Nat):Int)-(c+b:Nat)=((a:Int)-c)-(b-d):=by omega
theorem fa3{a b c d:Nat}:a+d<=b+c↔(a:Int)-c<=b-d:=by omega
theorem fa4{a b c d:Nat}:a+d+1<=b+c↔(a:Int)-c<b-d:=by omega
theorem ZI{a:Nat}:((a:Nat):Int)-(0:Nat)=a:=by omega
theorem fa6{a b:Nat}(h:a<=b):((b-a:Nat):Int)=b-a:=by omega
theorem fa7{a b:Nat}(h:¬a<=b):((b-a:Nat):Int)=0:=by omega
theorem fa8{a b:Nat}{z:Int}(h:(a:Int)-b=z)(s:0<=z):b<=a:=by omega
theorem fa9{a b:Nat}{z:Int}(h:(a:Int)-b=z)(s:¬0<=z):a<=b:=by omega
theorem I8(c:List Nat)(x y x' y':List Nat):fv c (i0 x y,i0 x' y')=fv c (x,x')+fv c (y,y'):=by unfold fv;rw[dy,dy];exact fa1
theorem gi(c:List Nat)(a b:FC):wG c (AB a b)↔fv c a<=fv c b:=by unfold wG AB fv;rw[dy,dy];exact fa3
theorem FS.two{c:List Nat}{x y:List FA}{f:FC->FC->List FA}{u w z:Int}(hx:FS c x u)(hy:FS c y w)(h:∀a b:FC,fv c a=u->fv c b=w->FS c (f a b) z):FS c (two x y f) z:=by
 obtain ⟨a,ha,ga,va⟩:=hx;obtain ⟨b,hb,gb,vb⟩:=hy;obtain ⟨r,hr,gr,vr⟩:=h _ _ va vb;refine⟨_,mem_flatMap.mpr ⟨a,ha,mem_flatMap.mpr ⟨b,hb,mem_map.mpr ⟨r,hr,rfl⟩⟩⟩,λg hg=>?_,vr⟩;rcases mem_append.mp hg with q|q
 ·exact gr g q
 ·rcases mem_append.mp q with q|q
  ·exact ga g q
  ·exact gb g q
theorem FS.one{c:List Nat}{f:FC}{z:Int}(h:fv c f=z):FS c [([],f)] z:=⟨_,.head _,λ_ q=>(nomatch q),h⟩
theorem FS.l{c:List Nat}{g f:FC}{r:List FA}{z:Int}(k:wG c g)(h:fv c f=z):FS c (([g],f)::r) z:=⟨_,.head _,λ_ q=>(mem_singleton.mp q)▸k,h⟩
theorem FS.r{c:List Nat}{a:FA}{r:List FA}{z:Int}(h:FS c r z):FS c (a::r) z:=by obtain ⟨x,hx,y⟩:=h;exact⟨x,.tail _ hx,y⟩
theorem CM{c:List Nat}(a b:FC):FS c (JD a b) (fv c a+fv c b):=.one (I8 ..)
theorem E6{c:List Nat}(a b:FC):FS c (GU a b) (fv c a-fv c b):=.one (by unfold fv;rw[dy,dy];exact fa2)
theorem CJ{c:List Nat}(a b:FC):FS c (JB a b) (Min.min (fv c a) (fv c b)):=by
 by_cases h:fv c a<=fv c b
 ·exact .l ((gi ..).mpr h) (Int.min_eq_left h).symm
 ·have h:=Int.le_of_lt (Int.not_le.mp h)
  exact .r (.l ((gi ..).mpr h) (Int.min_eq_right h).symm)
theorem CL{c:List Nat}(a b:FC):FS c (JC a b) (Max.max (fv c a) (fv c b)):=by
 by_cases h:fv c a<=fv c b
 ·exact .l ((gi ..).mpr h) (Int.max_eq_right h).symm
 ·have h:=Int.le_of_lt (Int.not_le.mp h)
  exact .r (.l ((gi ..).mpr h) (Int.max_eq_left h).symm)
theorem xn{c:List Nat}{k:Nat}{x:List FA}{z:Int}(h:FS c x z):FS c (FT k x) (z*(k:Nat)):=by obtain ⟨a,ha,g,v⟩:=h;refine⟨_,mem_map.mpr ⟨a,ha,rfl⟩,g,?_⟩;rw[<-v];unfold fv;simp only[lh];rw[Int.natCast_mul,Int.natCast_mul,Int.sub_mul,Int.mul_comm (k:Int),Int.mul_comm (k:Int)]
theorem Ja{c:List Nat}{x:List FA}{z:Int}(h:FS c x z):FS c (N6 x) (z.toNat:Nat):=by
 obtain ⟨a,ha,g,v⟩:=h
 have i:∀{p q:List Nat},wG c (p,q)->∀f∈(p,q)::a.1,wG c f:=λk f hf=>by
  rcases mem_cons.mp hf with rfl|q
  ·exact k
  ·exact g f q
 by_cases s:0<=z
 ·refine⟨_,mem_flatMap.mpr ⟨a,ha,.head _⟩,i ?_,?_⟩
  ·exact fa8 v s
  ·rw[v];exact(Int.toNat_of_nonneg s).symm
 ·refine⟨_,mem_flatMap.mpr ⟨a,ha,.tail _ (.head _)⟩,i ?_,?_⟩
  ·exact fa9 v s
  ·show ((dm [] c:Nat):Int)-(dm [] c:Nat)=_
   rw[cQ,Int.toNat_of_nonpos (Int.le_of_lt (Int.not_le.mp s))];rfl
mutual
theorem FN.ok(c:List Nat):∀e:FN,FS (1::c) e.a (e.d c:Nat)
 |.v i=>.one (by show ((dm (Af i) (1::c):Nat):Int)-(dm [] (1::c):Nat)=(mP c i:Nat);rw[E5,cQ];exact Int.sub_zero _)
 |.n k=>.one (by show ((k*1+dm [] c:Nat):Int)-(dm [] (1::c):Nat)=(k:Nat);rw[cQ,cQ,Nat.mul_one];exact ZI)
 |.add a b=>by show FS _ _ ((a.d c+b.d c:Nat):Int);rw[Int.natCast_add];exact .two (a.ok c) (b.ok c) λx y e1 e2=>by rw[<-e1,<-e2];exact CM x y
 |.sub a b=>by
  show FS _ _ ((a.d c-b.d c:Nat):Int);refine .two (a.ok c) (b.ok c) λx y e1 e2=>?_
  by_cases h:b.d c<=a.d c
  ·refine .l ((gi ..).mpr (e1▸e2▸Int.ofNat_le.mpr h)) ?_
   rw[fa6 h,<-e1,<-e2];unfold fv;rw[dy,dy];exact fa2
  ·refine .r (.l ((gi ..).mpr (e1▸e2▸Int.ofNat_le.mpr (Nat.le_of_not_le h))) ?_)
   show ((dm [] (1::c):Nat):Int)-(dm [] (1::c):Nat)=_;rw[cQ,fa7 h];rfl
 |.ml k a=>by show FS _ _ ((k*a.d c:Nat):Int);rw[Nat.mul_comm,Int.natCast_mul];exact xn (a.ok c)
 |.mr a k=>by show FS _ _ ((a.d c*k:Nat):Int);rw[Int.natCast_mul];exact xn (a.ok c)
 |.min a b=>.two (a.ok c) (b.ok c) λx y e1 e2=>by
  have:=CJ (c:=1::c) x y;rw[e1,e2] at this;have e:((Min.min (a.d c) (b.d c):Nat):Int)=Min.min (a.d c:Int) (b.d c:Int):=by omega
  exact e▸this
 |.max a b=>.two (a.ok c) (b.ok c) λx y e1 e2=>by
  have:=CL (c:=1::c) x y;rw[e1,e2] at this;have e:((Max.max (a.d c) (b.d c):Nat):Int)=Max.max (a.d c:Int) (b.d c:Int):=by omega
  exact e▸this
 |.toN a=>Ja (a.ok c)
theorem FI.ok(c:List Nat):∀e:FI,FS (1::c) e.a (e.d c)
 |.of a=>a.ok c
 |.n k=>.one (by show ((k*1+dm [] c:Nat):Int)-(dm [] (1::c):Nat)=(k:Nat);rw[cQ,cQ,Nat.mul_one];exact ZI)
 |.pw k e=>.one (by show ((k^e*1+dm [] c:Nat):Int)-(dm [] (1::c):Nat)=((k:Nat):Int)^e;rw[cQ,cQ,<-Int.natCast_pow,Nat.mul_one];exact ZI)
 |.neg a=>by obtain ⟨r,hr,g,v⟩:=a.ok c;refine⟨_,mem_map.mpr ⟨r,hr,rfl⟩,g,?_⟩;show ((dm r.2.2 (1::c):Nat):Int)-(dm r.2.1 (1::c):Nat)=-a.d c;rw[<-v];exact(Int.neg_sub _ _).symm
 |.add a b=>.two (a.ok c) (b.ok c) λx y e1 e2=>by show FS _ _ (a.d c+b.d c);rw[<-e1,<-e2];exact CM x y
 |.sub a b=>.two (a.ok c) (b.ok c) λx y e1 e2=>by show FS _ _ (a.d c-b.d c);rw[<-e1,<-e2];exact E6 x y
 |.mr a k=>xn (a.ok c)
 |.min a b=>.two (a.ok c) (b.ok c) λx y e1 e2=>by show FS _ _ (Min.min (a.d c) (b.d c));rw[<-e1,<-e2];exact CJ x y
 |.max a b=>.two (a.ok c) (b.ok c) λx y e1 e2=>by show FS _ _ (Max.max (a.d c) (b.d c));rw[<-e1,<-e2];exact CL x y
end
inductive FP where
 |le (a b:FN)
 |lt (a b:FN)
 |eq (a b:FN)
 |jk (a b:FI)
 |iC (a b:FI)
 |gh (a b:FI)
 |no (p:FP)
 |an (p q:FP)
 |o (p q:FP)
 |im (p q:FP)
 |fl
noncomputable def FP.d(c:List Nat):FP->Prop
 |.le a b=>a.d c<=b.d c
 |.lt a b=>a.d c<b.d c
 |.eq a b=>a.d c=b.d c
 |.jk a b=>a.d c<=b.d c
 |.iC a b=>a.d c<b.d c
 |.gh a b=>a.d c=b.d c
 |.no p=>¬p.d c
 |.an p q=>p.d c/\q.d c
 |.o p q=>p.d c∨q.d c
 |.im p q=>p.d c->q.d c
 |.fl=>False
noncomputable def JX(a b:FC):FC:=(i0 (i0 a.1 b.2) [1],i0 b.1 a.2)
noncomputable def yk(x y:List FA)(f:FC->FC->List (List FC)):List (List FC):=x.flatMap λa=>y.flatMap λb=>(f a.2 b.2).map λr=>r++(a.1++b.1)
noncomputable def both(x y:List (List FC)):List (List FC):=x.flatMap λa=>y.map λb=>a++b
noncomputable def ZK(t:Bool)(a b:FC):List (List FC):=match t with
 |true=>[[AB a b]]
 |false=>[[JX b a]]
noncomputable def ZJ(t:Bool)(a b:FC):List (List FC):=match t with
 |true=>[[JX a b]]
 |false=>[[AB b a]]
noncomputable def ZL(t:Bool)(a b:FC):List (List FC):=match t with
 |true=>[[AB a b,AB b a]]
 |false=>[[JX a b],[JX b a]]
noncomputable def bor(t:Bool)(x y:List (List FC)):List (List FC):=match t with
 |true=>x++y
 |false=>both x y
noncomputable def band(t:Bool)(x y:List (List FC)):List (List FC):=match t with
 |true=>both x y
 |false=>x++y
noncomputable def FP.w:FP->Bool->List (List FC)
 |.le a b,t=>yk a.a b.a (ZK t)
 |.lt a b,t=>yk a.a b.a (ZJ t)
 |.eq a b,t=>yk a.a b.a (ZL t)
 |.jk a b,t=>yk a.a b.a (ZK t)
 |.iC a b,t=>yk a.a b.a (ZJ t)
 |.gh a b,t=>yk a.a b.a (ZL t)
 |.no p,t=>p.w !t
 |.an p q,t=>band t (p.w t) (q.w t)
 |.o p q,t=>bor t (p.w t) (q.w t)
 |.im p q,t=>bor t (p.w !t) (q.w t)
 |.fl,t=>match t with
  |true=>[]
  |false=>[[]]
def FW(c:List Nat)(l:List (List FC)):Prop:=∃r∈l,∀f∈r,wG c f
def wF(t:Bool)(p:Prop):Prop:=match t with
 |true=>p
 |false=>¬p
theorem pQ(c:List Nat)(a b:FC):wG (1::c) (JX a b)↔fv (1::c) a<fv (1::c) b:=by unfold wG JX fv;rw[dy,dy,dy,show dm [1] (1::c)=1 by show 1*1+dm [] c=1;rw[cQ]];exact fa4
theorem FW.yk{c:List Nat}{x y:List FA}{f:FC->FC->List (List FC)}{u w:Int}(hx:FS c x u)(hy:FS c y w)(h:∀a b:FC,fv c a=u->fv c b=w->FW c (f a b)):FW c (yk x y f):=by
 obtain ⟨a,ha,ga,va⟩:=hx;obtain ⟨b,hb,gb,vb⟩:=hy;obtain ⟨r,hr,gr⟩:=h _ _ va vb;refine⟨_,mem_flatMap.mpr ⟨a,ha,mem_flatMap.mpr ⟨b,hb,mem_map.mpr ⟨r,hr,rfl⟩⟩⟩,λg hg=>?_⟩;rcases mem_append.mp hg with q|q
 ·exact gr g q
 ·rcases mem_append.mp q with q|q
  ·exact ga g q
  ·exact gb g q
theorem FW.l{c:List Nat}{x y:List (List FC)}(h:FW c x):FW c (x++y):=by obtain ⟨r,a,b⟩:=h;exact⟨r,mem_append_left _ a,b⟩
theorem FW.r{c:List Nat}{x y:List (List FC)}(h:FW c y):FW c (x++y):=by obtain ⟨r,a,b⟩:=h;exact⟨r,mem_append_right _ a,b⟩
theorem FW.both{c:List Nat}{x y:List (List FC)}(h:FW c x)(k:FW c y):FW c (both x y):=by
 obtain ⟨r,a,b⟩:=h;obtain ⟨s,d,e⟩:=k;refine⟨_,mem_flatMap.mpr ⟨r,a,mem_map.mpr ⟨s,d,rfl⟩⟩,λf hf=>?_⟩;rcases mem_append.mp hf with q|q
 ·exact b f q
 ·exact e f q
theorem FW.one{c:List Nat}{f:FC}{r:List (List FC)}(h:wG c f):FW c ([f]::r):=⟨_,.head _,λ_ q=>(mem_singleton.mp q)▸h⟩
theorem GD{c:List Nat}{t:Bool}{a b:FC}(h:wF t (fv (1::c) a<=fv (1::c) b)):FW (1::c) (ZK t a b):=by
 induction t with
 |true=>exact .one ((gi ..).mpr h)
 |false=>exact .one ((pQ ..).mpr (Int.not_le.mp h))
theorem GC{c:List Nat}{t:Bool}{a b:FC}(h:wF t (fv (1::c) a<fv (1::c) b)):FW (1::c) (ZJ t a b):=by
 induction t with
 |true=>exact .one ((pQ ..).mpr h)
 |false=>exact .one ((gi ..).mpr (Int.not_lt.mp h))
theorem GF{c:List Nat}{t:Bool}{a b:FC}(h:wF t (fv (1::c) a=fv (1::c) b)):FW (1::c) (ZL t a b):=by
 induction t with
 |true=>
  refine⟨_,.head _,λf hf=>?_⟩;rcases mem_cons.mp hf with rfl|hf
  ·exact(gi ..).mpr (Int.le_of_eq h)
  ·obtain rfl:=mem_singleton.mp hf
   exact(gi ..).mpr (Int.le_of_eq h.symm)
 |false=>
  rcases Int.lt_or_gt_of_ne h with q|q
  ·exact .one ((pQ ..).mpr q)
  ·exact⟨_,.tail _ (.head _),λ_ k=>(mem_singleton.mp k)▸(pQ ..).mpr q⟩
theorem lU{t:Bool}{p q:Prop}(e:p↔q)(h:wF t p):wF t q:=propext e▸h
theorem yO{t:Bool}{p:Prop}(h:wF t (¬p)):wF (!t) p:=by
 induction t with
 |true=>exact h
 |false=>exact Classical.not_not.mp h
theorem I9{t:Bool}{p q:Prop}(h:wF t (p->q)):wF t (¬p∨q):=by
 induction t with
 |true=>exact(Classical.em p).elim (λa=>.inr (h a)) .inl
 |false=>exact λk=>h λa=>k.elim (λn=>absurd a n) id
theorem GB{c:List Nat}{t:Bool}{p q:Prop}{x y:List (List FC)}(hp:wF t p->FW c x)(hq:wF t q->FW c y)(h:wF t (p∨q)):FW c (bor t x y):=by
 induction t with
 |true=>exact h.elim (λa=>.l (hp a)) λa=>.r (hq a)
 |false=>exact .both (hp λa=>h (.inl a)) (hq λa=>h (.inr a))
theorem I7{c:List Nat}{t:Bool}{p q:Prop}{x y:List (List FC)}(hp:wF t p->FW c x)(hq:wF t q->FW c y)(h:wF t (p/\q)):FW c (band t x y):=by
 induction t with
 |true=>exact .both (hp h.1) (hq h.2)
 |false=>exact(Classical.not_and_iff_not_or_not.mp h).elim (λa=>.l (hp a)) λa=>.r (hq a)
theorem FP.ok(c:List Nat)(p:FP):∀t,wF t (p.d c)->FW (1::c) (p.w t):=by
 induction p with
 |le a b=>exact λt h=>.yk (a.ok c) (b.ok c) λx y e1 e2=>GD (lU (by rw[e1,e2];exact Int.ofNat_le.symm) h)
 |lt a b=>exact λt h=>.yk (a.ok c) (b.ok c) λx y e1 e2=>GC (lU (by rw[e1,e2];exact Int.ofNat_lt.symm) h)
 |eq a b=>exact λt h=>.yk (a.ok c) (b.ok c) λx y e1 e2=>GF (lU (by rw[e1,e2];exact Int.ofNat_inj.symm) h)
 |jk a b=>exact λt h=>.yk (a.ok c) (b.ok c) λx y e1 e2=>GD (lU (by rw[e1,e2];exact Iff.rfl) h)
 |iC a b=>exact λt h=>.yk (a.ok c) (b.ok c) λx y e1 e2=>GC (lU (by rw[e1,e2];exact Iff.rfl) h)
 |gh a b=>exact λt h=>.yk (a.ok c) (b.ok c) λx y e1 e2=>GF (lU (by rw[e1,e2];exact Iff.rfl) h)
 |no p ih=>exact λt h=>ih _ (yO h)
 |an p q i j=>exact λt h=>I7 (i t) (j t) h
 |o p q i j=>exact λt h=>GB (i t) (j t) h
 |im p q i j=>exact λt h=>GB (p:=¬p.d c) (λk=>i _ (yO k)) (j t) (I9 h)
 |fl=>
  intro t h;induction t with
  |true=>exact h.elim
  |false=>exact⟨[],.head _,λ_ q=>(nomatch q)⟩
noncomputable def fvars:Nat->List FC
 |0=>[]
 |n+1=>([],Af n)::fvars n
theorem CI(c:List Nat)(n:Nat):∀f∈fvars n,wG (1::c) f:=by
 induction n with
 |zero=>exact λ_ h=>nomatch h
 |succ n ih=>
  intro f h;rcases mem_cons.mp h with rfl|h
  ·show dm [] _<=_;rw[cQ];exact Nat.zero_le _
  ·exact ih f h
noncomputable def uc(n:Nat)(p:FP):Bool:=(p.w false).all λr=>CN (range' 1 n) (r++fvars n)
theorem nf(c:List Nat)(p:FP)(h:uc c.length p=true:=by kernel_rfl):p.d c:=Classical.byContradiction λk=>by
 obtain ⟨r,hr,g⟩:=p.ok c false k;refine E7 (c:=c) _ _ (all_eq_true.mp (show ((p.w false).all λr=>CN (range' 1 c.length) (r++fvars c.length))=true from h) r hr) λf hf=>?_;rcases mem_append.mp hf with q|q
 ·exact g f q
 ·exact CI c _ f q
end
section
noncomputable abbrev aa:FN:=.v 0
noncomputable abbrev cp:FI:=.of (.v 0)
noncomputable abbrev ag:FN:=.v 1
noncomputable abbrev dQ:FI:=.of (.v 1)
noncomputable abbrev ak:FN:=.v 2
noncomputable abbrev g7:FI:=.of (.v 2)
noncomputable abbrev aY:FN:=.v 3
noncomputable abbrev rD:FI:=.of (.v 3)
noncomputable abbrev eH:FN:=.v 4
noncomputable abbrev ui4:FI:=.of (.v 4)
noncomputable abbrev oQ:FN:=.v 5
noncomputable abbrev ui5:FI:=.of (.v 5)
noncomputable abbrev uC:FN:=.v 6
noncomputable abbrev ui6:FI:=.of (.v 6)
noncomputable abbrev uv7:FN:=.v 7
noncomputable abbrev ui7:FI:=.of (.v 7)
noncomputable abbrev aE(a:FN):FN:=.add a (.n 1)
abbrev fD(c:List Nat)(p:FP):Prop:=p.d c
def f1(p:FP):Prop:=∀{a:Nat},p.d [a]
theorem bc(p:FP)(q:uc 1 p=true:=by kernel_rfl):f1 p:=@λa=>nf [a] p q
def f2(p:FP):Prop:=∀{a b:Nat},p.d [a,b]
theorem az(p:FP)(q:uc 2 p=true:=by kernel_rfl):f2 p:=@λa b=>nf [a,b] p q
def f3(p:FP):Prop:=∀{a b c:Nat},p.d [a,b,c]
theorem aJ(p:FP)(q:uc 3 p=true:=by kernel_rfl):f3 p:=@λa b c=>nf [a,b,c] p q
def f4(p:FP):Prop:=∀{a b c d:Nat},p.d [a,b,c,d]
theorem bX(p:FP)(q:uc 4 p=true:=by kernel_rfl):f4 p:=@λa b c d=>nf [a,b,c,d] p q
def f5(p:FP):Prop:=∀{a b c d e:Nat},p.d [a,b,c,d,e]
theorem gN(p:FP)(q:uc 5 p=true:=by kernel_rfl):f5 p:=@λa b c d e=>nf [a,b,c,d,e] p q
def f6(p:FP):Prop:=∀{a b c d e f:Nat},p.d [a,b,c,d,e,f]
theorem Aj(p:FP)(q:uc 6 p=true:=by kernel_rfl):f6 p:=@λa b c d e f=>nf [a,b,c,d,e,f] p q
def f7(p:FP):Prop:=∀{a b c d e f g:Nat},p.d [a,b,c,d,e,f,g]
theorem vM(p:FP)(q:uc 7 p=true:=by kernel_rfl):f7 p:=@λa b c d e f g=>nf [a,b,c,d,e,f,g] p q
def f8(p:FP):Prop:=∀{a b c d e f g h:Nat},p.d [a,b,c,d,e,f,g,h]
theorem ZH(p:FP)(q:uc 8 p=true:=by kernel_rfl):f8 p:=@λa b c d e f g h=>nf [a,b,c,d,e,f,g,h] p q
variable {a b c d e f g h i j k l:Nat}
@[elab_as_elim] theorem iV{P:Int->Prop}(a:Int)(h:∀p q:Nat,P ((p:Int)-(q:Int))):P a:=Int.toNat_sub_toNat_neg a▸h a.toNat (-a).toNat
theorem cz{a k l:Nat}(h:a<=k)(q:Nat.ble k l=true:=by rfl):a<=l:=Nat.le_trans h (Nat.le_of_ble_eq_true q)
theorem m9{a k l:Nat}(h:a<k)(q:Nat.ble k l=true:=by rfl):a<l:=Nat.lt_of_lt_of_le h (Nat.le_of_ble_eq_true q)
theorem nZ{a b k l:Nat}(z:a=l)(h:b<=k)(q:Nat.ble k l=true:=by rfl):b<=a:=z▸cz h q
theorem wB:f2 (.im (.no (.lt aa ag)) (.le ag aa)):=az _
theorem BJ:f2 (.im (.no (.lt aa ag)) (.im (.eq (.sub aa ag) (.n 0)) (.eq aa ag))):=az _
theorem ED:f3 (.im (.eq aa ag) (.im (.lt ak aa) (.lt ak ag))):=aJ _
theorem EC:f3 (.im (.eq aa (.n 16777216)) (.im (.eq ag (aE ak)) (.im (.le ak (.n 2)) (.le ag aa)))):=aJ _
theorem Gn:f3 (.im (.eq aa ag) (.im (.lt ak ag) (.lt ak aa))):=aJ _
theorem HX:f3 (.im (.eq aa (.sub ag ak)) (.im (.lt ak ag) (.lt (.sub ag (aE ak)) aa))):=aJ _
theorem HW:f1 (.jk (.neg (.pw 2 40)) cp):=bc _
theorem HV:f3 (.im (.eq aa (.n 16777216)) (.im (.le ag (.n 2)) (.im (.eq ak (aE ag)) (.le ak aa)))):=aJ _
theorem HU:f2 (.im (.le aa (.n 2)) (.im (.lt ag (aE aa)) (.iC dQ (.pw 2 63)))):=az _
theorem Oz:f3 (.im (.eq (.add (aE aa) ag) ak) (.lt ag ak)):=aJ _
theorem JJ:f2 (.im (.eq aa ag) (.le aa ag)):=az _
theorem JI:f1 (.im (.lt aa (.n 8)) (.iC cp (.pw 2 63))):=bc _
theorem KX:f2 (.im (.le aa ag) (.im (.le ag aa) (.eq aa ag))):=az _
theorem KW:f1 (.im (.lt aa (.n 64)) (.le aa (.n 16777216))):=bc _
theorem KV:f2 (.im (.lt (aE aa) (aE ag)) (.lt aa ag)):=az _
theorem KU:f5 (.im (.le aa ag) (.im (.an (.eq ak aY) (.eq eH (.n 0))) (.le (.add aa eH) ag))):=gN _
theorem Oy:f1 (.no (.iC cp (.n 0))):=bc _
theorem Ox:f4 (.im (.eq aa (aE ag)) (.im (.eq ak (aE ag)) (.im (.lt aY ak) (.lt aY aa)))):=bX _
theorem Ow:f2 (.im (.le aa (.n 2)) (.im (.eq ag (aE aa)) (.lt ag (.n 28)))):=az _
theorem Ov:f2 (.im (.le aa (.n 2)) (.im (.eq ag (aE aa)) (.le ag (.n 1000)))):=az _
theorem Ou:f2 (.im (.lt aa (.n 3)) (.im (.eq ag aa) (.le ag (.n 2)))):=az _
theorem PM:f3 (.im (.lt (.add aa (aE ag)) ak) (.lt (.add (aE aa) ag) ak)):=aJ _
theorem PL:f2 (.im (.le aa ag) (.le aa ag)):=az _
theorem PK:f2 (.im (.eq (.min aa ag) aa) (.le aa ag)):=az _
theorem PJ:f2 (.im (.le (.add (.add aa (.ml 10 ag)) (.n 100)) (.n 9900)) (.lt (.add (aE aa) (.n 8)) (.n 9900))):=az _
theorem Ii:f2 (.le (.sub aa ag) aa):=az _
theorem Ih:f2 (.im (.le (aE aa) ag) (.le aa ag)):=az _
theorem Ig:f3 (.im (.an (.le (.n 0) aa) (.le (.add aa ag) ak)) (.le aa ak)):=aJ _
theorem Ie:f2 (.im (.lt aa (aE ag)) (.le aa ag)):=az _
theorem Ic:f2 (.im (.le aa (.n 3)) (.im (.le ag (.add (.n 0) aa)) (.le ag (.n 3)))):=az _
theorem Ib:f1 (.eq (.toN (.sub cp (.n 0))) aa):=bc _
theorem Ia:f2 (.im (.eq aa (.n 16777216)) (.im (.lt ag (.n 64)) (.le ag aa))):=az _
theorem H9:f2 (.im (.lt aa (.n 800000)) (.im (.le ag (aE aa)) (.lt ag (.n 1000000)))):=az _
theorem H8:f1 (.jk (.neg (.pw 2 40)) (.of (aE aa))):=bc _
theorem H7:f2 (.im (.le aa (.n 16)) (.im (.le ag aa) (.le ag (.n 16)))):=az _
theorem H6:f2 (.im (.eq aa (aE ag)) (.im (.le ag (.n 2)) (.lt aa (.n 28)))):=az _
theorem H5:f3 (.im (.eq aa (aE ag)) (.im (.lt ak (aE ag)) (.lt ak aa))):=aJ _
theorem H3:f3 (.im (.eq aa ag) (.im (.no (.lt ak aa)) (.im (.eq (.sub ak aa) (.n 0)) (.eq ak ag)))):=aJ _
theorem H0:f3 (.im (.eq aa ag) (.im (.eq ak ag) (.eq aa ak))):=aJ _
theorem HZ:f1 (.jk (.n 0) cp):=bc _
theorem HY:f2 (.im (.lt aa (.n 1000000)) (.im (.eq ag (.n 16777216)) (.le aa ag))):=az _
theorem Mp:f4 (.im (.lt (.add aa (.max ag ak)) aY) (.lt (.add aa ag) aY)):=bX _
theorem Mn:f4 (.im (.lt (.add aa (.max ag ak)) aY) (.lt (.add aa ak) aY)):=bX _
theorem Mm:f3 (.im (.le aa (.n 64)) (.im (.le (.add (.add ag (.ml 10 ak)) (.n 100)) (.n 9900)) (.lt (.add ag aa) (.n 9900)))):=aJ _
theorem Ml:f2 (.im (.eq (.sub aa ag) (.n 0)) (.le aa ag)):=az _
theorem Mj:f2 (.im (.le (.add (.add aa (.ml 2 (aE ag))) (.n 10)) (.n 1000)) (.le (.add (.add (aE aa) (.ml 2 ag)) (.n 10)) (.n 1000))):=az _
theorem Yr:f2 (.im (.le (.add (.add aa (.ml 10 (aE ag))) (.n 100)) (.n 9900)) (.le (.add (.add (aE aa) (.ml 10 ag)) (.n 100)) (.n 9900))):=az _
theorem Mi:f2 (.im (.le aa ag) (.im (.eq ag (.n 16777216)) (.iC cp (.pw 2 63)))):=az _
theorem Mh:f1 (.im (.lt (.n 0) aa) (.iC (.neg cp) (.n 0))):=bc _
theorem Mg:f1 (.im (.eq (aE aa) (.add (.n 0) (.n 1))) (.eq aa (.n 0))):=bc _
theorem Mf:f1 (.le aa (aE aa)):=bc _
theorem Me:f2 (.le aa (.add aa ag)):=az _
theorem Md:f4 (.im (.lt aa (.sub (.sub (aE ag) ak) aY)) (.le (.add (.add aY aa) ak) ag)):=bX _
theorem Mc:f3 (.im (.le aa ag) (.im (.le ag ak) (.le aa ak))):=aJ _
theorem Mb:f2 (.im (.le aa ag) (.eq (.add aa (.sub ag aa)) ag)):=az _
theorem Ma:f2 (.eq (.add (aE aa) ag) (.add aa (aE ag))):=az _
theorem LZ:f3 (.im (.eq (.add (aE aa) ag) ak) (.eq (.add aa (aE ag)) ak)):=aJ _
theorem LY:f3 (.im (.le aa ag) (.im (.lt ag (aE ak)) (.im (.no (.eq ag aa)) (.lt aa ak)))):=aJ _
theorem LX:f2 (.im (.lt aa ag) (.eq (.add (.sub ag (aE aa)) (aE aa)) ag)):=az _
theorem LV:f2 (.im (.no (.lt aa ag)) (.im (.no (.eq aa ag)) (.le (aE ag) aa))):=az _
theorem LU:f3 (.im (.le (.add aa ag) ak) (.le aa (.sub ak ag))):=aJ _
theorem LS:f1 (.im (.lt (.n 0) aa) (.no (.eq aa (.n 0)))):=bc _
theorem LR:f1 (.im (.le aa (.n 900)) (.le (aE aa) (.n 1000))):=bc _
theorem LQ:f4 (.im (.le aa (.add ag (.ml 9 ak))) (.im (.le aY (.add aa (.n 9))) (.le aY (.add ag (.ml 9 (aE ak)))))):=bX _
theorem LP:f2 (.im (.lt (.add aa ag) (.n 60)) (.lt aa (.n 64))):=az _
theorem LO:f2 (.im (.lt aa (.n 64)) (.im (.le ag aa) (.lt ag (.n 64)))):=az _
theorem LM:f2 (.im (.le aa (.n 1000)) (.im (.le ag aa) (.le ag (.n 1000)))):=az _
theorem LK:f3 (.im (.le aa (.add (aE ag) ak)) (.le aa (.add ag (aE ak)))):=aJ _
theorem LJ:f2 (.im (.le aa (.n 3)) (.le (.min ag aa) (.n 3))):=az _
theorem LI:f1 (.im (.le aa (.n 3)) (.jk cp (.pw 2 40))):=bc _
theorem LH:f2 (.im (.le aa ag) (.le aa (.min ag aa))):=az _
theorem LG:f2 (.im (.no (.le aa ag)) (.le ag aa)):=az _
theorem LF:f1 (.im (.le aa (.n 1000)) (.lt (aE aa) (.n 1099511627776))):=bc _
theorem LD:f3 (.im (.no (.iC (.sub cp dQ) g7)) (.gh (.sub cp dQ) (.of (.sub aa ag)))):=aJ _
theorem LB:f3 (.im (.no (.iC (.sub cp dQ) g7)) (.le (.add ak ag) aa)):=aJ _
theorem LA:f4 (.im (.le aa (.n 1000)) (.im (.eq ag (.n 16777216)) (.im (.le ak aY) (.im (.lt (aE aY) (aE aa)) (.le ak ag))))):=bX _
theorem Lz:f3 (.le (.sub (.min aa ag) ak) ag):=aJ _
theorem Ly:f4 (.im (.eq aa (aE ag)) (.im (.le ag (.n 900)) (.im (.eq ak (.n 16777216)) (.im (.eq aY aa) (.le aY ak))))):=bX _
theorem Lx:f2 (.im (.lt aa (aE ag)) (.im (.no (.eq aa ag)) (.lt aa ag))):=az _
theorem Lw:f2 (.im (.lt aa ag) (.im (.le ag (.n 1000)) (.lt aa (.n 1099511627776)))):=az _
theorem Lv:f2 (.im (.iC cp (.sub dQ (.n 1))) (.lt (aE aa) ag)):=az _
theorem Lu:f2 (.im (.no (.iC cp dQ)) (.no (.lt aa ag))):=az _
theorem Ls:f2 (.im (.lt aa ag) (.im (.no (.eq (aE aa) ag)) (.lt (aE aa) ag))):=az _
theorem Lr:f2 (.im (.le aa ag) (.le aa (aE ag))):=az _
theorem Lq:f1 (.im (.le aa (.n 2)) (.le (aE aa) (.n 1000))):=bc _
theorem Lo:f4 (.im (.lt aa (.n 500000)) (.im (.le ag (.n 2)) (.im (.le ak (.add aa (.ml 9 aY))) (.im (.eq aY (aE ag)) (.lt ak (.n 1000000)))))):=bX _
theorem Ln:f3 (.im (.le aa (.n 2)) (.im (.eq ag ak) (.im (.eq ak (aE aa)) (.le ag (.n 1000))))):=aJ _
theorem Lm:f3 (.im (.eq aa ag) (.im (.eq ak aa) (.eq ak ag))):=aJ _
theorem Ll:f4 (.im (.le aa (.n 2)) (.im (.le ag (.add ak (.ml 9 aY))) (.im (.eq aY (aE aa)) (.le ag (.add ak (.n 27)))))):=bX _
theorem Lk:f1 (.le aa (.add aa (.n 27))):=bc _
theorem Lj:f1 (.im (.le aa (.n 2)) (.jk (.of (aE aa)) (.pw 2 40))):=bc _
theorem Li:f2 (.im (.le aa (.n 16)) (.im (.le ag aa) (.le ag (.n 1000)))):=az _
theorem Lh:f2 (.im (.le aa (.n 19)) (.im (.le ag aa) (.le ag (.n 1000)))):=az _
theorem Lf:f2 (.im (.eq aa ag) (.im (.le ag (.n 3)) (.le aa (.n 900)))):=az _
theorem Ld:f3 (.im (.eq aa (aE ag)) (.im (.eq ak aa) (.eq ak (aE ag)))):=aJ _
theorem K9:f1 (.im (.lt aa (.n 4)) (.iC cp (.pw 2 63))):=bc _
theorem K8:f3 (.im (.eq aa (aE ag)) (.im (.eq ak ag) (.eq aa (aE ak)))):=aJ _
theorem K7:f2 (.im (.eq aa (.n 16777216)) (.im (.le ag (.n 3)) (.le (aE ag) aa))):=az _
theorem K5:f1 (.im (.lt (.n 0) aa) (.no (.gh cp (.n 0)))):=bc _
theorem K4:f3 (.im (.le aa ag) (.im (.le ak aa) (.le ak ag))):=aJ _
theorem K3:f3 (.im (.le aa (.n 50)) (.im (.eq ag (.n 16777216)) (.im (.le ak aa) (.le ak ag)))):=aJ _
theorem K2:f3 (.im (.eq aa (aE ag)) (.im (.le ak ag) (.le (aE ak) aa))):=aJ _
theorem K0:f2 (.gh (.add cp (.add dQ (.n 1))) (.add (.add cp (.n 1)) dQ)):=az _
theorem KZ:f2 (.im (.le (.add aa ag) (.n 100000)) (.le aa (.n 16777215))):=az _
theorem Yq:f4 (.im (.le aa ag) (.im (.lt (.add ak (aE ag)) aY) (.lt (.add (aE ak) aa) aY))):=bX _
theorem Yp:f2 (.im (.le (aE aa) (aE ag)) (.le aa ag)):=az _
theorem Yo{a:Nat}{b:Int}{c:Nat}:(↑a:Int)=max 0 (min b (↑c:Int))->a<=c:=iV b λbp bq=>nf [a,bp,bq,c] (.im (.gh cp (.max (.n 0) (.min (.sub dQ g7) rD))) (.le aa aY))
theorem Yn:f3 (.le (.min (.sub aa ag) (.sub ak ag)) ak):=aJ _
theorem Ym:f3 (.im (.eq (.min (.sub aa ag) (.sub ak ag)) ak) (.im (.lt (.n 0) ak) (.eq ag (.n 0)))):=aJ _
theorem Yl:f2 (.im (.eq (.min (.sub aa (.n 0)) (.sub ag (.n 0))) ag) (.le ag (.sub aa (.n 0)))):=az _
theorem Yk:f2 (.eq (.toN (.add cp (.mr dQ 1))) (.add aa ag)):=az _
theorem Yj:f1 (.im (.gh cp (.n 0)) (.eq aa (.n 0))):=bc _
theorem Yi:f3 (.im (.eq (.sub aa ag) ak) (.eq (.min (.sub aa (.n 0)) (.sub ak (.n 0))) ak)):=aJ _
theorem Yh:f3 (.im (.eq (.sub aa ag) ak) (.im (.le aa ak) (.eq (.min (.sub aa ag) (.sub ak ag)) ak))):=aJ _
theorem Yg:f4 (.im (.le (.max aa ag) (.n 64)) (.im (.le (.add (.add ak (.ml 10 aY)) (.n 100)) (.n 9900)) (.lt (.add (aE ak) aa) (.n 9900)))):=bX _
theorem Yf:f2 (.im (.le (.max aa ag) (.n 64)) (.le ag (.n 64))):=az _
theorem Ye:f2 (.im (.eq aa (aE ag)) (.lt ag aa)):=az _
theorem Yd:f3 (.im (.le (.add aa ag) (.n 100000)) (.im (.eq ak (.n 16777216)) (.le aa ak))):=aJ _
theorem Yc:f3 (.im (.eq aa (aE ag)) (.im (.no (.lt ak ag)) (.le aa (aE ak)))):=aJ _
theorem Yb:f3 (.im (.le (aE aa) (.n 64)) (.im (.le (.add (.add ag (.ml 10 ak)) (.n 100)) (.n 9900)) (.lt (.add (aE ag) aa) (.n 9900)))):=aJ _
theorem Ya:f3 (.im (.le (.add aa ag) (.n 100000)) (.im (.eq ak (.n 16777216)) (.le (.add aa ag) (aE ak)))):=aJ _
theorem XZ:f5 (.im (.le (.add aa ag) (.n 100000)) (.im (.eq ak aa) (.im (.eq aY ag) (.im (.eq eH (.n 16777216)) (.le (.add ak aY) eH))))):=gN _
theorem XY:f3 (.im (.an (.le aa ag) (.lt ag (.add aa (.sub (aE ak) aa)))) (.le aa ag)):=aJ _
theorem XX:f1 (.eq (.toN (.max (.n 0) cp)) aa):=bc _
theorem XW:f1 (.eq (.toN (.max (.n 0) cp)) aa):=bc _
theorem XU:f2 (.le (.sub aa (.sub aa ag)) ag):=az _
theorem XT:f2 (.im (.le aa ag) (.eq (.min (.toN (.max (.n 0) cp)) ag) aa)):=az _
theorem XS:f1 (.im (.le aa (.n 100000)) (.iC cp (.n 9223372036854775808))):=bc _
theorem XR:f1 (.im (.no (.iC cp (.n 1))) (.iC (.n 0) cp)):=bc _
theorem XQ{a:Nat}:a<=100000->1*(↑a:Int)<=2^63-1:=by lia
theorem XP{a:Int}:a≥1->¬(↑1:Int)>a:=iV a λap aq=>nf [ap,aq] (.im (.jk (.n 1) (.sub cp dQ)) (.no (.iC (.sub cp dQ) (.of (.n 1)))))
theorem XO:f3 (.im (.eq (.sub aa ag) (aE ak)) (.lt ag aa)):=aJ _
theorem XN:f3 (.im (.eq (.sub aa ag) (aE ak)) (.eq (.sub aa (aE ag)) ak)):=aJ _
theorem XM:f2 (.im (.le (.add (.add aa (.ml 10 ag)) (.n 100)) (.n 9900)) (.lt aa (.n 9900))):=az _
theorem XK:f3 (.im (.le aa ag) (.im (.le (.add (.add ak (.ml 2 ag)) (.n 10)) (.n 1000)) (.le (.add (.add ak (.ml 2 aa)) (.n 10)) (.n 1000)))):=aJ _
theorem XJ:f2 (.im (.le (.add (.add aa (.ml 2 ag)) (.n 10)) (.n 1000)) (.lt aa (.n 1000))):=az _
theorem XI:f2 (.im (.le (.add (.add aa (.ml 10 (aE ag))) (.n 100)) (.n 9900)) (.le (.add (.add (.add aa (.n 3)) (.ml 10 ag)) (.n 100)) (.n 9900))):=az _
theorem XH:f3 (.im (.le aa ag) (.im (.le (.add (.add ak (.ml 10 ag)) (.n 100)) (.n 9900)) (.le (.add (.add ak (.ml 10 aa)) (.n 100)) (.n 9900)))):=aJ _
theorem XG:f1 (.im (.iC cp (.pw 2 63)) (.no (.jk (.pw 2 63) cp))):=bc _
theorem Xz:f3 (.im (.le aa ag) (.im (.eq ag ak) (.jk (.neg g7) (.neg cp)))):=aJ _
theorem Xy:f2 (.im (.le aa ag) (.im (.iC dQ (.pw 2 63)) (.jk (.neg (.pw 2 63)) (.neg cp)))):=az _
theorem Xx:f3 (.im (.eq aa ag) (.eq (.toN (.add (.neg g7) dQ)) (.sub aa ak))):=aJ _
theorem Xw:f1 (.im (.le aa (.n 100)) (.le aa (.add (.n 16777216) (.n 1)))):=bc _
theorem Xv{a:Int}{b:Nat}:a<=(↑b:Int)->a-(↑b:Int)<=0:=iV a λap aq=>nf [ap,aq,b] (.im (.jk (.sub cp dQ) g7) (.jk (.sub (.sub cp dQ) g7) (.n 0)))
theorem Xu{a:Nat}{b:Int}:a<b.toNat->0<b-(↑a:Int):=iV b λbp bq=>nf [a,bp,bq] (.im (.lt aa (.toN (.sub dQ g7))) (.iC (.n 0) (.sub (.sub dQ g7) cp)))
theorem Xt{a:Int}{b:Nat}:a+(↑(b+1):Int)=a+(↑b:Int)+1:=iV a λap aq=>nf [ap,aq,b] (.gh (.add (.sub cp dQ) (.of (aE ak))) (.add (.add (.sub cp dQ) g7) (.n 1)))
theorem Xs{a:Int}{b:Nat}:a-(↑(b+1):Int)=a-(↑b:Int)-1:=iV a λap aq=>nf [ap,aq,b] (.gh (.sub (.sub cp dQ) (.of (aE ak))) (.sub (.sub (.sub cp dQ) g7) (.n 1)))
theorem Xr{a b:Int}:-2^40<=a->b<=2^40->a<=2^40->-2^40<=b->(((-9223372036854775808<=a/\a<9223372036854775808)/\-9223372036854775808<=b/\b<9223372036854775808)/\-9223372036854775808<=max (b-a) 0/\max (b-a) 0<9223372036854775808)/\(max (b-a) 0=0∨-9223372036854775808<=b/\b<9223372036854775808):=iV a λap aq=>iV b λbp bq=>nf [ap,aq,bp,bq] (.im (.jk (.neg (.pw 2 40)) (.sub cp dQ)) (.im (.jk (.sub g7 rD) (.pw 2 40)) (.im (.jk (.sub cp dQ) (.pw 2 40)) (.im (.jk (.neg (.pw 2 40)) (.sub g7 rD)) (.an (.an (.an (.an (.jk (.neg (.n 9223372036854775808)) (.sub cp dQ)) (.iC (.sub cp dQ) (.n 9223372036854775808))) (.an (.jk (.neg (.n 9223372036854775808)) (.sub g7 rD)) (.iC (.sub g7 rD) (.n 9223372036854775808)))) (.an (.jk (.neg (.n 9223372036854775808)) (.max (.sub (.sub g7 rD) (.sub cp dQ)) (.n 0))) (.iC (.max (.sub (.sub g7 rD) (.sub cp dQ)) (.n 0)) (.n 9223372036854775808)))) (.o (.gh (.max (.sub (.sub g7 rD) (.sub cp dQ)) (.n 0)) (.n 0)) (.an (.jk (.neg (.n 9223372036854775808)) (.sub g7 rD)) (.iC (.sub g7 rD) (.n 9223372036854775808)))))))))
theorem Xq:f1 (.im (.le aa (.n 10)) (.le (aE aa) (.n 64))):=bc _
theorem Xp:f2 (.im (.le aa (.n 2)) (.im (.le ag (.n 2)) (.le (.max ag aa) (.n 2)))):=az _
theorem Xo:f1 (.im (.eq aa (.n 8)) (.lt aa (.n 28))):=bc _
theorem Xn:f2 (.im (.lt aa (.n 28)) (.im (.eq ag aa) (.lt ag (.n 28)))):=az _
theorem Xm:f2 (.im (.lt aa (.n 28)) (.im (.le ag aa) (.im (.eq ag (.n 28)) .fl))):=az _
theorem Xl:f1 (.im (.le aa (.n 2)) (.lt aa (.n 28))):=bc _
theorem Xk:f1 (.im (.o (.o (.o (.o (.eq aa (.n 45)) (.eq aa (.n 48))) (.eq aa (.n 49))) (.eq aa (.n 97))) (.eq aa (.n 98))) (.an (.no (.eq aa (.n 83))) (.an (.no (.eq aa (.n 78))) (.an (.no (.eq aa (.n 84))) (.no (.eq aa (.n 85))))))):=bc _
theorem Xj:f1 (.im (.le aa (.n 2)) (.le (.add (.n 1) (.mr aa 1)) (.n 3))):=bc _
theorem Xi:f2 (.im (.eq aa ag) (.eq (.min aa ag) ag)):=az _
theorem Xh:f3 (.im (.le aa (.n 3)) (.im (.le ag (.ml 3 ak)) (.le (.add aa ag) (.ml 3 (aE ak))))):=aJ _
theorem Xg:f3 (.im (.le aa (.n 3)) (.im (.eq ag (.add (.n 1) ak)) (.im (.le ak (.ml 3 aa)) (.lt ag (.n 60))))):=aJ _
theorem Xf:f3 (.im (.le aa (.ml 2 ag)) (.im (.le ak (.n 2)) (.le (.add aa ak) (.ml 2 (aE ag))))):=aJ _
theorem Xe:f5 (.im (.eq aa ag) (.im (.eq ak aa) (.im (.eq aY ag) (.im (.lt eH ak) (.lt eH aY))))):=gN _
theorem Xd:f4 (.im (.eq aa ag) (.im (.eq ak aa) (.im (.lt aY ak) (.lt aY ag)))):=bX _
theorem Xc:f5 (.im (.eq aa ag) (.im (.eq ak aa) (.im (.eq aY ag) (.im (.no (.lt eH ak)) (.le aY eH))))):=gN _
theorem Xb:f1 (.im (.o (.o (.o (.o (.eq aa (.n 45)) (.eq aa (.n 48))) (.eq aa (.n 49))) (.eq aa (.n 97))) (.eq aa (.n 98))) (.no (.eq aa (.n 65)))):=bc _
theorem Xa:f1 (.im (.o (.o (.o (.o (.eq aa (.n 45)) (.eq aa (.n 48))) (.eq aa (.n 49))) (.eq aa (.n 97))) (.eq aa (.n 98))) (.no (.eq aa (.n 66)))):=bc _
theorem W9:f1 (.im (.o (.o (.o (.o (.eq aa (.n 45)) (.eq aa (.n 48))) (.eq aa (.n 49))) (.eq aa (.n 97))) (.eq aa (.n 98))) (.no (.eq aa (.n 67)))):=bc _
theorem W8:f1 (.im (.gh cp (.n 6)) (.eq aa (.n 6))):=bc _
theorem W7:f3 (.im (.le aa (.add ag ak)) (.le aa (.add (.add ag ak) (.n 1)))):=aJ _
theorem W6:f4 (.im (.le aa (.add ag ak)) (.im (.le aY (aE aa)) (.le aY (.add (.add ag ak) (.n 1))))):=bX _
theorem W5:f3 (.im (.le aa ag) (.im (.no (.lt ak ag)) (.no (.eq aa (aE ak))))):=aJ _
theorem W4:f2 (.im (.le aa ag) (.im (.lt ag aa) .fl)):=az _
theorem W0:f2 (.im (.lt aa ag) (.le (aE aa) ag)):=az _
theorem WZ:f4 (.im (.le aa ag) (.im (.le (.add ag ak) aY) (.an (.le aa ag) (.lt ag (.add aa (.sub (aE aY) aa)))))):=bX _
theorem WY:f2 (.im (.le aa ag) (.im (.no (.eq ag aa)) (.le (aE aa) ag))):=az _
theorem WW:f2 (.im (.lt aa (aE ag)) (.no (.eq aa (aE ag)))):=az _
theorem WV:f2 (.im (.lt aa ag) (.eq ag (.add aa (.add (.n 1) (.sub (.sub ag aa) (.n 1)))))):=az _
theorem WU:f4 (.im (.le aa ag) (.im (.le ak aY) (.im (.eq ak (aE ag)) (.lt aa aY)))):=bX _
theorem WQ:f4 (.im (.le (.add aa ag) ak) (.im (.lt aY aa) (.le (.add aY ag) ak))):=bX _
theorem WO:f2 (.eq (.sub (.sub aa ag) (.n 1)) (.sub (.sub (.add ag (.add (.n 1) (.sub (.sub aa ag) (.n 1)))) ag) (.n 1))):=az _
theorem WN:f3 (.im (.le aa ag) (.im (.eq ak (aE ag)) (.le (aE aa) ak))):=aJ _
theorem WM:f4 (.im (.le aa ag) (.im (.le (.add ag ak) aY) (.lt (.sub ag aa) (.sub (.sub (aE aY) ak) aa)))):=bX _
theorem WK:f3 (.im (.an (.le (aE aa) ag) (.lt ag (.add (aE aa) (.sub (.sub ak aa) (.n 1))))) (.lt aa ag)):=aJ _
theorem WJ:f3 (.im (.lt aa (.sub ag ak)) (.lt (.add ak aa) ag)):=aJ _
theorem WI:f4 (.im (.lt (.sub aa ag) ak) (.le (.add aa aY) (.add (.add ag ak) aY))):=bX _
theorem WH:f3 (.im (.le aa ag) (.le (.add aa ak) (.add ag ak))):=aJ _
theorem WD:f4 (.im (.le aa ag) (.im (.le (.add ag ak) aY) (.le (.add aa ak) aY))):=bX _
theorem WC:f2 (.eq (.sub (.add (.add aa ag) (.n 1)) aa) (aE ag)):=az _
theorem WB{a b c d:Nat}:a+b+c<=a+d↔b+c<=d:=⟨nf [a,b,c,d] (.im (.le (.add (.add aa ag) ak) (.add aa aY)) (.le (.add ag ak) aY)),nf [a,b,c,d] (.im (.le (.add ag ak) aY) (.le (.add (.add aa ag) ak) (.add aa aY)))⟩
theorem Wz:f3 (.im (.le aa ag) (.eq (.sub (.min aa ag) ak) (.sub aa ak))):=aJ _
theorem Wy:f2 (.im (.eq (.n 0) (.sub aa ag)) (.im (.lt ag aa) .fl)):=az _
theorem Wx:f1 (.le (.n 0) aa):=bc _
theorem Ww:f5 (.im (.le aa ag) (.im (.le (.add ak aY) (.sub (.min ag eH) aa)) (.le (.add (.add aa ak) aY) ag))):=gN _
theorem Wv:f2 (.im (.lt aa (aE ag)) (.lt aa (.add (.n 0) (.sub (aE ag) (.n 0))))):=az _
theorem Wu:f2 (.im (.eq aa ag) (.im (.eq ag (.n 0)) (.eq aa (.n 0)))):=az _
theorem Wt:f3 (.im (.eq aa (.sub ag ak)) (.im (.no (.lt ak ag)) (.eq aa (.n 0)))):=aJ _
theorem Wr:f3 (.im (.le (.add aa ag) ak) (.le aa ak)):=aJ _
theorem Wq:f3 (.im (.no (.lt aa (aE ag))) (.no (.le (.add aa ak) ag))):=aJ _
theorem Wo:f5 (.im (.le aa ag) (.im (.le (.add ak aY) (.sub (.min ag eH) aa)) (.le (.add aa ak) ag))):=gN _
theorem Wn:f1 (.im (.le aa (.n 0)) (.eq aa (.n 0))):=bc _
theorem Wm:f4 (.im (.le (.add aa ag) ak) (.im (.lt aY aa) (.no (.le (aE ak) aY)))):=bX _
theorem Wl:f3 (.im (.le (.add aa ag) ak) (.le ag (.sub ak aa))):=aJ _
theorem Wk:f1 (.im (.no (.eq aa (.n 0))) (.im (.eq (.n 0) aa) .fl)):=bc _
theorem Wj:f2 (.le (aE aa) (.add (aE aa) ag)):=az _
theorem Wi:f3 (.im (.le aa ag) (.im (.eq ak (.sub ag aa)) (.eq (.sub (aE ag) aa) (aE ak)))):=aJ _
theorem Wh:f4 (.im (.le (.add aa ag) ak) (.le (.add aa ag) (.add ak (aE aY)))):=bX _
theorem Wg:f3 (.im (.le (.add aa ag) ak) (.no (.le (aE ak) aa))):=aJ _
theorem Wf:f3 (.im (.lt aa (.add (aE ag) ak)) (.im (.le (aE ag) aa) (.lt (.sub aa (aE ag)) ak))):=aJ _
theorem We:f4 (.im (.le (.add (.add aa ag) ak) aY) (.le (.add ag ak) (.sub aY aa))):=bX _
theorem Wc:f4 (.im (.le (.add (.add aa ag) ak) aY) (.le ak (.sub aY (.add aa ag)))):=bX _
theorem Wb:f4 (.im (.le aa ag) (.im (.no (.le (.add (.add aa ak) aY) ag)) (.no (.le (.add ak aY) (.sub ag aa))))):=bX _
theorem Wa:f3 (.im (.le (.add aa (aE ag)) (aE ak)) (.le ag ak)):=aJ _
theorem V9:f2 (.im (.le (aE aa) ag) (.eq ag (.add (aE aa) (.sub ag (aE aa))))):=az _
theorem V8:f2 (.eq (.sub aa (aE ag)) (.sub (.add (aE ag) (.sub aa (aE ag))) (aE ag))):=az _
theorem V7{a b c d:Nat}:a+1<=b->(b+c<=a+(d+1)↔b-(a+1)+c<=d):=λh=>⟨(nf [a,b,c,d] (.im (.le (aE aa) ag) (.im (.le (.add ag ak) (.add aa (aE aY))) (.le (.add (.sub ag (aE aa)) ak) aY))):fD _ _) h,(nf [a,b,c,d] (.im (.le (aE aa) ag) (.im (.le (.add (.sub ag (aE aa)) ak) aY) (.le (.add ag ak) (.add aa (aE aY))))):fD _ _) h⟩
theorem V6:f3 (.im (.no (.le (.add aa ag) ak)) (.im (.no (.le (aE ak) aa)) (.lt (.sub ak aa) ag))):=aJ _
theorem V5:f2 (.im (.no (.le (aE aa) ag)) (.eq (.add ag (.sub aa ag)) aa)):=az _
theorem V4:f2 (.im (.eq (aE aa) ag) (.eq aa (.sub ag (.n 1)))):=az _
theorem V3:f2 (.im (.eq (.add (.n 0) aa) ag) (.le ag aa)):=az _
theorem V2:f2 (.no (.eq (.add aa (aE ag)) aa)):=az _
theorem V1:f2 (.im (.lt (.n 0) aa) (.lt ag (.add ag aa))):=az _
theorem V0:f2 (.im (.eq (.sub aa (.sub aa ag)) ag) (.le ag aa)):=az _
theorem VZ:f2 (.im (.no (.le aa ag)) (.lt ag aa)):=az _
theorem VY:f2 (.im (.lt aa ag) (.lt (aE aa) (aE ag))):=az _
theorem VX:f2 (.eq (.min (.sub aa ag) aa) (.sub aa ag)):=az _
theorem VW:f2 (.eq (.add aa (aE ag)) (.add (aE aa) ag)):=az _
theorem VV:f4 (.im (.lt aa (.add (aE ag) ak)) (.im (.eq aa (.add (aE aY) ak)) (.le (aE aY) ag))):=bX _
theorem VU:f1 (.lt aa (aE aa)):=bc _
theorem VT:f3 (.im (.le (.add aa ag) ak) (.le ag ak)):=aJ _
theorem VS:f1 (.im (.o (.o (.o (.eq aa (.n 6)) (.eq aa (.n 7))) (.eq aa (.n 16))) (.eq aa (.n 17))) (.o (.eq aa (.n 6)) (.o (.eq aa (.n 7)) (.o (.eq aa (.n 16)) (.eq aa (.n 17)))))):=bc _
theorem VR:f2 (.im (.le aa (.n 8)) (.im (.le ag aa) (.lt ag (.n 64)))):=az _
theorem VQ:f2 (.im (.le (.add (aE aa) ag) (.n 434)) (.le aa (.n 1000))):=az _
theorem VP:f2 (.im (.le aa (.n 3)) (.im (.le ag (.add (.n 101) (.ml 111 aa))) (.le ag (.n 434)))):=az _
theorem VO:f3 (.im (.le (.add (.mr aa 9) (.n 1)) ag) (.im (.o (.eq ak (.n 48)) (.eq ak (.n 49))) (.le (.add (.mr (.add (.mr aa 10) (.sub ak (.n 48))) 9) (.n 1)) (.mr ag 10)))):=aJ _
theorem VN:f3 (.eq (.sub (.add aa (.add ag ak)) ak) (.add aa ag)):=aJ _
theorem VM:f3 (.le (.add aa ag) (.add aa (.add ak ag))):=aJ _
theorem VL:f2 (.le (.add (.n 1) (aE aa)) (.add (.add (.add aa ag) (.n 1)) (.n 1))):=az _
theorem VK:f1 (.im (.lt aa (.n 1)) (.eq aa (.n 0))):=bc _
theorem VJ:f1 (.im (.o (.o (.o (.o (.eq aa (.n 45)) (.eq aa (.n 48))) (.eq aa (.n 49))) (.eq aa (.n 97))) (.eq aa (.n 98))) (.o (.eq aa (.n 45)) (.o (.eq aa (.n 48)) (.o (.eq aa (.n 49)) (.o (.eq aa (.n 97)) (.eq aa (.n 98))))))):=bc _
theorem VI:f2 (.im (.le (.add (.mr aa 9) (.n 1)) ag) (.im (.le ag (.n 10000000000000000)) (.le aa (.n 9007199254740991)))):=az _
theorem VH:45=48∨45=49->False:=nf [] (.im (.o (.eq (.n 45) (.n 48)) (.eq (.n 45) (.n 49))) .fl)
theorem VG:97=48∨97=49->False:=nf [] (.im (.o (.eq (.n 97) (.n 48)) (.eq (.n 97) (.n 49))) .fl)
theorem VF:98=48∨98=49->False:=nf [] (.im (.o (.eq (.n 98) (.n 48)) (.eq (.n 98) (.n 49))) .fl)
theorem VE:f1 (.im (.le (aE aa) aa) .fl):=bc _
theorem VD:f1 (.im (.an (.le (.n 48) aa) (.le aa (.n 57))) (.im (.o (.eq aa (.n 45)) (.o (.eq aa (.n 48)) (.o (.eq aa (.n 49)) (.o (.eq aa (.n 97)) (.eq aa (.n 98)))))) (.o (.eq aa (.n 48)) (.eq aa (.n 49))))):=bc _
theorem VC:f1 (.im (.no (.o (.eq aa (.n 48)) (.eq aa (.n 49)))) (.im (.o (.eq aa (.n 45)) (.o (.eq aa (.n 48)) (.o (.eq aa (.n 49)) (.o (.eq aa (.n 97)) (.eq aa (.n 98)))))) (.o (.eq aa (.n 45)) (.o (.eq aa (.n 97)) (.eq aa (.n 98)))))):=bc _
theorem VB:f3 (.im (.lt aa ag) (.im (.an (.le (.n 48) ak) (.le ak (.n 57))) (.lt (.add (.mr aa 10) (.sub ak (.n 48))) (.mr ag 10)))):=aJ _
theorem VA:f1 (.im (.le (aE aa) (.n 100000)) (.le aa (.n 100000))):=bc _
theorem Vz:f1 (.im (.le aa (.n 16)) (.im (.iC (.n 16) cp) .fl)):=bc _
theorem Vy:f1 (.im (.no (.iC (.n 16) cp)) (.le aa (.n 16))):=bc _
theorem Vx:f1 (.im (.lt aa (.n 48)) (.im (.le (.n 48) aa) .fl)):=bc _
theorem Vw:f1 (.im (.lt (.n 57) aa) (.im (.le aa (.n 57)) .fl)):=bc _
theorem Vv:f1 (.im (.no (.lt aa (.n 48))) (.le (.n 48) aa)):=bc _
theorem Vu:f1 (.im (.no (.lt (.n 57) aa)) (.le aa (.n 57))):=bc _
theorem Vt:f1 (.im (.iC (.n 0) cp) (.le (.n 1) aa)):=bc _
theorem Vs:f1 (.im (.no (.iC (.n 0) cp)) (.im (.le (.n 1) aa) .fl)):=bc _
theorem Vq:f1 (.jk (.neg (.pw 2 63)) cp):=bc _
theorem Vp:f1 (.im (.lt aa (.n 1099511627776)) (.iC cp (.pw 2 63))):=bc _
theorem Vo:f3 (.im (.le aa (.n 1000)) (.im (.eq ag (.n 16777216)) (.le (.min ak aa) ag))):=aJ _
theorem Vn:f1 (.im (.le (.n 16) aa) (.no (.eq aa (.n 5)))):=bc _
theorem Vm:f1 (.im (.le (.n 16) aa) (.no (.eq aa (.n 4)))):=bc _
theorem Vl:f1 (.im (.le aa (.n 100000)) (.le (.add (aE aa) (.n 1)) (.n 16777216))):=bc _
theorem Vk:f1 (.im (.le aa (.n 900)) (.le (aE aa) (.n 100000))):=bc _
theorem Vj:f2 (.im (.le aa ag) (.gh (.sub dQ cp) (.of (.sub ag aa)))):=az _
theorem Vi:f2 (.im (.le aa (.n 1000)) (.le (.min (.sub aa ag) aa) (.n 1000))):=az _
theorem Vh:f3 (.im (.le aa (.n 900)) (.im (.le ag ak) (.im (.lt ak aa) (.le ag (.n 1000))))):=aJ _
theorem Vg:f3 (.im (.le aa ag) (.im (.eq ak (aE aa)) (.le ak (aE ag)))):=aJ _
theorem Vf:f1 (.gh (.sub (.of (aE aa)) (.n 1)) (.of (.sub (aE aa) (.n 1)))):=bc _
theorem Ve:f1 (.lt (.sub (aE aa) (.n 1)) (aE aa)):=bc _
theorem Vd:f2 (.im (.le aa (.n 900)) (.im (.le ag aa) (.le ag (.n 1000)))):=az _
theorem Vc:f3 (.im (.le aa (.n 8)) (.im (.le ag (.add (.add ak aa) (.n 1))) (.le ag (.add ak (.n 9))))):=aJ _
theorem Vb:f4 (.im (.lt aa (.n 700000)) (.im (.le ag (.n 1000)) (.im (.le ak (.add aa (.ml 9 aY))) (.im (.lt aY ag) (.lt ak (.n 800000)))))):=bX _
theorem Va{a b:Int}:a=11∨a=14∨a=15∨a=16∨a=17->b<=10∨b=18->¬a=b:=iV a λap aq=>iV b λbp bq=>nf [ap,aq,bp,bq] (.im (.o (.gh (.sub cp dQ) (.n 11)) (.o (.gh (.sub cp dQ) (.n 14)) (.o (.gh (.sub cp dQ) (.n 15)) (.o (.gh (.sub cp dQ) (.n 16)) (.gh (.sub cp dQ) (.n 17)))))) (.im (.o (.jk (.sub g7 rD) (.n 10)) (.gh (.sub g7 rD) (.n 18))) (.no (.gh (.sub cp dQ) (.sub g7 rD)))))
theorem U9:f3 (.im (.le aa ag) (.im (.le (.n 1) ak) (.le (aE aa) (.add ak ag)))):=aJ _
theorem U8:f4 (.im (.eq aa (.n 16777216)) (.im (.lt (.add ag ak) (.n 60)) (.im (.le aY ak) (.le aY aa)))):=bX _
theorem U7:f7 (.im (.lt (.add aa ag) (.n 60)) (.im (.eq (aE ak) aY) (.im (.eq ag (.add eH aY)) (.im (.le oQ ak) (.im (.eq oQ uC) (.le uC (.n 60))))))):=vM _
theorem U6:f6 (.im (.eq aa (.n 16777216)) (.im (.lt (.add ag ak) (.n 60)) (.im (.eq ak (.add aY eH)) (.im (.le oQ aY) (.lt oQ aa))))):=Aj _
theorem U5:f3 (.im (.eq aa (.n 16777216)) (.im (.lt (.add ag ak) (.n 60)) (.le ag aa))):=aJ _
theorem U4:f6 (.im (.lt (.add aa ag) (.n 60)) (.im (.eq ag (.add ak aY)) (.im (.le eH ak) (.im (.le oQ (.n 60)) (.le (.add eH oQ) (.n 100000)))))):=Aj _
theorem U3:f4 (.im (.eq (aE aa) ag) (.im (.eq ak (.add aY ag)) (.lt (.add aY aa) ak))):=bX _
theorem U2:f5 (.im (.lt (.add aa ag) (.n 60)) (.im (.eq (aE ak) aY) (.im (.eq ag (.add eH aY)) (.lt (.add (aE aa) (.add eH ak)) (.n 60))))):=gN _
theorem U1:f3 (.im (.eq aa (.add ag ak)) (.im (.le (.n 1) ak) (.lt ag aa))):=aJ _
theorem U0:f4 (.im (.lt (.add aa ag) (.n 60)) (.im (.eq ag (.add ak aY)) (.lt (.add aa ak) (.n 60)))):=bX _
theorem UZ:f3 (.im (.eq aa (.n 16777216)) (.im (.lt ag (.n 64)) (.im (.le ak ag) (.le ak aa)))):=aJ _
theorem UY:f2 (.im (.lt aa (.n 64)) (.im (.le ag aa) (.le ag (.n 64)))):=az _
theorem UX:f2 (.im (.eq aa (aE aa)) (.le (.n 1) ag)):=az _
theorem UW:f2 (.im (.le aa (.n 16)) (.im (.eq ag (aE aa)) (.le ag (.n 4300)))):=az _
theorem UU:f2 (.im (.le aa (.n 16)) (.im (.eq ag (aE aa)) (.le ag (.n 20)))):=az _
theorem UT:f1 (.im (.le (.n 1) aa) (.eq aa (.add (.sub aa (.n 1)) (.n 1)))):=bc _
theorem US:f1 (.im (.gh (.n 7) cp) (.eq aa (.n 7))):=bc _
theorem UR:f3 (.im (.le aa (aE ag)) (.im (.le ak (aE aa)) (.le ak (.add ag (.n 2))))):=aJ _
theorem UQ:f2 (.im (.le aa (aE ag)) (.le aa (.add ag (.n 2)))):=az _
theorem UP:f1 (.le aa (.add aa (.n 9))):=bc _
theorem UO:f4 (.im (.lt aa (.n 600000)) (.im (.le ag (.n 1000)) (.im (.le ak (.add aa (.ml 9 aY))) (.im (.lt aY ag) (.lt ak (.n 700000)))))):=bX _
theorem UN:f3 (.im (.le aa (.n 900)) (.im (.eq ag (.n 16777216)) (.im (.eq ak (aE aa)) (.le ak ag)))):=aJ _
theorem UM:f2 (.im (.le aa (.n 900)) (.im (.eq ag (aE aa)) (.jk dQ (.pw 2 40)))):=az _
theorem UL:f3 (.im (.le aa (.n 900)) (.im (.eq ag (.n 16777216)) (.im (.eq ak (aE aa)) (.le (.toN (.sub g7 (.n 0))) ag)))):=aJ _
theorem UK:f3 (.im (.le aa (.n 900)) (.im (.eq ag (aE aa)) (.im (.lt ak ag) (.iC g7 (.pw 2 63))))):=aJ _
theorem UJ:f5 (.im (.lt aa (.n 600000)) (.im (.le ag (.n 900)) (.im (.eq ak (aE ag)) (.im (.le aY (.add aa (.ml 2 eH))) (.im (.lt eH ak) (.lt aY (.n 800000))))))):=gN _
theorem UI:f3 (.im (.le aa (.n 900)) (.im (.eq ag (aE aa)) (.im (.lt ak ag) (.lt ak (.n 1099511627776))))):=aJ _
theorem UH:f4 (.im (.le aa (.add ag (.ml 2 ak))) (.im (.le aY (.add aa (.n 2))) (.le aY (.add ag (.ml 2 (aE ak)))))):=bX _
theorem UG:f5 (.im (.eq aa (aE ag)) (.im (.eq ak (aE ag)) (.im (.le aY (.add eH (.ml 2 (.toN (.sub g7 (.n 0)))))) (.le aY (.add eH (.ml 2 aa)))))):=gN _
theorem UE:f4 (.im (.eq aa (aE ag)) (.im (.eq ak (aE ag)) (.im (.eq aY (.toN (.sub g7 (.n 0)))) (.eq aY aa)))):=bX _
theorem UD:f3 (.im (.le aa ag) (.le (aE aa) (.add (aE ak) ag))):=aJ _
theorem UC:f6 (.im (.le aa ag) (.im (.le ak aY) (.im (.le (.add (.add ag (.add (aE eH) (.n 0))) (.add (aE oQ) aY)) (.n 50000)) (.le (.add aa ak) (.n 100000))))):=Aj _
theorem UB:f4 (.le (.add aa (.add (.add (.add ag ak) (.n 1)) aY)) (.add (.add aa (.add (aE ag) (.n 0))) (.add (aE ak) aY))):=bX _
theorem UA:f4 (.im (.le (.add (.add aa (.add (aE ag) (.n 0))) (.add (aE ak) aY)) (.n 50000)) (.le (.add ag ak) (.n 100000))):=bX _
theorem Uz:f3 (.im (.le aa ag) (.le aa (.add ag (.ml 111 ak)))):=aJ _
theorem Uy:f3 (.im (.le aa ag) (.le aa (.add ag ak))):=aJ _
theorem Ux:f3 (.im (.le aa ag) (.im (.le ak (.n 1)) (.le (.add aa ak) (aE ag)))):=aJ _
theorem Uw:f3 (.im (.le aa (.add (.add ag (.n 111)) (.ml 111 ak))) (.le aa (.add ag (.ml 111 (aE ak))))):=aJ _
theorem Uv:f2 (.im (.le aa (.n 3)) (.im (.le ag (.add (.n 101) (.ml 111 aa))) (.le ag (.n 500)))):=az _
theorem Uu:f3 (.im (.eq aa ag) (.eq (.min ak ag) (.min ak aa))):=aJ _
theorem Ut:f2 (.im (.le aa (.n 3)) (.im (.lt ag aa) (.iC dQ (.pw 2 63)))):=az _
theorem Us:f2 (.im (.le aa (.n 3)) (.im (.lt ag aa) (.lt (aE ag) (.n 1099511627776)))):=az _
theorem Ur:f2 (.im (.le aa (.n 8)) (.le (.min ag aa) (.n 8))):=az _
theorem Uq:f2 (.im (.le aa (.n 500)) (.im (.le ag (.n 10)) (.le (.add aa ag) (.n 50000)))):=az _
theorem Up:f3 (.im (.eq aa (.n 16777216)) (.im (.le ag (.n 3)) (.im (.le ak (.n 1)) (.le (.add ag ak) aa)))):=aJ _
theorem Uo:f1 (.im (.no (.eq aa (.n 6))) (.no (.gh cp (.n 6)))):=bc _
theorem Un:f1 (.im (.o (.gh cp (.n 0)) (.o (.gh cp (.n 1)) (.o (.gh cp (.n 2)) (.o (.gh cp (.n 8)) (.o (.gh cp (.n 13)) (.o (.gh cp (.n 14)) (.gh cp (.neg (.n 1))))))))) (.o (.eq aa (.n 0)) (.o (.eq aa (.n 1)) (.o (.eq aa (.n 2)) (.o (.eq aa (.n 8)) (.o (.eq aa (.n 13)) (.eq aa (.n 14)))))))):=bc _
theorem Um:f2 (.im (.le aa (.n 8)) (.le (.min ag aa) (.n 8))):=az _
theorem Ul:f3 (.im (.le aa (.n 3)) (.im (.le ag (.add (.n 101) (.ml 111 aa))) (.im (.le ak ag) (.le ak (.n 1000))))):=aJ _
theorem Uk:f2 (.im (.le aa (.n 3)) (.im (.le ag (.add (.n 0) aa)) (.le ag (.n 1000)))):=az _
theorem Uj:f3 (.im (.lt aa (.n 900000)) (.im (.le ag (.n 8)) (.im (.le ak (.add aa ag)) (.lt ak (.n 1000000))))):=aJ _
theorem Ui:f3 (.im (.le aa (.n 8)) (.im (.eq ag aa) (.im (.le ak (.add (.n 0) ag)) (.lt ak (.n 64))))):=aJ _
theorem Uh:f2 (.le (.sub aa (.min ag aa)) (.sub aa (.min ag aa))):=az _
theorem Ug:f2 (.eq (.min (.min aa ag) ag) (.min aa ag)):=az _
theorem Ue:f2 (.eq (.toN (.sub cp dQ)) (.sub aa ag)):=az _
theorem Ud:f3 (.im (.lt aa (.sub ag ak)) (.lt (.add aa ak) ag)):=aJ _
theorem Uc:f2 (.gh (.add cp dQ) (.of (.add ag aa))):=az _
theorem Ub{a b c:Nat}:min (min a b-c) (b-c)=min (a-c) (b-c):=by
 induction Nat.le_total a b with
 |inl h=>rw[Nat.min_eq_left h]
 |inr h=>rw[Nat.min_eq_right h,Nat.min_self];exact(Nat.min_eq_right (Nat.sub_le_sub_right h c)).symm
theorem Ua:f3 (.im (.le aa (.n 1000)) (.im (.eq ag (.n 16777216)) (.im (.eq ak (.add aa (.n 2))) (.le ak ag)))):=aJ _
theorem T9:f1 (.im (.le aa (.n 1000)) (.jk (.of (aE aa)) (.pw 2 40))):=bc _
theorem omap:f2 (.im (.le aa (.n 1000)) (.im (.lt (aE ag) (aE aa)) (.lt (aE ag) (.n 1099511627776)))):=az _
theorem T8:f2 (.im (.jk cp dQ) (.no (.lt ag aa))):=az _
theorem T7:f2 (.im (.no (.jk cp dQ)) (.lt ag aa)):=az _
theorem T6:f1 (.le aa (.toN (.sub (.of (aE aa)) (.n 1)))):=bc _
theorem TZ:f2 (.im (.le aa (.n 1000)) (.im (.le ag (.toN (.sub (.of (aE aa)) (.n 1)))) (.le ag (.n 1000)))):=az _
theorem TY:f2 (.im (.eq aa (aE ag)) (.im (.le ag (.n 900)) (.jk cp (.pw 2 40)))):=az _
theorem TX:f4 (.im (.eq aa (aE ag)) (.im (.eq ak (aE ag)) (.im (.lt aY aa) (.lt aY ak)))):=bX _
theorem TV:f3 (.im (.eq aa (aE ag)) (.im (.le ag (.n 900)) (.im (.lt ak aa) (.lt ak (.n 1099511627776))))):=aJ _
theorem TU:f1 (.im (.no (.eq aa (.n 7))) (.no (.gh cp (.n 7)))):=bc _
theorem TS:f3 (.im (.eq aa (aE ag)) (.im (.le ag (.n 900)) (.im (.lt ak aa) (.iC g7 (.pw 2 63))))):=aJ _
theorem TR:f2 (.im (.le aa (.n 1000)) (.im (.le ag aa) (.le ag (.n 100000)))):=az _
theorem TQ:f2 (.im (.lt aa ag) (.lt aa (.toN (.sub dQ (.n 0))))):=az _
theorem TP:f2 (.im (.no (.eq aa ag)) (.no (.gh cp dQ))):=az _
theorem TO:f2 (.im (.lt aa ag) (.gh (.sub dQ (.n 1)) (.of (.sub ag (.n 1))))):=az _
theorem TN:f2 (.im (.lt aa ag) (.im (.eq aa (.sub ag (.n 1))) (.eq (aE aa) ag))):=az _
theorem TM:f2 (.im (.no (.eq aa (.sub ag (.n 1)))) (.no (.eq (aE aa) ag))):=az _
theorem TJ:f3 (.im (.le aa (.n 1000)) (.le (.sub (.min ag aa) (aE ak)) (.n 1000))):=aJ _
theorem TH:f2 (.im (.eq aa (.n 16777216)) (.im (.le ag (.n 1000)) (.le (.add (.n 1) ag) aa))):=az _
theorem TG:f2 (.im (.eq aa (.n 16777216)) (.im (.le ag (.n 1000)) (.le (.add (.add (.n 1) ag) (.n 1)) aa))):=az _
theorem TF:f2 (.im (.iC cp dQ) (.lt aa ag)):=az _
theorem TC:f2 (.im (.no (.iC cp (.sub dQ (.n 1)))) (.no (.lt (aE aa) ag))):=az _
theorem TB:f2 (.im (.lt aa ag) (.lt (.sub ag (aE aa)) (.sub ag aa))):=az _
theorem Tz:f2 (.im (.lt aa ag) (.im (.no (.eq (aE aa) ag)) (.eq (.sub ag (aE aa)) (.add (.sub ag (.add (aE aa) (.n 1))) (.n 1))))):=az _
theorem Tx:f1 (.im (.le aa (.n 1000)) (.le (aE aa) (.n 100000))):=bc _
theorem Tw:f3 (.im (.le aa (.n 1000)) (.im (.eq ag (.n 16777216)) (.im (.gh g7 (.of (aE aa))) (.le ak ag)))):=aJ _
theorem Tv:f3 (.im (.iC cp (.add dQ g7)) (.lt aa (.add ag ak))):=aJ _
theorem Tu:f3 (.im (.no (.iC cp (.add dQ g7))) (.no (.lt aa (.add ag ak)))):=aJ _
theorem Tt:f1 (.im (.le (aE aa) (.n 1000)) (.le aa (.n 1000))):=bc _
theorem Ts:f2 (.im (.le aa (.n 1000)) (.le (.min ag aa) (.n 1000))):=az _
theorem Tr:f3 (.im (.eq aa (.n 16777216)) (.im (.le ag ak) (.im (.le ak (.n 1000)) (.le ag aa)))):=aJ _
theorem Tq:f3 (.im (.eq aa (.n 16777216)) (.im (.le ag (aE ak)) (.im (.le ak (.n 1000)) (.le ag aa)))):=aJ _
theorem Tp:f2 (.im (.le aa (.n 1000)) (.im (.le (aE ag) (aE aa)) (.le (aE ag) (.n 1001)))):=az _
theorem To:f2 (.im (.eq aa (.n 16777216)) (.im (.le (aE ag) (.n 1001)) (.le (aE ag) aa))):=az _
theorem Tn:f2 (.im (.eq aa (.n 16777216)) (.im (.le ag (.n 1000)) (.le (aE ag) aa))):=az _
theorem Tj:f3 (.im (.le aa (.n 1000)) (.im (.eq ag (.n 16777216)) (.im (.le ak (aE aa)) (.le ak ag)))):=aJ _
theorem Ti:f3 (.im (.le aa (.n 1000)) (.im (.eq ag (.n 16777216)) (.im (.le ak aa) (.le ak ag)))):=aJ _
theorem Th:f2 (.im (.lt aa ag) (.le aa ag)):=az _
theorem Tg:f3 (.im (.eq aa ag) (.im (.no (.lt ak aa)) (.le ag ak))):=aJ _
theorem Tf:f3 (.im (.lt aa (aE ag)) (.im (.eq ak (aE ag)) (.lt aa ak))):=aJ _
theorem Te:f3 (.im (.eq aa (aE ag)) (.im (.lt ak aa) (.lt ak (aE ag)))):=aJ _
theorem Td:f2 (.im (.lt aa (.n 500000)) (.im (.le ag (.add aa (.n 27))) (.lt ag (.n 1000000)))):=az _
theorem Tc:f3 (.im (.lt aa (.n 500000)) (.im (.le ag (.add aa (.n 27))) (.im (.le ak (aE ag)) (.lt ak (.n 1000000))))):=aJ _
theorem Ta:f2 (.im (.le aa (.n 2)) (.im (.eq ag (aE aa)) (.le ag (.n 3)))):=az _
theorem S9:f4 (.im (.lt aa (.n 500000)) (.im (.le ag (.add aa (.n 27))) (.im (.le ak (aE ag)) (.im (.le aY (aE ak)) (.lt aY (.n 800000)))))):=bX _
theorem S8:f2 (.im (.eq aa (.n 16777216)) (.im (.le ag (.n 2)) (.le (.toN (.sub (.of (aE ag)) (.n 0))) aa))):=az _
theorem S6:f3 (.im (.eq aa (.n 16777216)) (.im (.le ag (.n 16)) (.im (.le ak ag) (.le (.add (.n 1) ak) aa)))):=aJ _
theorem S5:f1 (.eq (.toN (.sub (.of (aE aa)) (.n 0))) (aE aa)):=bc _
theorem S4:f4 (.im (.le aa (.add ag (.n 27))) (.im (.le ak (aE aa)) (.im (.le aY (aE ak)) (.le aY (.add ag (.n 30)))))):=bX _
theorem S0:f4 (.im (.lt aa (.n 500000)) (.im (.le ag (.add aa (.n 27))) (.im (.le ak (aE ag)) (.im (.le aY (aE ak)) (.lt aY (.n 600000)))))):=bX _
theorem SY:f1 (.im (.le aa (.n 2)) (.lt (aE aa) (.n 28))):=bc _
theorem SX:f7 (.im (.lt aa (.n 500000)) (.im (.le ag (.n 2)) (.im (.eq ak (aE ag)) (.im (.le aY (.add aa (.n 27))) (.im (.le eH (aE aY)) (.im (.le oQ (aE eH)) (.im (.le uC (.add oQ (.ml 2 ak))) (.lt uC (.n 1000000))))))))):=vM _
theorem SW:f3 (.im (.le aa (.n 2)) (.im (.eq ag (aE aa)) (.im (.eq ak ag) (.le ak (.n 1000))))):=aJ _
theorem SV:f4 (.im (.eq aa (aE ag)) (.im (.eq ak aa) (.im (.eq aY ak) (.eq aY (aE ag))))):=bX _
theorem SU:f7 (.im (.le aa (.n 2)) (.im (.eq ag (aE aa)) (.im (.le ak (.add aY (.n 27))) (.im (.le eH (aE ak)) (.im (.le oQ (aE eH)) (.im (.le uC (.add oQ (.ml 2 ag))) (.le uC (.add aY (.n 100))))))))):=vM _
theorem SS:f5 (.im (.eq aa (aE ag)) (.im (.eq ak (aE ag)) (.im (.eq aY ak) (.im (.lt eH aY) (.lt eH aa))))):=gN _
theorem SR:f5 (.im (.eq aa (aE ag)) (.im (.eq ak aa) (.im (.eq aY (aE ag)) (.im (.lt eH ak) (.lt eH aY))))):=gN _
theorem SQ:f2 (.im (.le aa (.add ag (.n 30))) (.le aa (.add ag (.n 100)))):=az _
theorem SP:f2 (.im (.eq aa (.n 16777216)) (.im (.le ag (.n 2)) (.le (.add (aE ag) (.n 1)) aa))):=az _
theorem SO:f4 (.im (.lt aa (.n 500000)) (.im (.le ag (aE aa)) (.im (.le ak (.add ag (.ml 2 aY))) (.im (.lt aY (.n 2)) (.lt ak (.n 1000000)))))):=bX _
theorem SN:f5 (.im (.lt aa (.n 500000)) (.im (.le ag (aE aa)) (.im (.le ak (.add ag (.ml 2 aY))) (.im (.lt aY (.n 2)) (.im (.le eH (aE ak)) (.lt eH (.n 1000000))))))):=gN _
theorem SM:f6 (.im (.lt aa (.n 500000)) (.im (.le ag (aE aa)) (.im (.le ak (.add ag (.ml 2 aY))) (.im (.lt aY (.n 2)) (.im (.le eH (aE ak)) (.im (.le oQ (aE eH)) (.lt oQ (.n 800000)))))))):=Aj _
theorem SK:f5 (.im (.le aa (.add ag (.ml 2 ak))) (.im (.le aY (aE aa)) (.im (.le eH (aE aY)) (.le eH (.add ag (.ml 2 (aE ak))))))):=gN _
theorem SJ:f3 (.im (.lt aa (.n 500000)) (.im (.le ag (aE aa)) (.im (.le ak (.add ag (.n 4))) (.lt ak (.n 1000000))))):=aJ _
theorem SH:f4 (.im (.le aa (aE ag)) (.im (.le ak (.add aa (.n 4))) (.im (.le aY (aE ak)) (.le aY (.add ag (.n 100)))))):=bX _
theorem SG:f4 (.im (.lt aa (.n 500000)) (.im (.le ag (aE aa)) (.im (.le ak (.add ag (.n 4))) (.im (.le aY (aE ak)) (.lt aY (.n 800000)))))):=bX _
theorem SF:f4 (.im (.lt aa (.n 500000)) (.im (.le ag (aE aa)) (.im (.le ak (.add ag (.n 4))) (.im (.le aY (aE ak)) (.lt aY (.n 600000)))))):=bX _
theorem SE:f4 (.im (.le aa (.n 16)) (.im (.le ag ak) (.im (.eq aY (.add aa ag)) (.im (.eq ak (.n 3)) (.le aY (.n 19)))))):=bX _
theorem SD:f2 (.im (.le aa (.n 19)) (.im (.le ag aa) (.le ag (.n 100)))):=az _
theorem SA:f2 (.im (.le aa (.n 3)) (.im (.le ag aa) (.le ag (.n 3)))):=az _
theorem Sy:f3 (.im (.le aa (.n 19)) (.im (.le ag aa) (.im (.le ak (.ml 2 ag)) (.le ak (.n 1000))))):=aJ _
theorem Sx:f1 (.im (.le aa (.n 2)) (.eq (.min (aE aa) (.n 3)) (aE aa))):=bc _
theorem Sw:f3 (.im (.le aa (.n 1)) (.im (.eq aa (.add ag ak)) (.le ak (.n 3)))):=aJ _
theorem Sv:f2 (.im (.le aa (.n 1)) (.im (.le ag (.ml 2 aa)) (.le ag (.n 1000)))):=az _
theorem Su:f2 (.im (.eq (.n 1) (.add aa ag)) (.le ag (.n 3))):=az _
theorem Ss:f3 (.im (.eq aa (aE ag)) (.im (.eq ak (aE ag)) (.eq ak aa))):=aJ _
theorem Sr:f2 (.im (.lt aa (.n 500000)) (.im (.le ag (.add aa (.n 27))) (.lt ag (.n 700000)))):=az _
theorem Sq:f5 (.im (.lt aa (.n 500000)) (.im (.le ag (.n 2)) (.im (.le ak (.add aa (.n 27))) (.im (.eq aY (aE ag)) (.im (.le eH (.add ak (.ml 9 aY))) (.lt eH (.n 900000))))))):=gN _
theorem Sp:f4 (.im (.le aa (.n 2)) (.im (.eq ag (aE aa)) (.im (.le ak (.add aY (.ml 9 ag))) (.le ak (.add aY (.n 27)))))):=bX _
theorem So:f3 (.im (.lt aa (.n 500000)) (.im (.le ag (.add aa (.n 27))) (.im (.le ak (.add ag (.n 27))) (.lt ak (.n 1000000))))):=aJ _
theorem Sn:f4 (.im (.lt aa (.n 500000)) (.im (.le ag (.add aa (.n 27))) (.im (.le ak (.add ag (.n 27))) (.im (.le aY (aE ak)) (.lt aY (.n 600000)))))):=bX _
theorem Sm:f7 (.im (.lt aa (.n 500000)) (.im (.le ag (.n 2)) (.im (.le ak (.add aa (.n 27))) (.im (.eq aY (aE ag)) (.im (.le eH (.add ak (.n 27))) (.im (.le oQ (aE eH)) (.im (.le uC (.add oQ (.ml 9 aY))) (.lt uC (.n 900000))))))))):=vM _
theorem Sl:f7 (.im (.le aa (.n 2)) (.im (.le ag (.add ak (.n 27))) (.im (.eq aY (aE aa)) (.im (.le eH (.add ag (.n 27))) (.im (.le oQ (aE eH)) (.im (.le uC (.add oQ (.ml 9 aY))) (.le uC (.add ak (.n 100))))))))):=vM _
theorem Sk:f2 (.im (.le aa ag) (.im (.eq aa (.n 28)) (.no (.eq ag (.n 1))))):=az _
theorem Sj:f1 (.im (.eq aa (.n 8)) (.no (.eq aa (.n 1)))):=bc _
theorem Si:f1 (.le (.min (.n 40) aa) (.n 40)):=bc _
theorem Sh{a:Nat}:1+min (↑(a/12):Int) 2=(↑(1+min (a/12) 2):Int):=nf [a/12] (.gh (.add (.n 1) (.min cp (.n 2))) (.of (.add (.n 1) (.min aa (.n 2)))))
theorem Sg{a:Nat}:1+min (a/12) 2<=3:=nf [a/12] (.le (.add (.n 1) (.min aa (.n 2))) (.n 3))
theorem Sf:f1 (.gh (.of (.add (.n 1) aa)) (.add (.n 1) cp)):=bc _
theorem Se:f1 (.gh (.add (.of (.add (.n 1) aa)) (.n 1)) (.of (.add aa (.n 2)))):=bc _
theorem Sd:f1 (.im (.lt aa (.n 3)) (.jk (.of (.add aa (.n 2))) (.pw 2 40))):=bc _
theorem Sb:f1 (.jk (.neg (.pw 2 40)) (.of (.add aa (.n 2)))):=bc _
theorem Sa:f2 (.im (.eq aa (.n 16777216)) (.im (.lt ag (.n 3)) (.le (.toN (.sub (.of (.add ag (.n 2))) (.n 0))) aa))):=az _
theorem RZ:f3 (.im (.eq aa (.n 16777216)) (.im (.lt ag (.n 3)) (.im (.eq ak (.toN (.sub (.of (.add ag (.n 2))) (.n 0)))) (.le ak aa)))):=aJ _
theorem RY:f2 (.im (.eq aa (.toN (.sub (.of (.add ag (.n 2))) (.n 0)))) (.eq aa (.add ag (.n 2)))):=az _
theorem RX:f1 (.im (.lt aa (.n 3)) (.jk (.of (.add (.n 1) aa)) (.pw 2 40))):=bc _
theorem RW:f1 (.jk (.neg (.pw 2 40)) (.of (.add (.n 1) aa))):=bc _
theorem RV:f2 (.im (.eq aa (.n 16777216)) (.im (.lt ag (.n 3)) (.le (.toN (.sub (.of (.add (.n 1) ag)) (.n 0))) aa))):=az _
theorem RT:f2 (.im (.eq aa (.toN (.sub (.of (.add (.n 1) ag)) (.n 0)))) (.eq aa (aE ag))):=az _
theorem RS:f2 (.im (.eq aa ag) (.eq aa ag)):=az _
theorem RR:f3 (.im (.eq aa (.add ag ak)) (.im (.le ag (.n 16)) (.im (.eq ak (.n 0)) (.le aa (.n 16))))):=aJ _
theorem RQ:f3 (.im (.le aa (.n 3)) (.im (.le ag (.add (.n 28) (.ml 400 ak))) (.im (.lt ak aa) (.lt ag (.n 500000))))):=aJ _
theorem RP:f1 (.im (.lt aa (.n 2)) (.le aa (.n 1))):=bc _
theorem RO:f4 (.im (.le aa (.n 3)) (.im (.le ag (.add (.n 28) (.ml 400 ak))) (.im (.lt ak aa) (.im (.le aY (.add ag (.n 100))) (.lt aY (.n 500000)))))):=bX _
theorem RN:f5 (.im (.le aa (.n 3)) (.im (.le ag (.add (.n 28) (.ml 400 ak))) (.im (.lt ak aa) (.im (.le aY (.add ag (.n 100))) (.im (.le eH (.add aY (.n 100))) (.lt eH (.n 500000))))))):=gN _
theorem RM:f5 (.im (.le aa (.add (.n 28) (.ml 400 ag))) (.im (.le ak (.add aa (.n 100))) (.im (.le aY (.add ak (.n 100))) (.im (.le eH (.add aY (.n 100))) (.le eH (.add (.n 28) (.ml 400 (aE ag)))))))):=gN _
theorem RL:f7 (.im (.eq aa (.n 16777216)) (.im (.lt ag (.n 64)) (.im (.eq ak (.add aY eH)) (.im (.eq ag (.add ak oQ)) (.le (.add aY (.min uC eH)) aa))))):=vM _
theorem RJ:f2 (.im (.le (.add aa ag) (.n 1000)) (.le ag (.n 1000))):=az _
theorem RI:f3 (.im (.eq aa (.n 16777216)) (.im (.le ag (.n 1000)) (.im (.le ak (.n 1000)) (.le (.add ag ak) aa)))):=aJ _
theorem RH:f2 (.le aa (.add (aE aa) ag)):=az _
theorem RG:f5 (.im (.le aa (.add ag ak)) (.im (.eq aY (.n 1)) (.le (.add eH (.add aY aa)) (.add (.add (aE eH) ag) (aE ak))))):=gN _
theorem RE:f1 (.im (.le aa (.n 600)) (.le (aE aa) (.n 700))):=bc _
theorem RD:f3 (.im (.lt aa (.n 64)) (.im (.eq ag (.n 16777216)) (.le (.min ak aa) ag))):=aJ _
theorem RC:f3 (.im (.eq aa (.n 16777216)) (.im (.eq ag (aE ak)) (.im (.le ak (.n 100)) (.le ag aa)))):=aJ _
theorem RA:f2 (.im (.eq aa (aE ag)) (.gh cp (.add dQ (.n 1)))):=az _
theorem Rz:f1 (.im (.le aa (.n 100)) (.jk cp (.pw 2 40))):=bc _
theorem Ry:f3 (.im (.eq aa ag) (.eq (.add (.min ak aa) (.n 1)) (.add (.min ak ag) (.n 1)))):=aJ _
theorem Rx:f3 (.im (.eq aa (.add ag ak)) (.le ag aa)):=aJ _
theorem Rw:f2 (.im (.le aa (.n 100)) (.le (.min (aE ag) aa) (.n 100))):=az _
theorem Ru:f3 (.im (.le aa (.n 1000)) (.im (.le ag aa) (.im (.le ak (.n 100)) (.le (.add ag ak) (.n 1200))))):=aJ _
theorem Rt:f2 (.im (.le aa (.n 100)) (.im (.lt ag aa) (.lt ag (.n 1099511627776)))):=az _
theorem Rr:f4 (.im (.eq aa (.n 16777216)) (.im (.le (.add ag (.add ak aY)) (.n 1200)) (.le (.add ak aY) aa))):=bX _
theorem Rq:f4 (.im (.eq aa (.n 16777216)) (.im (.le (.add ag (.add ak aY)) (.n 1200)) (.le (.add ag (.add ak aY)) aa))):=bX _
theorem Ro:f2 (.im (.le aa (.n 100)) (.im (.lt ag aa) (.lt (aE ag) (.n 1099511627776)))):=az _
theorem Rn:f2 (.im (.eq aa (.n 16777216)) (.im (.le ag (.n 700)) (.le (.add (.n 1) ag) aa))):=az _
theorem Rl:f1 (.im (.le aa (.n 0)) (.le (.max (.n 0) aa) (.n 0))):=bc _
theorem Rk:f2 (.im (.le aa (.n 1)) (.im (.le ag (.n 0)) (.le (.max (aE ag) aa) (.n 1)))):=az _
theorem Rj:f1 (.im (.le aa (.n 1)) (.le (aE aa) (.n 64))):=bc _
theorem Ri:f6 (.im (.le aa ag) (.im (.le ak (.sub (.sub (aE aY) eH) oQ)) (.le (.add ak aa) (.add ag (aE aY))))):=Aj _
theorem Rh:f2 (.im (.le aa ag) (.le (aE aa) (aE ag))):=az _
theorem Rg:f2 (.gh (.add cp dQ) (.of (.add aa ag))):=az _
theorem Rf:f3 (.im (.le aa (.n 60)) (.im (.gh (.sub cp dQ) g7) (.le (aE ak) (.n 61)))):=aJ _
theorem Rc:f4 (.im (.no (.iC (.sub cp dQ) g7)) (.im (.gh (.sub cp dQ) rD) (.le ak aY))):=bX _
theorem Rb:f3 (.eq (.toN (.sub (.add (.sub cp dQ) (.n 1)) g7)) (.sub (.sub (aE aa) ag) ak)):=aJ _
theorem Ra:f5 (.im (.le aa (.n 226981)) (.im (.eq aa (.add ag (.add ak aY))) (.im (.le eH ak) (.le (.add ag eH) (.n 226981))))):=gN _
theorem Q9:f4 (.im (.le aa (.n 60)) (.im (.gh (.sub cp dQ) g7) (.jk (.add (.sub g7 rD) (.n 1)) (.pw 2 40)))):=bX _
theorem Q8:f4 (.im (.le aa (.n 60)) (.im (.gh (.sub cp dQ) g7) (.im (.le aY ak) (.jk rD (.pw 2 40))))):=bX _
theorem Q7:f2 (.im (.le aa (.n 1000)) (.jk (.neg (.pw 2 40)) (.add (.sub dQ cp) (.n 1)))):=az _
theorem Q6:f3 (.gh (.add (.of (.add aa ag)) g7) (.of (.add (.add aa ag) ak))):=aJ _
theorem Q5:f4 (.im (.lt aa (.sub (.sub (aE ag) ak) aY)) (.le aa (.sub (.sub (aE ag) ak) aY))):=bX _
theorem Q4:f3 (.im (.eq aa (.n 16777216)) (.im (.le ag (.n 226981)) (.im (.eq ak ag) (.le ak aa)))):=aJ _
theorem Q3{a:Nat}:a<=1000->¬a/30+1>300:=by lia
theorem Q2:f2 (.im (.le aa (.n 1000)) (.im (.lt ag aa) (.iC dQ (.pw 2 63)))):=az _
theorem Q1:f3 (.im (.eq aa (.n 0)) (.im (.eq ag (.add ak aa)) (.an (.eq ak ag) (.eq aa (.n 0))))):=aJ _
theorem Q0:f2 (.im (.le aa (.n 3)) (.im (.eq ag (.n 16777216)) (.le (aE aa) ag))):=az _
theorem QZ:f1 (.im (.le aa (.n 3)) (.jk (.of (aE aa)) (.pw 2 40))):=bc _
theorem QY:f3 (.im (.le aa (.n 2)) (.im (.an (.eq ag aa) (.eq ak (.n 0))) (.le ag (.add (.n 2) (.ml 4 (.n 0)))))):=aJ _
theorem QX:f3 (.im (.an (.eq aa ag) (.eq ak (.n 0))) (.le ak (.n 0))):=aJ _
theorem QW:f4 (.im (.an (.eq aa ag) (.eq ak (.n 0))) (.le ak aY)):=bX _
theorem QV:f8 (.im (.le aa (.n 3)) (.im (.le ag (.n 3)) (.im (.lt (aE ak) (aE aa)) (.im (.le aY (.n 2)) (.im (.le eH (.add (.add (.n 2) (.ml 4 ak)) oQ)) (.im (.le uC ag) (.im (.eq uv7 (.add eH uC)) (.im (.le oQ aY) (.le uv7 (.n 100)))))))))):=ZH _
theorem QU:f4 (.im (.eq aa (.n 16777216)) (.im (.le ag (.n 100)) (.le (.add ag (.sub (.min (aE ak) aY) ak)) aa))):=bX _
theorem QT:f3 (.im (.le aa (.add ag ak)) (.le (aE aa) (.add ag (aE ak)))):=aJ _
theorem QS:f5 (.im (.le aa (.add (.add (.n 2) (.ml 4 ag)) ak)) (.im (.eq aY (.n 0)) (.im (.le ak eH) (.le (.add aa aY) (.add (.add (.n 2) (.ml 4 ag)) eH))))):=gN _
theorem QR:f2 (.im (.eq aa (.n 16777216)) (.im (.le ag (.n 100)) (.le (aE ag) aa))):=az _
theorem QQ:f4 (.im (.le aa (.add (.add (.n 2) (.ml 4 ag)) ak)) (.le (.add aa aY) (.add (.add (.n 2) (.ml 4 ag)) (.add ak aY)))):=bX _
theorem QO:f3 (.im (.le aa (.add ag ak)) (.le aa (.add ag (aE ak)))):=aJ _
theorem QN:f7 (.im (.le aa (.n 3)) (.im (.le ag (.n 3)) (.im (.lt (aE ak) (aE aa)) (.im (.le aY (.n 2)) (.im (.le eH (.add (.add (.n 2) (.ml 4 ak)) aY)) (.im (.le oQ ag) (.im (.eq uC (.add eH oQ)) (.le uC (.n 100))))))))):=vM _
theorem QM:f3 (.im (.eq aa (.n 16777216)) (.im (.le ag (.n 2)) (.im (.le ak (.n 100)) (.le (.add ak ag) aa)))):=aJ _
theorem QL:f2 (.im (.le aa (.n 3)) (.im (.lt (aE ag) (aE aa)) (.lt (aE ag) (.n 1099511627776)))):=az _
theorem QK:f6 (.im (.le aa (.n 2)) (.im (.le ag (.n 2)) (.im (.le ak (.add (.add (.n 2) (.ml 4 aY)) ag)) (.im (.an (.eq eH aa) (.eq oQ (.n 0))) (.le (.add ak eH) (.add (.n 2) (.ml 4 (aE aY)))))))):=Aj _
theorem QJ:f4 (.im (.le aa (.ml 3 ag)) (.im (.le ak (.n 3)) (.im (.le aY (.add aa ak)) (.le aY (.ml 3 (aE ag)))))):=bX _
theorem QI:f1 (.im (.le aa (.n 3)) (.le (.toN (.sub (.of (aE aa)) (.n 1))) (.n 3))):=bc _
theorem QH:f5 (.im (.le aa (.n 3)) (.im (.le ag aa) (.im (.le ak (.n 3)) (.im (.le aY (.add (.n 2) (.ml 4 ak))) (.im (.eq eH (.add aY ag)) (.le eH (.n 100))))))):=gN _
theorem QG:f3 (.im (.le aa (.n 3)) (.im (.le ag (.add (.n 2) (.ml 4 aa))) (.im (.le ak ag) (.le ak (.n 16))))):=aJ _
theorem QF:f3 (.im (.eq aa (.n 16777216)) (.im (.le ag (.n 100)) (.im (.le ak (.n 2)) (.le (.add ag ak) aa)))):=aJ _
theorem QE:f5 (.im (.le aa (.n 3)) (.im (.le ag (.add (.n 2) (.ml 4 aa))) (.im (.le ak (.n 2)) (.im (.an (.eq aY ak) (.eq eH (.n 0))) (.le (.add ag aY) (.n 16)))))):=gN _
theorem QD:f3 (.im (.eq aa (.n 16777216)) (.im (.le ag (.n 100)) (.im (.le ak (.n 2)) (.le (.add ak ag) aa)))):=aJ _
theorem QC:f5 (.im (.le aa (.n 3)) (.im (.le ag (.add (.n 2) (.ml 4 aa))) (.im (.le ak (.n 2)) (.im (.an (.eq aY ak) (.eq eH (.n 0))) (.le (.add aY ag) (.n 16)))))):=gN _
theorem QB:f5 (.im (.le aa ag) (.im (.an (.eq ak aY) (.eq eH (.n 0))) (.le (.add eH aa) ag))):=gN _
theorem QA:f2 (.im (.lt aa (.n 16)) (.lt (.min aa ag) (.n 1000000))):=az _
theorem Qz:f2 (.im (.eq aa (aE ag)) (.le ag aa)):=az _
theorem Qy:f2 (.im (.lt aa (.n 1000000)) (.im (.lt ag aa) (.iC dQ (.pw 2 63)))):=az _
theorem Qx:f1 (.im (.gh cp (.n 2)) (.eq aa (.n 2))):=bc _
theorem Qw:f1 (.im (.no (.eq aa (.n 1))) (.no (.gh cp (.n 1)))):=bc _
theorem Qv:f4 (.im (.le aa (.add ag ak)) (.im (.le ag (aE aY)) (.le aa (.add aY (aE ak))))):=bX _
theorem Qu:f2 (.im (.lt aa (.n 64)) (.im (.le ag aa) (.le ag (.n 16777216)))):=az _
theorem Qt:f2 (.im (.lt aa (.n 64)) (.im (.eq ag aa) (.le ag (.n 16777216)))):=az _
theorem Qs:f3 (.im (.lt aa (.n 64)) (.im (.eq ag aa) (.im (.le ak ag) (.lt ak (.n 64))))):=aJ _
theorem Qr{a:Int}:¬0<=a->a<0:=iV a λap aq=>nf [ap,aq] (.im (.no (.jk (.n 0) (.sub cp dQ))) (.iC (.sub cp dQ) (.n 0)))
theorem Qq:f1 (.im (.lt (.add (aE aa) (.n 1)) (.n 64)) (.jk (.add (.add cp (.n 1)) (.n 1)) (.n 400))):=bc _
theorem Qp:f1 (.im (.no (.eq aa (.n 5))) (.no (.gh cp (.n 5)))):=bc _
theorem Qo:f1 (.im (.no (.eq aa (.n 4))) (.no (.gh cp (.n 4)))):=bc _
theorem Qn:f1 (.im (.gh cp (.n 1)) (.eq aa (.n 1))):=bc _
theorem Qm:f2 (.im (.le (.add aa ag) (.n 100000)) (.le (.add aa ag) (.n 16777216))):=az _
theorem Ql:f2 (.im (.le (.add aa ag) (.n 100000)) (.le ag (.n 16777215))):=az _
theorem Qk:f2 (.im (.le (.add aa ag) (.n 100000)) (.le (.add (aE aa) ag) (.n 16777216))):=az _
theorem Qj{a:Int}{b:Nat}:a<0->max (a+(↑b:Int)) 0=max 0 (min (a+(↑b:Int)) (↑b:Int)):=iV a λap aq=>nf [ap,aq,b] (.im (.iC (.sub cp dQ) (.n 0)) (.gh (.max (.add (.sub cp dQ) g7) (.n 0)) (.max (.n 0) (.min (.add (.sub cp dQ) g7) g7))))
theorem Qi{a:Int}{b:Nat}:¬a<0->min a (↑b:Int)=max 0 (min a (↑b:Int)):=iV a λap aq=>nf [ap,aq,b] (.im (.no (.iC (.sub cp dQ) (.n 0))) (.gh (.min (.sub cp dQ) g7) (.max (.n 0) (.min (.sub cp dQ) g7))))
theorem Qh:f2 (.im (.lt aa ag) (.eq (.sub (.min (aE aa) ag) aa) (.n 1))):=az _
theorem Qg:f2 (.im (.no (.lt aa ag)) (.eq (.sub (.min (aE aa) ag) aa) (.n 0))):=az _
theorem Qf:f4 (.im (.le aa ag) (.im (.le ak aY) (.im (.eq aY (.n 1)) (.le (.add aa ak) (aE ag))))):=bX _
theorem Qe:f4 (.im (.le aa ag) (.im (.le ak aY) (.im (.eq aY (.n 0)) (.le (.add aa ak) (aE ag))))):=bX _
theorem Qd:f5 (.im (.le aa ag) (.im (.le ak aY) (.im (.lt ag eH) (.im (.eq aY (.n 1)) (.le (.add aa ak) eH))))):=gN _
theorem Qc:f4 (.im (.le aa ag) (.im (.le ak aY) (.im (.eq aY (.n 0)) (.le (.add aa ak) ag)))):=bX _
theorem Qb:f2 (.eq (.toN (.add (.sub (.sub cp dQ) (.n 1)) (.n 1))) (.sub aa ag)):=az _
theorem Qa:f2 (.im (.no (.iC cp dQ)) (.eq (.toN (.n 0)) (.sub ag aa))):=az _
theorem PZ{a b:Int}:a<b->b-a=max (b-a) 0:=iV a λap aq=>iV b λbp bq=>nf [ap,aq,bp,bq] (.im (.iC (.sub cp dQ) (.sub g7 rD)) (.gh (.sub (.sub g7 rD) (.sub cp dQ)) (.max (.sub (.sub g7 rD) (.sub cp dQ)) (.n 0))))
theorem PY{a b:Int}:¬a<b->0=max (b-a) 0:=iV a λap aq=>iV b λbp bq=>nf [ap,aq,bp,bq] (.im (.no (.iC (.sub cp dQ) (.sub g7 rD))) (.gh (.n 0) (.max (.sub (.sub g7 rD) (.sub cp dQ)) (.n 0))))
theorem KY:f3 (.im (.lt (.add aa (.n 8)) ag) (.im (.le ak (.n 6)) (.lt (.add aa (aE ak)) ag))):=aJ _
theorem PX:f7 (.im (.le aa (.n 100)) (.im (.le ag ak) (.im (.le aY (.n 10)) (.im (.eq eH (aE aa)) (.im (.le oQ (.add ag aY)) (.im (.le uC (.add oQ eH)) (.le uC (.add ak (.n 111))))))))):=vM _
theorem PW:f5 (.im (.le aa (.n 100)) (.im (.le ag (.n 500)) (.im (.le ak (.n 10)) (.im (.eq aY (aE aa)) (.im (.le eH (.add ag ak)) (.le (.add eH aY) (.n 50000))))))):=gN _
theorem PU:f4 (.im (.eq aa ag) (.im (.le ak (.n 16)) (.im (.le ag (.n 2)) (.le (.add ak (.min aY aa)) (.n 20))))):=bX _
theorem PT:f4 (.im (.le aa (.add ag ak)) (.im (.le aY (aE aa)) (.le aY (.add ag (aE ak))))):=bX _
theorem PS:f3 (.im (.lt aa (.n 900000)) (.im (.le ag (.n 8)) (.im (.le ak (.add aa ag)) (.lt ak (.n 1000000))))):=aJ _
theorem PQ:f2 (.im (.le aa ag) (.jk (.n 0) (.add (.neg cp) dQ))):=az _
theorem PO:f2 (.im (.lt (.n 0) aa) (.iC (.add (.neg cp) dQ) dQ)):=az _
theorem PN:f2 (.eq (.toN (.add (.neg cp) dQ)) (.sub ag aa)):=az _
end
set_option tactic.hygienic false
open PySem PySem.W PyProof.Rows PySem.Calls
abbrev LN:=List Nat
inductive PV where
 |none
 |bool (b:Bool)
 |int (i:Int)
 |str (s:Str)
 |tup (l:List PV)
 |ref (a:Addr)
theorem Gj{a b:PV}{G:Prop}(h:a=b)(e:Nat.beq a.ctorIdx b.ctorIdx=false:=by rfl):G:=MK PV.ctorIdx h e
theorem sL{a b:Data}{G:Prop}(h:a=b)(e:Nat.beq a.ctorIdx b.ctorIdx=false:=by rfl):G:=MK Data.ctorIdx h e
noncomputable def isI(a:Int)(q:PV):Bool:=match q with
 |.int b=>a==b
 |_=>false
noncomputable def isB(a:Bool)(q:PV):Bool:=match q with
 |.bool b=>a==b
 |_=>false
noncomputable def isS(a:Str)(q:PV):Bool:=match q with
 |.str b=>a==b
 |_=>false
noncomputable def isA(a:Addr)(q:PV):Bool:=match q with
 |.ref b=>a==b
 |_=>false
noncomputable def isO(q:PV):Bool:=match q with
 |.none=>true
 |_=>false
noncomputable def isT(f:List PV->Bool)(q:PV):Bool:=match q with
 |.tup r=>f r
 |_=>false
noncomputable def isC(f:PV->Bool)(g:List PV->Bool)(l:List PV):Bool:=match l with
 |[]=>false
 |a::r=>f a&&g r
mutual
noncomputable def PV.qP:PV->PV->Bool
 |.none=>isO
 |.bool a=>isB a
 |.int a=>isI a
 |.str a=>isS a
 |.tup l=>isT (PV.nE l)
 |.ref a=>isA a
noncomputable def PV.nE:List PV->List PV->Bool
 |[]=>isEmpty
 |a::x=>isC (PV.qP a) (PV.nE x)
end
theorem PV.both{M:PV->Prop}{N:List PV->Prop}(h0:M .none)(h1:∀b,M (.bool b))(h2:∀i,M (.int i))(h3:∀x,M (.str x))(h4:∀l,N l->M (.tup l))(h5:∀a,M (.ref a))(h6:N [])(h7:∀a r,M a->N r->N (a::r)):(∀p,M p)/\∀l,N l:=
 ⟨PV.rec (motive_1:=M) (motive_2:=N) h0 h1 h2 h3 h4 h5 h6 h7,PV.rec_1 (motive_1:=M) (motive_2:=N) h0 h1 h2 h3 h4 h5 h6 h7⟩
theorem PV.yT:(∀a b:PV,PV.qP a b=true->a=b)/\∀a b:List PV,PV.nE a b=true->a=b:=by
 refine PV.both (M:=λa=>∀b:PV,PV.qP a b=true->a=b) (N:=λa=>∀b:List PV,PV.nE a b=true->a=b) (λb=>?_) (λa b=>?_) (λa b=>?_) (λa b=>?_) (λa ih b=>?_) (λa b=>?_) (λb=>?_) λa r i j b=>?_
 ·induction b using PV.casesOn<;>first|exact iD|exact λ_=>rfl
 ·induction b using PV.casesOn<;>first|exact iD|exact λh=>congrArg _ (eq_of_beq h)
 ·induction b using PV.casesOn<;>first|exact iD|exact λh=>congrArg _ (eq_of_beq h)
 ·induction b using PV.casesOn<;>first|exact iD|exact λh=>congrArg _ (eq_of_beq h)
 ·induction b using PV.casesOn<;>first|exact iD|exact λh=>congrArg _ (ih _ h)
 ·induction b using PV.casesOn<;>first|exact iD|exact λh=>congrArg _ (eq_of_beq h)
 ·induction b using LC<;>first|exact iD|exact λ_=>rfl
 ·induction b using LC with
  |nil=>exact iD
  |cons x y=>exact λh=>(i x (Bool.and_eq_true_iff.mp h).1)▸(j y (Bool.and_eq_true_iff.mp h).2)▸rfl
theorem PV.uY:(∀a:PV,PV.qP a a=true)/\∀a:List PV,PV.nE a a=true:=
 PV.both (M:=λa=>PV.qP a a=true) (N:=λa=>PV.nE a a=true) rfl (λa=>beq_self_eq_true a) (λa=>beq_self_eq_true a) (λa=>beq_self_eq_true a) (λ_ h=>h) (λa=>beq_self_eq_true a) rfl λ_ _ i j=>Bool.and_eq_true_iff.mpr ⟨i,j⟩
theorem PV.ud{a b:PV}(h:PV.qP a b=true):a=b:=PV.yT.1 a b h
theorem PV.ik(a:PV):PV.qP a a=true:=PV.uY.1 a
theorem PV.Fi{a b:PV}:PV.qP a b=true↔a=b:=⟨PV.ud,λh=>h▸PV.ik a⟩
theorem PV.fJ{a b:List PV}:PV.nE a b=true↔a=b:=⟨PV.yT.2 a b,λh=>h▸PV.uY.2 a⟩
theorem bx{p q:Bool}(h:p=true↔q=true):p=q:=Bool.eq_iff_iff.mpr h
noncomputable abbrev Map:=List (Str×PV)
noncomputable def dB:Map->Str->Option PV
 |[],_=>.none
 |(y,v)::r,x=>if x=y then some v else dB r x
noncomputable def bh:Map->Str->PV->Map
 |[],x,v=>[(x,v)]
 |(y,u)::r,x,v=>if x=y then (y,v)::r else (y,u)::bh r x v
theorem d9(m:Map)(x:Str)(v:PV)(y:Str):dB (bh m x v) y=if y=x then some v else dB m y:=by
 induction m with
 |nil=>rfl
 |cons p r ih=>
  obtain ⟨z,u⟩:=p;unfold bh
  by_cases h:x=z
  ·subst h
   refine J (if_pos rfl) ?_;simp only[dB]
   by_cases q:y=x<;>simp[q]
  ·refine J (if_neg h) ?_
   simp only[dB,ih]
   by_cases q:y=z
   ·subst q;simp[Ne.symm h]
   ·simp[q]
mutual
inductive Vr (h:Heap):PV->Value->Prop
 |none:Vr h .none .none
 |bool (b:Bool):Vr h (.bool b) (.bool b)
 |int (i:Int) (t:Tok):Vr h (.int i) (.int i t)
 |str (x:Str) (t:Tok):Vr h (.str x) (.str x t)
 |ref (a:Addr):Vr h (.ref a) (.ref a)
 |tup {l:List PV} {a:Addr} {items:Array Value} (hi:IsTup h a items) (hr:dD h l items.toList):Vr h (.tup l) (.ref a)
inductive dD (h:Heap):List PV->List Value->Prop
 |nil:dD h [] []
 |cons {p:PV} {v:Value} {ps:List PV} {vs:List Value} (h1:Vr h p v) (h2:dD h ps vs):dD h (p::ps) (v::vs)
end
theorem bj{h:Heap}{a:Addr}{v:Value}(x:Vr h (.ref a) v):v=.ref a:=by cases x;rfl
theorem aX{h:Heap}{i:Int}{v:Value}(x:Vr h (.int i) v):∃t,v=.int i t:=by cases x;exact⟨_,rfl⟩
theorem bA{h:Heap}{i:Str}{v:Value}(x:Vr h (.str i) v):∃t,v=.str i t:=by cases x;exact⟨_,rfl⟩
theorem ng{h:Heap}{b:Bool}{v:Value}(x:Vr h (.bool b) v):v=.bool b:=by cases x;rfl
theorem iG{h:Heap}{v:Value}(x:Vr h .none v):v=.none:=by cases x;rfl
def TL(h h':Heap):Prop:=∀a items,IsTup h a items->IsTup h' a items
theorem TL.refl(h:Heap):TL h h:=λ_ _ x=>x
theorem TL.trans{h h' JV:Heap}(x:TL h h')(y:TL h' JV):TL h JV:=λa i z=>y a i (x a i z)
theorem TL.push(h:Heap)(o:Obj):TL h (h.push o):=λ_ _ zf=>ah zf λo' h1 r=>(aj o' (Heap.get?_push_of_some o h1) r)
theorem TL.sameBut{h h':Heap}{a:Addr}(hs:Heap.SameBut a h h')(hn:∀items,¬IsTup h a items):TL h h':=λb items x=>by
 have hb:b≠a:=by rintro rfl;exact hn _ x
 refine ah x λo h1 r=>?_;clear x;exact aj o ((hs.2 b hb).trans h1) r
theorem TL.keep{h h':Heap}(k:∀b o,h.get? b=some o->h'.get? b=some o):TL h h':=λ_ _ zf=>ah zf λo h1 r=>(aj o (k _ _ h1) r)
theorem Vr.mono{h h':Heap}(k:TL h h'){p:PV}{v:Value}(x:Vr h p v):Vr h' p v:=
 x.rec (motive_1:=λp v _=>Vr h' p v) (motive_2:=λp v _=>dD h' p v) .none .bool .int .str .ref (λa _ b=>.tup (k _ _ a) b) .nil λ_ _ a b=>.cons a b
theorem dD.mono{h h':Heap}(k:TL h h'){p:List PV}{v:List Value}(x:dD h p v):dD h' p v:=
 x.rec (motive_1:=λ_ _ _=>True) (motive_2:=λp v _=>dD h' p v) trivial (λ_=>trivial) (λ_ _=>trivial) (λ_ _=>trivial) (λ_=>trivial) (λ_ _ _=>trivial) .nil λa _ _ b=>.cons (a.mono k) b
theorem dD.ind{h:Heap}{M:List PV->List Value->Prop}(h0:M [] [])(h1:∀{p v ps vs},Vr h p v->dD h ps vs->M ps vs->M (p::ps) (v::vs)){p:List PV}{v:List Value}(x:dD h p v):M p v:=
 x.rec (motive_1:=λ_ _ _=>True) (motive_2:=λp v _=>M p v) trivial (λ_=>trivial) (λ_ _=>trivial) (λ_ _=>trivial) (λ_=>trivial) (λ_ _ _=>trivial) h0 λa b _ c=>h1 a b c
theorem dD.length{h:Heap}{p:List PV}{v:List Value}(x:dD h p v):p.length=v.length:=x.ind (M:=λp v=>p.length=v.length) rfl λ_ _ e=>congrArg (·+1) e
theorem dD.get{h:Heap}{p:List PV}{v:List Value}(r:dD h p v):∀{i:Nat} {x:PV},p[i]? =some x->∃y,v[i]? =some y/\Vr h x y:=
 r.ind (M:=λp v=>∀{i:Nat} {x:PV},p[i]? =some x->∃y,v[i]? =some y/\Vr h x y) (λe=>bL e) λa _ ih i _ e=>match i with
  |0=>(aj _ rfl (sI e▸a))
  |_+1=>ih e
theorem dD.append{h:Heap}{p p':List PV}{v v':List Value}(x:dD h p v)(y:dD h p' v'):dD h (p++p') (v++v'):=x.ind (M:=λp v=>dD h (p++p') (v++v')) y λa _ ih=>.cons a ih
theorem dD.drop{h:Heap}(n:Nat){p:List PV}{v:List Value}(x:dD h p v):dD h (p.drop n) (v.drop n):=
 x.ind (M:=λp v=>∀n,dD h (p.drop n) (v.drop n)) (λn=>by induction n using NC<;>exact .nil) (λa b ih n=>by
  induction n using NC with
  |zero=>exact .cons a b
  |succ n=>exact ih n) n
theorem dD.take{h:Heap}(n:Nat){p:List PV}{v:List Value}(x:dD h p v):dD h (p.take n) (v.take n):=
 x.ind (M:=λp v=>∀n,dD h (p.take n) (v.take n)) (λn=>by induction n using NC<;>exact .nil) (λa b ih n=>by
  induction n using NC with
  |zero=>exact .nil
  |succ n=>exact .cons a (ih n)) n
theorem Vr.ind{h:Heap}{M:PV->Value->Prop}(h0:M .none .none)(h1:∀b,M (.bool b) (.bool b))(h2:∀i t,M (.int i) (.int i t))(h3:∀x t,M (.str x) (.str x t))(h4:∀a,M (.ref a) (.ref a))
  (h5:∀{l a items},IsTup h a items->dD h l items.toList->(∀(j:Nat) p v,l[j]? =some p->items.toList[j]? =some v->Vr h p v/\M p v)->M (.tup l) (.ref a)) {p:PV} {v:Value} (x:Vr h p v):M p v:=
 x.rec (motive_1:=λp v _=>M p v) (motive_2:=λl vs _=>∀(j:Nat) p v,l[j]? =some p->vs[j]? =some v->Vr h p v/\M p v) h0 h1 h2 h3 h4 (λa b c=>h5 a b c) (λ_ _ _ e=>bL e) λa _ b c j p v e1 e2=>match j with
  |0=>sI e1▸sI e2▸⟨a,b⟩
  |j+1=>c j p v e1 e2
mutual
noncomputable def PV.key:PV->Bool
 |.int _=>true
 |.str _=>true
 |.tup l=>PV.keys l
 |_=>false
noncomputable def PV.keys:List PV->Bool
 |[]=>true
 |a::r=>PV.key a&&PV.keys r
end
mutual
noncomputable def PV.dep:PV->Nat
 |.tup l=>PV.jn l+1
 |_=>0
noncomputable def PV.jn:List PV->Nat
 |[]=>0
 |a::r=>max (PV.dep a) (PV.jn r)
end
mutual
noncomputable def PV.hash(w:World):PV->Int
 |.int i=>hashInt i
 |.str x=>hashStr w x
 |.tup l=>reduceHash (Builtin.Tuple.tupleHashOf (PV.iM w l))
 |_=>0
noncomputable def PV.iM(w:World):List PV->List Int
 |[]=>[]
 |a::r=>PV.hash w a::PV.iM w r
end
mutual
noncomputable def PV.draws:PV->Nat
 |.tup l=>PV.ip l+1
 |_=>1
noncomputable def PV.ip:List PV->Nat
 |[]=>0
 |a::r=>PV.draws a+PV.ip r
end
theorem uF{h:Heap}{a:Addr}{x y:Array Value}(h1:IsTup h a x)(h2:IsTup h a y):x=y:=by refine fQ h1 λo e _ n d=>?_;clear h1;refine fQ h2 λo' e' _ n' d'=>?_;clear h2;rw[e] at e';obtain rfl:=sI e';rw[d] at d';cases d';rfl
theorem ny{l:List PV}(h:PV.keys l=true):∀p∈l,PV.key p=true:=by
 induction l with
 |nil=>exact λ_ q=>(nomatch q)
 |cons a r ih=>
  obtain ⟨a1,a2⟩:=Bool.and_eq_true_iff.mp (show (PV.key a&&PV.keys r)=true from h);exact λp q=>(mem_cons.mp q).elim (λe=>e▸a1) (ih a2 p)
theorem lS{h:Heap}{q:PV}{u:Value}(k:PV.key q=true)(x:Vr h q u):(∃i t,q=.int i/\u=.int i t)∨(∃i t,q=.str i/\u=.str i t)∨∃l a items,q=.tup l/\u=.ref a/\PV.keys l=true/\IsTup h a items/\dD h l items.toList:=by
 revert k;cases x with
 |int i t=>exact λ_=>.inl (fN i t rfl rfl)
 |str i t=>exact λ_=>.inr (.inl (fN i t rfl rfl))
 |tup a b=>exact λk=>.inr (.inr (lY _ _ _ rfl ⟨rfl,k,a,b⟩))
 |_=>exact λk=>iD k
theorem Vr.inj{h:Heap}{p q:PV}{v:Value}(kp:PV.key p=true)(kq:PV.key q=true)(x:Vr h p v)(y:Vr h q v):p=q:=by
 refine x.ind (M:=λp v=>PV.key p=true->∀q,PV.key q=true->Vr h q v->p=q) iD (λ_=>iD) (λi t _ q k y=>?_) (λi t _ q k y=>?_) (λ_=>iD) (λ{l a items} ht hr ih kp q k y=>?_) kp q kq y
 ·rcases lS k y with ⟨_,_,e,f⟩|⟨_,_,e,f⟩|⟨_,_,_,e,f,_⟩
  ·rw[e,(Value.int.inj f).1]
  ·cases f
  ·cases f
 ·rcases lS k y with ⟨_,_,e,f⟩|⟨_,_,e,f⟩|⟨_,_,_,e,f,_⟩
  ·cases f
  ·rw[e,(Value.str.inj f).1]
  ·cases f
 ·rcases lS k y with ⟨_,_,e,f⟩|⟨_,_,e,f⟩|⟨l',a',qB,e,f,k',YS,gK⟩
  ·cases f
  ·cases f
  ·obtain rfl:=Value.ref.inj f
   obtain rfl:=uF ht YS;rw[e];have hl:l.length=l'.length:=hr.length.trans gK.length.symm;refine congrArg _ (ext_getElem hl λj h1 h2=>?_);obtain ⟨v,e1,r1⟩:=hr.get (getElem?_eq_getElem h1);obtain ⟨v',e2,r2⟩:=gK.get (getElem?_eq_getElem h2);obtain rfl:=sI (e1.symm.trans e2);exact(ih j _ v (getElem?_eq_getElem h1) e1).2 (ny kp _ (getElem_mem h1)) _ (ny k' _ (getElem_mem h2)) r2
section
variable {prog:Program} {w:World}
open SeqAt
noncomputable def u7(x y:List PV)(j:Nat):Bool:=match x[j]? with
 |some a=>match y[j]? with
  |some b=>PV.qP a b
  |none=>true
 |none=>true
theorem u6{x y:List PV}{j:Nat}{a b:PV}(h1:x[j]? =some a)(h2:y[j]? =some b):u7 x y j=PV.qP a b:=by unfold u7;rw[h1,h2]
theorem Ap(x y:List PV):((range (min x.length y.length)).all (u7 x y)&&x.length==y.length)=PV.nE x y:=by
 refine bx ⟨λh=>?_,λh=>?_⟩
 ·obtain ⟨h1,h2⟩:=Bool.and_eq_true_iff.mp h
  refine PV.fJ.mpr (ext_getElem (eq_of_beq h2) λi a b=>?_);have q:=all_eq_true.mp h1 i (mem_range.mpr (Nat.lt_min.mpr ⟨a,b⟩));rw[u6 (getElem?_eq_getElem a) (getElem?_eq_getElem b)] at q;exact PV.ud q
 ·obtain rfl:=PV.fJ.mp h
  refine Bool.and_eq_true_iff.mpr ⟨all_eq_true.mpr λi _=>?_,beq_self_eq_true _⟩;unfold u7;induction x[i]? with
  |none=>rfl
  |some a=>exact PV.ik a
theorem mS{A:Around}{s:Shared}{hp:Heap}{p:PV}{v w:Value}{k:Bool}(r:Vr hp p v)(h:RcAt A s v w k)(hs:v=w->k=true):EqAt A s v w k:=λprog wo E Q hq=>by
 unfold eqBool;refine wpAny_holding ?_;refine wpAny_ite_split (λZr=>?_) λ_=>?_
 ·have:=hs (eq_of_beq Zr)
  subst this;exact wpAny_bind (wpAny_rule (wpAny_pure hq))
 ·cases r<;>exact wpAny_bind (h prog wo E _ (wpAny_truthy_bool hq))
theorem ue{l:List PV}{p:PV}(h:p∈l):PV.dep p<=PV.jn l:=by
 induction h with
 |head r=>exact Nat.le_max_left _ _
 |tail b _ ih=>exact Nat.le_trans ih (Nat.le_max_right _ _)
theorem ql{s:Shared}(A:Around){p q:PV}{v u:Value}(kp:PV.key p=true)(kq:PV.key q=true)(x:Vr s.heap p v)(y:Vr s.heap q u)(hu:A.units+PV.dep p<cLine):RcAt A s v u (PV.qP p q):=by
 refine x.ind (M:=λp v=>∀A:Around,PV.key p=true->∀q u,PV.key q=true->Vr s.heap q u->A.units+PV.dep p<cLine->RcAt A s v u (PV.qP p q)) (λ_=>iD) (λ_ _=>iD) (λi t A _ q u k y hu=>?_) (λi t A _ q u k y hu=>?_) (λ_ _=>iD) (λ{l a items} ht hr ih A kp q u k y hu=>?_) A kp q u kq y hu
 ·have hu:A.units<cLine:=Nat.lt_of_le_of_lt (Nat.le_add_right _ _) hu
  rcases lS k y with ⟨_,_,e,f⟩|⟨_,_,e,f⟩|⟨_,_,_,e,f,_,ht,_⟩
  ·subst e f;exact RcAt.int_int _ _ _ _
  ·subst e f;exact RcAt.int_str _ _ _ _
  ·subst e f;exact RcAt.int_tuple _ _ ht hu
 ·have hu:A.units<cLine:=Nat.lt_of_le_of_lt (Nat.le_add_right _ _) hu
  rcases lS k y with ⟨_,_,e,f⟩|⟨_,_,e,f⟩|⟨_,_,_,e,f,_,ht,_⟩
  ·subst e f;exact RcAt.str_int _ _ _ _
  ·subst e f;exact RcAt.str_str _ _ _ _
  ·subst e f;exact RcAt.str_tuple _ _ ht hu
 ·have ko:A.units<cLine:=Nat.lt_of_le_of_lt (Nat.le_add_right _ _) hu
  rcases lS k y with ⟨_,_,e,f⟩|⟨_,_,e,f⟩|⟨l',a',qB,e,f,k',YS,gK⟩
  ·subst e f;exact RcAt.tuple_int _ _ ht ko
  ·subst e f;exact RcAt.tuple_str _ _ ht ko
  ·subst e f
   refine(?_:RcAt A s _ _ (PV.nE l l'));refine(rS (Ap l l') (J hr.length (J gK.length ?_)))
   exact RcAt.tuples (e:=u7 l l') ht YS ko λj h1 h2=>by
    have g1:j<l.length:=hr.length▸h1;have g2:j<l'.length:=gK.length▸h2;have w1:=getElem?_eq_getElem g1;have w2:=getElem?_eq_getElem g2;have x1:items.toList[j]? =some items[j]:=getElem?_eq_getElem h1;obtain ⟨z,e2,r2⟩:=gK.get w2;have x2:qB.toList[j]? =some qB[j]:=getElem?_eq_getElem h2;obtain rfl:=sI (e2.symm.trans x2);obtain ⟨r1,m⟩:=ih j _ _ w1 x1;rw[u6 w1 w2];have ka:=ny kp _ (getElem_mem g1);have kb:=ny k' _ (getElem_mem g2);refine mS r1 (m A.in1 ka _ _ kb r2 ?_) λe=>?_
    ·have:=ue (getElem_mem g1)
     exact Nat.lt_of_le_of_lt (Nat.add_le_add_left this _) (by exact PM hu)
    ·rw[<-e] at r2
     exact PV.Fi.mpr (Vr.inj ka kb r1 r2)
theorem yB{M:PV->Prop}(h1:∀i,M (.int i))(h2:∀x,M (.str x))(h3:∀l,(∀p∈l,M p)->M (.tup l))(p:PV):PV.key p=true->M p:=
 p.rec (motive_1:=λp=>PV.key p=true->M p) (motive_2:=λl=>PV.keys l=true->∀p∈l,M p) iD (λ_=>iD) (λi _=>h1 i) (λx _=>h2 x) (λl ih k=>h3 l (ih k)) (λ_=>iD) (λ_ _ h=>(nomatch h)) λa r i j k p h=>by obtain ⟨k1,k2⟩:=Bool.and_eq_true_iff.mp (show (PV.key a&&PV.keys r)=true from k);exact(mem_cons.mp h).elim (λe=>e▸i k1) (j k2 p)
def HP(prog:Program)(w:World)(p:PV):Prop:=∀(A:Around) (E:Value->Shared->Prop) (s:Shared) (v:Value) (Q:Int->Shared->Prop),A.units+PV.dep p<cLine->Vr s.heap p v->Q (PV.hash w p) {s with toks:=s.toks+PV.draws p}->wpAny (model prog w) A (pyHash v) Q E s
def QP(prog:Program)(w:World)(p:PV):Prop:=∀(A:Around) (E:Value->Shared->Prop) (s:Shared) (v:Value) (Q:Bool->Shared->Prop) (n:Nat),PV.dep p<=n->Vr s.heap p v->Q true s->wpAny (model prog w) A (eqIsQuiet n v) Q E s
theorem sE(a b:List PV):PV.iM w (a++b)=PV.iM w a++PV.iM w b:=by
 induction a with
 |nil=>simp[PV.iM]
 |cons x a ih=>simp[PV.iM,ih]
theorem qR(a b:List PV):PV.ip (a++b)=PV.ip a+PV.ip b:=by
 induction a with
 |nil=>simp[PV.ip]
 |cons x a ih=>simp[PV.ip,ih,Nat.add_assoc]
theorem Cz{l:List PV}(ih:∀p∈l,HP prog w p):HP prog w (.tup l):=λA E s v Q hu hv h=>by
 have ko:A.units<cLine:=Nat.lt_of_le_of_lt (Nat.le_add_right _ _) hu;cases hv with
 |@tup _ a items hi hr=>
  have hT:s.TypeIs (.ref a) "tuple":=let ⟨o,ho,hc,_⟩:=hi;(aj o ho hc);refine fQ hi λo ho _ n hd=>?_;clear hi;unfold pyHash
  first|unfold pyHashByItsType|skip
  first|refine wpAny_bind (wpAny_cRoomFor_or (.inr ko) ?_)|skip
  refine wpAny_bind (wpAny_specialOf hT F.slot_tuple_hash.lookup ?_);refine(?_:wpAny _ _ (if (some (Value.builtin "tuple.__hash__")==some Value.none)=true then _ else _) Q E s);rw[if_neg (by refine J (beq_builtin_none _) ?_;exact Bool.false_ne_true)];refine wpAny_bind (wpAny_specialOf hT F.slot_tuple_hash.lookup ?_);refine(?_:wpAny _ _ (callSpecialIfBoundUnlessNone? (.ref a) "__hash__" _>>=_) Q E s);refine wpAny_bind (wpAny_callSpecialIfBoundUnlessNone?_slot hT F.slot_tuple_hash (wpAny_call_entry F.slot_tuple_hash hT F.entry_tuple_hash ?_ (F.args_tuple_hash_1 _)));refine(?_:wpAny _ _ (Builtin.Tuple.tupleItemsOf (.ref a)>>=_) _ _ s);refine wpAny_bind (wpAny_tupleItemsOf ho hd ?_);refine wpAny_bind ?_;rw[<-Array.forIn_toList]
  refine wpAny_forIn_list _
   (λrest (b:Array Int) s'=>∃done left,l=done++left/\dD s.heap left rest/\b.toList=PV.iM w done/\s'={s with toks:=s.toks+PV.ip done})
   _ ?_ ?_ _ _ (dX [] l rfl hr rfl rfl)
  ·rintro x rest b s' ⟨done,left,rfl,hl,hb,rfl⟩
   cases hl with
   |@cons k _ ks' _ h1 wC=>
    refine wpAny_bind (ih k (mem_append_right _ (.head _)) _ _ {s with toks:=s.toks+PV.ip done} _ _ (by have:=ue (mem_append_right done (List.Mem.head ks'):k∈done++k::ks');unfold PV.dep at hu;refine(?_:A.units+1+_<_);exact Yq this hu) h1 ?_)
    first
     |exact wpAny_pure (dX (done++[k]) ks' (by simp) wC (by simp[hb,sE,PV.iM]) (by simp[qR,PV.ip,Nat.add_assoc]))
     |exact wpAny_bind (wpAny_pure (wpAny_pure ⟨done++[k],ks',by simp,wC,by simp[hb,sE,PV.iM],by simp[qR,PV.ip,Nat.add_assoc]⟩))
  ·rintro b s' ⟨done,left,rfl,hl,hb,rfl⟩
   cases hl;rw[append_nil] at h;refine(?_:wpAny _ _ (retInt (Builtin.Tuple.tupleHashOf b.toList)) _ _ _);refine J hb ?_;refine wpAny_ret_mkInt ?_;unfold PV.hash PV.draws reduceHash at h;refine(?_:wpAny _ _ (if (decide (-(2:Int)^63<=Builtin.Tuple.tupleHashOf (PV.iM w done))&&decide (Builtin.Tuple.tupleHashOf (PV.iM w done)<2^63))=true then _ else _) Q E _)
   by_cases gK:(decide (-(2:Int)^63<=Builtin.Tuple.tupleHashOf (PV.iM w done))&&decide (Builtin.Tuple.tupleHashOf (PV.iM w done)<2^63))=true
   ·refine J (if_pos gK) ?_
    rw[if_pos gK] at h;exact wpAny_pure (by simpa[Nat.add_assoc] using h)
   ·refine J (if_neg gK) ?_
    rw[if_neg gK] at h;exact wpAny_bind (wpAny_rule (wpAny_pure (by simpa[Nat.add_assoc] using h)))
theorem CA{p:PV}(k:PV.key p=true):HP prog w p:=yB (M:=HP prog w) (λ_ A E s v Q hu hv h=>by obtain ⟨_,rfl⟩:=aX hv;exact wpAny_pyHash_int h) (λ_ A E s v Q hu hv h=>by obtain ⟨_,rfl⟩:=bA hv;exact wpAny_pyHash_str h) (λ_=>Cz) p k
theorem zK{l:List PV}(ih:∀p∈l,QP prog w p):QP prog w (.tup l):=λA E s v Q n hn hv h=>by
 induction n using NC with
 |zero=>simp[PV.dep] at hn
 |succ n=>
 cases hv with
 |@tup _ a items hi hr=>
  have hT:s.TypeIs (.ref a) "tuple":=let ⟨o,ho,hc,_⟩:=hi;(aj o ho hc);refine fQ hi λo ho _ k hd=>?_;clear hi;have JS:PV.jn l<=n:=by unfold PV.dep at hn;exact Yp hn
  unfold eqIsQuiet;refine wpAny_bind (wpAny_specialOf hT F.slot_tuple_eq.lookup ?_);refine(?_:wpAny _ _ (isInstance (.ref a) (.type "tuple")>>=_) _ _ s);refine wpAny_bind (wpAny_isInstance hT isSubtype_tuple_tuple ?_);simp only[Bool.not_true,Bool.false_eq_true,if_false];refine wpAny_bind (wpAny_seqItems ho hd ?_);refine wpAny_bind ?_;refine(?_:wpAny _ _ (forIn items _ _) _ _ s);rw[<-Array.forIn_toList];refine wpAny_forIn_list _ (λrest r s'=>mz (r.1=none) (s'=s) (∃left,(∀p∈left,p∈l)/\dD s.heap left rest)) _ ?_ ?_ _ _ ⟨rfl,rfl,l,λ_ x=>x,hr⟩
  ·rintro x rest r s' ⟨YX,rfl,left,hl,hv⟩
   cases hv with
   |@cons k _ ks' _ h1 wC=>
    refine wpAny_bind (ih k (hl k (.head _)) _ _ _ _ _ n (Nat.le_trans (ue (hl k (.head _))) JS) h1 ?_);simp only[Bool.not_true,Bool.false_eq_true,if_false];exact wpAny_pure ⟨rfl,rfl,ks',λp hp=>hl p (.tail _ hp),wC⟩
  ·rintro ⟨r1,r2⟩ s' ⟨YX,rfl,_⟩
   simp only at YX;subst YX;exact wpAny_pure h
theorem sj(n:Nat){v:Value}(h:carriedByValue v=true):eqIsQuiet n v=pure true:=by
 induction v with
 |ref a=>simp[carriedByValue] at h
 |_=>first|rfl|exact eqIsQuiet_byValue n h|(unfold eqIsQuiet;rfl)
theorem zL{p:PV}(k:PV.key p=true):QP prog w p:=yB (M:=QP prog w) (λ_ A E s v Q n hn hv h=>by obtain ⟨_,rfl⟩:=aX hv;rw[sj n rfl];exact wpAny_pure h) (λ_ A E s v Q n hn hv h=>by obtain ⟨_,rfl⟩:=bA hv;rw[sj n rfl];exact wpAny_pure h) (λ_=>zK) p k
noncomputable def cy(a b:List PV):Decidable (a=b):=decidable_of_iff (PV.nE a b=true) PV.fJ
noncomputable def gV(prog:Program)(w:World):@HeapKind prog w (List PV) cy:=
 letI:=cy
 {is:=λh l a=>PV.keys l=true/\PV.jn l<=6/\Vr h (.tup l) (.ref a)
  hash:=λl=>PV.hash w (.tup l)
  draws:=λl=>PV.draws (.tup l)
  room:=λA=>A.units+8<cLine
  inj:=λhx hy=>by have:=Vr.inj (p:=.tup _) (q:=.tup _) (by simpa only[PV.key] using hx.1) (by simpa only[PV.key] using hy.1) hx.2.2 hy.2.2;injection this
  keeps:=λx ho hd hs=>(aN x.1 x.2.1 (x.2.2.mono (TL.sameBut hs λitems zq=>by(refine fQ zq λo' h1 _ n h3=>?_;clear zq);rw[ho] at h1;obtain rfl:=sI h1;rw[hd] at h3;exact sL h3)))
  pyHash:=λhu hk h=>CA (p:=.tup _) (by simpa only[PV.key] using hk.1) _ _ _ _ _ (by exact KY hu hk.2.1) hk.2.2 h
  eqBool:=λ{A E s x y a b Q} hu hx hy h=>by
   have:=mS hx.2.2 (ql A (p:=.tup x) (q:=.tup y) (by simpa only[PV.key] using hx.1) (by simpa only[PV.key] using hy.1) hx.2.2 hy.2.2 (by exact KY hu hx.2.1)) (λe=>by
    injection e with e;subst e
    have:=Vr.inj (p:=.tup _) (q:=.tup _) (by simpa only[PV.key] using hx.1) (by simpa only[PV.key] using hy.1) hx.2.2 hy.2.2;refine J this ?_;exact PV.ik _)
   refine this prog w E Q ?_;exact J (show PV.qP (.tup x) (.tup y)=@decide (x=y) (cy x y) from bx ⟨λq=>@decide_eq_true _ (cy x y) (PV.fJ.mp q),λq=>PV.fJ.mpr (@of_decide_eq_true _ (cy x y) q)⟩) h
  quiet:=λhk h=>zL (p:=.tup _) (by simpa only[PV.key] using hk.1) _ _ _ _ _ 8 (by exact Nat.succ_le_succ (Nat.le_trans hk.2.1 (by decide))) hk.2.2 h}
end
inductive AO where
 |lst (l:List PV)
 |dS (l:List (Str×PV))
 |dI (l:List (Int×PV))
 |dT (l:List (List PV×PV))
 |inst (C d:Addr)
 |dh (m:Map)
 |cell (v:Option PV)
 |fn (o:Obj)
 |gx (a b:Int)
theorem kB{a b:AO}{G:Prop}(h:some a=some b)(e:Nat.beq a.ctorIdx b.ctorIdx=false:=by rfl):G:=MK AO.ctorIdx (sI h) e
noncomputable abbrev St:=Addr->Option AO
noncomputable def upd(V:St)(a:Addr)(o:AO):St:=λx=>if x=a then some o else V x
theorem ae{V:St}{a:Addr}{o:AO}:upd V a o a=some o:=by simp[upd]
theorem aB{V:St}{a b:Addr}{o:AO}(h:b≠a):upd V a o b=V b:=by simp[upd,h]
theorem ai{V:St}{a b:Addr}{o o':AO}(hf:V a=none)(h:V b=some o'):upd V a o b=some o':=by rw[aB];exact h;rintro rfl;rw[hf] at h;exact bL h
inductive KR {K:Type} (h:Heap):List (K×PV)->List (K×Value)->Prop
 |nil:KR h [] []
 |cons {k:K} {p:PV} {v:Value} {l:List (K×PV)} {cm:List (K×Value)} (hv:Vr h p v) (r:KR h l cm):KR h ((k,p)::l) ((k,v)::cm)
theorem KR.mono{K:Type}{h h':Heap}(k:TL h h'){l:List (K×PV)}{cm:List (K×Value)}(x:KR h l cm):KR h' l cm:=by
 induction x with
 |nil=>exact .nil
 |cons hv _ ih=>exact .cons (hv.mono k) ih
theorem KR.keys{K:Type}{h:Heap}{l:List (K×PV)}{cm:List (K×Value)}(x:KR h l cm):l.map (·.1)=cm.map (·.1):=by
 induction x with
 |nil=>rfl
 |cons hv _ ih=>simp[ih]
noncomputable def jG(xs:List (List PV×Addr×Value)):List (List PV×Value):=xs.map λx=>(x.1,x.2.2)
theorem zG{pr:Program}{wo:World}{h h':Heap}{a:Addr}{xs:List (List PV×Addr×Value)}(k:TL h h')(e:h'.get? a=h.get? a)(x:@Heap.DictOfH pr wo _ cy (gV pr wo) h a xs):@Heap.DictOfH pr wo _ cy (gV pr wo) h' a xs:=by refine pG x λo es ep h1 h2 h3 h4 h5 h6=>?_;clear x;exact lY o es ep (e.trans h1) ⟨h2,h3,h4,λy hy=>(aN ((h5 y hy).1) ((h5 y hy).2.1) ((h5 y hy).2.2.mono k)),h6⟩
inductive rm (h:Heap):Option PV->Option Value->Prop
 |none:rm h .none .none
 |some {p:PV} {v:Value} (x:Vr h p v):rm h (some p) (some v)
theorem rm.mono{h h':Heap}(k:TL h h'){p:Option PV}{v:Option Value}(x:rm h p v):rm h' p v:=by
 cases x with
 |none=>exact .none
 |some x=>exact .some (x.mono k)
inductive rR (h:Heap):Option PV->Option Value->Prop
 |none {v:Option Value}:rR h .none v
 |some {p:PV} {v:Value} (x:Vr h p v):rR h (some p) (some v)
theorem rR.mono{h h':Heap}(k:TL h h'){p:Option PV}{v:Option Value}(x:rR h p v):rR h' p v:=by
 cases x with
 |none=>exact .none
 |some x=>exact .some (x.mono k)
theorem rm.w{h:Heap}{p:Option PV}{v:Option Value}(x:rm h p v):rR h p v:=by
 cases x with
 |none=>exact .none
 |some x=>exact .some x
set_option genInjectivity false in
inductive As where
 |lst (a:Addr)
 |tup (l:List PV)
 |str (x:Str)
 |gx (x left:Int)
inductive Fr where
 |ns (own:Bool) (cells:List (Str×Addr)) (m:Map)
 |it (k:As) (i:Nat)
 |obj (o:AO)
 |uu
noncomputable abbrev dG:=List (Addr×Fr)
noncomputable def Fr.cells:Fr->List (Str×Addr)
 |.ns _ cs _=>cs
 |_=>[]
noncomputable def Fr.owned:Fr->List (Str×Addr)
 |.ns true cs _=>cs
 |_=>[]
noncomputable def d8(f:Addr×Fr):List Addr:=f.1::f.2.cells.map (·.2)
noncomputable def mD(f:Addr×Fr):List Addr:=f.1::f.2.owned.map (·.2)
theorem g9{f:Addr×Fr}{a:Addr}(h:a∈mD f):a∈d8 f:=by
 obtain ⟨L,f⟩:=f;induction f with
 |ns o cs m=>induction o with
  |true=>exact h
  |false=>simp only[mD,Fr.owned,map_nil,mem_singleton] at h;refine J h ?_;exact mem_cons_self
 |it k i=>exact h
 |obj o=>exact h
 |uu=>exact h
noncomputable def Apart:dG->Prop
 |[]=>True
 |f::r=>(∀a∈mD f,∀g∈r,a∉d8 g)/\(∀a∈f.2.cells.map (·.2),∀g∈r,a≠g.1)/\(f.1∉f.2.cells.map (·.2)/\(f.2.owned.map (·.2)).Nodup)/\Apart r
def NsR(h:Heap)(L:Addr)(cells:List (Str×Addr))(m:Map):Prop:=
 (∀items,¬IsTup h L items)/\(∃mv,h.Ns L mv/\∀x,cells.lookup x=none->rR h (dB m x) (mv x))/\∀x a,cells.lookup x=some a->∃v,h.IsCell a v/\rR h (dB m x) v
noncomputable def O8(h:Heap)(a:Addr)(i:Nat):As->Prop
 |.lst l=>h.IsListIter a l i
 |.tup l=>∃t items,IsTup h t items/\dD h l items.toList/\IsTupIter h a t i
 |.str x=>∃t,h.IsStrIter a (if x.cps.all (·<128) then "str_ascii_iterator" else "str_iterator") x t i
 |.gx x left=>IsRangeIter h a (x+i) (left-i) 1
inductive IE (h:Heap):Map->List DictEntry->Prop
 |nil:IE h [] []
 |cons {x:Str} {p:PV} {e:DictEntry} {m:Map} {es:List DictEntry} (hk:∃t,e.key=.str x t) (hv:Vr h p e.val) (r:IE h m es):IE h ((x,p)::m) (e::es)
theorem IE.mono{h h':Heap}(k:TL h h'){m:Map}{es:List DictEntry}(x:IE h m es):IE h' m es:=by
 induction x with
 |nil=>exact .nil
 |cons hk hv _ ih=>exact .cons hk (hv.mono k) ih
theorem IE.length{h:Heap}{m:Map}{es:List DictEntry}(x:IE h m es):m.length=es.length:=by
 induction x with
 |nil=>rfl
 |cons _ _ _ ih=>exact(λ{a b}=>Nat.succ_inj.mpr) ih
noncomputable def jV(pr:Program)(wo:World)(h:Heap)(a:Addr):AO->Prop
 |.lst l=>∃vs n,h.get? a=some (listOf vs n)/\dD h l vs.toList
 |.dS l=>∃cm,h.DictOf (strKind pr wo) a cm/\KR h l cm
 |.dI l=>∃cm,h.DictOf (intKind pr wo) a cm/\KR h l cm
 |.dT l=>∃xs,@Heap.DictOfH pr wo _ cy (gV pr wo) h a xs/\KR h l (jG xs)
 |.inst C d=>h.get? a=some (instObj C d)
 |.dh m=>m.length<=100/\∃es n,h.get? a=some (dictOf es n)/\IE h m es
 |.cell v=>∃o vv,h.get? a=some o/\o.cls=.type "cell"/\o.data=.cell vv/\rm h v vv
 |.fn o=>h.get? a=some o/\∀items k,o.data≠.seq items k
 |.gx x y=>∃t u v,IsRange h a x y 1 t u v
theorem jV.get{pr:Program}{wo:World}{h:Heap}{a:Addr}{o:AO}(x:jV pr wo h a o):∃ob,h.get? a=some ob:=by
 induction o with
 |lst l=>(refine b0 x λvs n e _=>?_;clear x);exact⟨_,e⟩
 |dS l=>(refine ix x λcm o es ep e _ _=>?_;clear x);exact⟨_,e⟩
 |dI l=>(refine ix x λcm o es ep e _ _=>?_;clear x);exact⟨_,e⟩
 |dT l=>(refine ix x λcm o es ep e _ _=>?_;clear x);exact⟨_,e⟩
 |inst C d=>exact⟨_,x⟩
 |dh m=>(refine iz x λ_ es n e _=>?_;clear x);exact⟨_,e⟩
 |cell v=>(refine b0 x λo vv e _=>?_;clear x);exact⟨_,e⟩
 |fn o=>exact⟨_,x.1⟩
 |gx p q=>(refine rt x λ_ _ _ e=>?_;clear x);exact⟨_,e⟩
theorem jV.j7{pr:Program}{wo:World}{h:Heap}{a:Addr}{o:AO}(x:jV pr wo h a o):∀items,¬IsTup h a items:=by
 rintro items ⟨ob,h1,h2,n,h3⟩;induction o with
 |lst l=>(refine b0 x λvs n e _=>?_;clear x);rw[h1] at e;obtain rfl:=sI e;simp at h2
 |dS l=>(refine iy x λcm o es ep e _ d _ _=>?_;clear x);rw[h1] at e;obtain rfl:=sI e;rw[d] at h3;exact sL h3
 |dI l=>(refine iy x λcm o es ep e _ d _ _=>?_;clear x);rw[h1] at e;obtain rfl:=sI e;rw[d] at h3;exact sL h3
 |dT l=>(refine iy x λcm o es ep e _ d _ _=>?_;clear x);rw[h1] at e;obtain rfl:=sI e;rw[d] at h3;exact sL h3
 |inst C d=>have e:=x;unfold jV at e;rw[h1] at e;obtain rfl:=sI e;exact sL h3
 |dh m=>(refine iz x λ_ vs n e _=>?_;clear x);rw[h1] at e;obtain rfl:=sI e;trivial
 |cell v=>(refine dF x λo vv e c d _=>?_;clear x);rw[h1] at e;obtain rfl:=sI e;rw[d] at h3;exact sL h3
 |fn o=>(refine aA x λe c=>?_;clear x);rw[h1] at e;obtain rfl:=sI e;exact c _ _ h3
 |gx p q=>(refine rt x λ_ _ _ e=>?_;clear x);have e:h.get? a=_:=e;rw[h1] at e;obtain rfl:=sI e;exact sL h3
theorem jV.keep{pr:Program}{wo:World}{h h':Heap}{a:Addr}{o:AO}(k:TL h h')(e:h'.get? a=h.get? a)(x:jV pr wo h a o):jV pr wo h' a o:=by
 induction o with
 |lst l=>(refine b0 x λvs n q r=>?_;clear x);exact fN vs n (e.trans q) (r.mono k)
 |dS l=>(refine ix x λcm o es ep q r z=>?_;clear x);exact aj cm ⟨o,es,ep,e.trans q,r⟩ (z.mono k)
 |dI l=>(refine ix x λcm o es ep q r z=>?_;clear x);exact aj cm ⟨o,es,ep,e.trans q,r⟩ (z.mono k)
 |dT l=>(refine ah x λxs q z=>?_;clear x);exact aj xs (zG k e q) (z.mono k)
 |inst C d=>exact Eq.trans e x
 |dh m=>(refine iz x λz vs n q r=>?_;clear x);exact lE z vs n (e.trans q) (r.mono k)
 |cell v=>(refine dF x λo vv q c d r=>?_;clear x);exact dX o vv (e.trans q) c d (r.mono k)
 |fn o=>exact⟨e.trans x.1,x.2⟩
 |gx p q=>(refine rt x λt u v y=>?_;clear x);exact nW t u v (e.trans y)
noncomputable def rT(pr:Program)(wo:World)(h:Heap)(a:Addr):Fr->Prop
 |.ns _ cells m=>NsR h a cells m
 |.it k i=>O8 h a i k
 |.obj o=>jV pr wo h a o
 |.uu=>∃mv,h.Ns a mv
theorem ze{h:Heap}{L:Addr}{mv:Str->Option Value}(hn:h.Ns L mv):∀items,¬IsTup h L items:=λitems zf=>fQ zf λo h1 h2 n h3=>by refine sQ hn λo' es ep q1 q2 _=>?_;clear hn;rw[h1] at q1;obtain rfl:=sI q1;rw[q2] at h3;exact sL h3
theorem mem_lookup{α:Type}:∀{l:List (Str×α)} {x:Str} {a:α},l.lookup x=some a->(x,a)∈l:=λh=>mem_of_lookup h
theorem xw{h:Heap}{a:Addr}{v:Option Value}(x:h.IsCell a v):∀items,¬IsTup h a items:=by rintro items ⟨o,h1,_,n,h3⟩;refine ah x λo' q1 q2=>?_;clear x;rw[h1] at q1;obtain rfl:=sI q1;rw[q2] at h3;exact sL h3
theorem rT.get{pr:Program}{wo:World}{h:Heap}{L:Addr}{f:Fr}(x:rT pr wo h L f):∃ob,h.get? L=some ob:=by
 induction f with
 |ns o cs m=>(refine lG x λ_ mv o es ep e _ _ _=>?_;clear x);exact⟨o,e⟩
 |it k i=>induction k with
  |lst l=>(refine ah x λo e _=>?_;clear x);exact⟨o,e⟩
  |tup l=>(refine ph x λ_ _ _ _ o e _=>?_;clear x);exact⟨o,e⟩
  |str l=>(refine b0 x λ_ o e _=>?_;clear x);exact⟨o,e⟩
  |gx a b=>exact⟨_,x⟩
 |obj o=>exact jV.get x
 |uu=>(refine wu x λmv o es ep e _=>?_;clear x);exact⟨o,e⟩
theorem rT.j7{pr:Program}{wo:World}{h:Heap}{L:Addr}{f:Fr}(x:rT pr wo h L f):∀items,¬IsTup h L items:=by
 rintro items ⟨ob,h1,h2,n,h3⟩;induction f with
 |ns o cs m=>exact x.1 items (ir ob h1 h2 n h3)
 |it k i=>induction k with
  |lst l=>(refine aK x λo e _ d=>?_;clear x);rw[h1] at e;obtain rfl:=sI e;rw[d] at h3;exact sL h3
  |tup l=>(refine mx x λ_ _ _ _ o e _ d=>?_;clear x);rw[h1] at e;obtain rfl:=sI e;rw[d] at h3;exact sL h3
  |str l=>(refine aV x λ_ o e _ d=>?_;clear x);rw[h1] at e;obtain rfl:=sI e;rw[d] at h3;exact sL h3
  |gx a b=>have e:h.get? L=_:=x;rw[h1] at e;obtain rfl:=sI e;exact sL h3
 |obj o=>exact jV.j7 x items (ir ob h1 h2 n h3)
 |uu=>(refine bK x λmv e=>?_;clear x);exact ze e items (ir ob h1 h2 n h3)
theorem rT.keep{pr:Program}{wo:World}{h h':Heap}{L:Addr}{f:Fr}(k:TL h h')(e:∀a∈d8 (L,f),h'.get? a=h.get? a)(x:rT pr wo h L f):rT pr wo h' L f:=by
 have eL:=e L mem_cons_self;induction f with
 |ns own cs m=>
  refine lG x λnt mv o es ep q r y z=>?_;clear x;refine⟨λitems zf=>ah zf λob h1 h2=>nt items (aj ob (eL▸h1) h2),(aj mv ⟨o,es,ep,eL.trans q,r⟩ (λw hw=>(y w hw).mono k)),λw a hw=>?_⟩;refine DJ (z w a hw) λv o q1 q2 q3=>?_;exact aj v ⟨o,(e a (mem_cons_of_mem _ (mem_map_of_mem (mem_lookup hw)))).trans q1,q2⟩ (q3.mono k)
 |it kk i=>induction kk with
  |lst l=>(refine ah x λo q r=>?_;clear x);exact aj o (eL.trans q) r
  |tup l=>(refine ph x λt items q1 q2 o q r=>?_;clear x);exact dM t items (k _ _ q1) (q2.mono k) ⟨o,eL.trans q,r⟩
  |str l=>(refine b0 x λt o q r=>?_;clear x);exact fN t o (eL.trans q) r
  |gx a b=>exact eL.trans x
 |obj o=>exact jV.keep k eL x
 |uu=>(refine wu x λmv o es ep q r=>?_;clear x);exact nW mv o es ⟨ep,eL.trans q,r⟩
theorem jF{f:Addr×Fr}(hc:f.2.cells=[]):f.1∉f.2.cells.map (·.2)/\(f.2.owned.map (·.2)).Nodup:=by
 refine J hc ?_;refine⟨by exact not_mem_nil,?_⟩;obtain ⟨L,f⟩:=f;induction f with
 |ns o cs m=>induction o with
  |true=>have:cs=[]:=hc;subst this;exact .nil
  |false=>exact .nil
 |it k i=>exact .nil
 |obj o=>exact .nil
 |uu=>exact .nil
theorem pf{φ:dG}(h:Apart φ){f:Addr×Fr}(hf:f∈φ){a:Addr}(ha:a∈f.2.cells.map (·.2)):∀g∈φ,a≠g.1:=by
 induction φ with
 |nil=>exact km hf
 |cons y r ih=>
  intro g hg;rcases mem_cons.mp hf with e1|h1
  ·subst e1
   rcases mem_cons.mp hg with e2|h2
   ·subst e2;rintro rfl;exact h.2.2.1.1 ha
   ·exact h.2.1 a ha g h2
  ·rcases mem_cons.mp hg with e2|h2
   ·subst e2;rintro rfl;exact h.1 _ mem_cons_self f h1 (mem_cons_of_mem _ ha)
   ·exact ih h.2.2.2 h1 g h2
theorem oK{pre:dG}{g:Addr×Fr}{φ:dG}(h:Apart (pre++g::φ))(hc:g.2.cells=[]):∀y∈pre++φ,g.1∉d8 y:=by
 induction pre with
 |nil=>exact λy hy=>h.1 g.1 mem_cons_self y hy
 |cons f r ih=>
  intro y hy;have hg:g∈r++g::φ:=mem_append_right _ mem_cons_self;rcases mem_cons.mp hy with e|hy
  ·subst e
   intro q;rcases mem_cons.mp q with e|q
   ·have:=h.1 y.1 mem_cons_self g hg
    rw[<-e] at this;exact this mem_cons_self
   ·exact h.2.1 g.1 q g hg rfl
  ·exact ih h.2.2.2 y hy
theorem rf:∀{pre:dG} {g g':Addr×Fr} {φ:dG},Apart (pre++g::φ)->g.2.cells=[]->g'.2.cells=[]->g'.1=g.1->Apart (pre++g'::φ)
 |[],g,g',φ,h,hc,Aa,e=>by
  have og:∀a∈mD g',a=g.1:=λa ha=>by have:=g9 ha;unfold d8 at this;rw[Aa,e] at this;simpa using this
  exact(cj (λa ha=>by refine J (og a ha) ?_;exact h.1 g.1 mem_cons_self) (λa ha=>(by rw[Aa] at ha;exact km ha)) (jF Aa) h.2.2.2)
 |f::r,g,g',φ,h,hc,Aa,e=>by
  have mg:d8 g'=d8 g:=by unfold d8;exact J hc (J Aa (J e rfl))
  refine cj (λa ha y hy=>?_) (λa ha y hy=>?_) h.2.2.1 (rf h.2.2.2 hc Aa e)
  ·rcases mem_append.mp hy with q|q
   ·exact h.1 a ha y (mem_append_left _ q)
   ·rcases mem_cons.mp q with rfl|q
    ·refine J mg ?_;exact h.1 a ha g (mem_append_right _ mem_cons_self)
    ·exact h.1 a ha y (mem_append_right _ (mem_cons_of_mem _ q))
  ·rcases mem_append.mp hy with q|q
   ·exact h.2.1 a ha y (mem_append_left _ q)
   ·rcases mem_cons.mp q with rfl|q
    ·refine J e ?_;exact h.2.1 a ha g (mem_append_right _ mem_cons_self)
    ·exact h.2.1 a ha y (mem_append_right _ (mem_cons_of_mem _ q))
theorem oL:∀{pre:dG} {g:Addr×Fr} {φ:dG},Apart (pre++g::φ)->Apart (pre++φ)
 |[],g,φ,h=>h.2.2.2
 |f::r,g,φ,h=>(cj (λa ha y hy=>h.1 a ha y (by rcases mem_append.mp hy with q|q<;>simp[q])) (λa ha y hy=>h.2.1 a ha y (by rcases mem_append.mp hy with q|q<;>simp[q])) h.2.2.1 (oL h.2.2.2))
structure Rep (pr:Program) (wo:World) (H:Heap) (bJ:OsState) (s:Shared) (V:St) (φ:dG):Prop where
 base:∀b o,H.get? b=some o->s.heap.get? b=some o
 os:s.os=bJ
 gens:s.gens=#[]
 obj:∀a o,V a=some o->H.get? a=none/\jV pr wo s.heap a o
 aZ:∀f∈φ,(∀a∈d8 f,H.get? a=none/\V a=none/\∃ob,s.heap.get? a=some ob)/\rT pr wo s.heap f.1 f.2
 apart:Apart φ
section
variable {pr:Program} {wo:World} {H:Heap} {bJ:OsState} {s:Shared} {V:St} {φ:dG}
theorem Rep.lt{a:Addr}{o:AO}(R:Rep pr wo H bJ s V φ)(e:V a=some o):a<s.heap.objs.size:=by refine bK ((R.obj a o e).2.get) λob h=>?_;exact Heap.lt_size h
theorem Rep.fresh(R:Rep pr wo H bJ s V φ):V s.heap.objs.size=none:=by
 induction e:V s.heap.objs.size with
 |none=>rfl
 |some o=>exact absurd (R.lt e) (Nat.lt_irrefl _)
theorem Rep.GG(R:Rep pr wo H bJ s V φ){f:Addr×Fr}(hf:f∈φ){a:Addr}(ha:a∈d8 f):a<s.heap.objs.size:=by refine bK (((R.aZ f hf).1 a ha).2.2) λob h=>?_;exact Heap.lt_size h
theorem Rep.above(R:Rep pr wo H bJ s V φ){a:Addr}(h:s.heap.objs.size<=a):H.get? a=none/\V a=none/\∀f∈φ,a∉d8 f:=by
 refine aN ?_ ?_ (λf hf ha=>absurd (R.GG hf ha) (Nat.not_lt.mpr h))
 ·induction e:H.get? a with
  |none=>rfl
  |some o=>exact absurd (Heap.lt_size (R.base _ _ e)) (Nat.not_lt.mpr h)
 ·induction e:V a with
  |none=>rfl
  |some o=>exact absurd (R.lt e) (Nat.not_lt.mpr h)
theorem Rep.dK(R:Rep pr wo H bJ s V φ):H.get? s.heap.objs.size=none:=by
 induction e:H.get? s.heap.objs.size with
 |none=>rfl
 |some o=>exact absurd (Heap.lt_size (R.base _ _ e)) (Nat.lt_irrefl _)
theorem Rep.ij(R:Rep pr wo H bJ s V φ):∀f∈φ,s.heap.objs.size∉d8 f:=λf hf ha=>absurd (R.GG hf ha) (Nat.lt_irrefl _)
theorem Rep.keep(R:Rep pr wo H bJ s V φ){s':Shared}(k:∀b o,s.heap.get? b=some o->s'.heap.get? b=some o)(ho:s'.os=s.os)(hg:s'.gens=s.gens):Rep pr wo H bJ s' V φ:=by
 have t:TL s.heap s'.heap:=TL.keep k;refine⟨λb o e=>k _ _ (R.base b o e),ho.trans R.os,hg.trans R.gens,λa o e=>?_,λf hf=>?_,R.apart⟩
 ·refine aA (R.obj a o e) λh1 h2=>?_
  refine bK h2.get λob q=>?_;exact⟨h1,h2.keep t ((k _ _ q).trans q.symm)⟩
 ·refine aA (R.aZ f hf) λh1 h3=>?_
  refine⟨λa ha=>?_,h3.keep t λa ha=>?_⟩
  ·refine gq (h1 a ha) λa1 a2 ob a3=>?_;exact iQ a1 a2 ob (k _ _ a3)
  ·refine gq (h1 a ha) λ_ _ ob q=>?_;exact(k _ _ q).trans q.symm
theorem Rep.push(R:Rep pr wo H bJ s V φ)(o:Obj)(t:Nat):Rep pr wo H bJ {s with heap:=s.heap.push o,toks:=t} V φ:=
 R.keep (λ_ _ e=>Heap.get?_push_of_some o e) rfl rfl
theorem Rep.toks(R:Rep pr wo H bJ s V φ)(t:Nat):Rep pr wo H bJ {s with toks:=t} V φ:=R.keep (λ_ _ e=>e) rfl rfl
theorem Rep.leave{f:Addr×Fr}(R:Rep pr wo H bJ s V (f::φ)):Rep pr wo H bJ s V φ:=
 ⟨R.base,R.os,R.gens,R.obj,λg hg=>R.aZ g (.tail _ hg),R.apart.2.2.2⟩
theorem Rep.Ca{f g:Addr×Fr}(R:Rep pr wo H bJ s V (f::g::φ)):Rep pr wo H bJ s V (f::φ):=
 ⟨R.base,R.os,R.gens,R.obj,λy hy=>R.aZ y (by cases hy with|head=>exact .head _|tail _ h=>exact .tail _ (.tail _ h)),
  λa ha y hy=>R.apart.1 a ha y (.tail _ hy),λa ha y hy=>R.apart.2.1 a ha y (.tail _ hy),R.apart.2.2.1,R.apart.2.2.2.2.2.2⟩
theorem Rep.name(R:Rep pr wo H bJ s V φ){a:Addr}{o:AO}(hn:V a=none)(hf:∀f∈φ,a∉d8 f)(hb:H.get? a=none)(h:jV pr wo s.heap a o):Rep pr wo H bJ s (upd V a o) φ:=by
 refine⟨R.base,R.os,R.gens,λb ob e=>?_,λf OS=>?_,R.apart⟩
 ·by_cases q:b=a
  ·subst q;rw[ae] at e;obtain rfl:=sI e;exact⟨hb,h⟩
  ·rw[aB q] at e;exact R.obj b ob e
 ·refine aA (R.aZ f OS) λh1 h3=>?_
  refine⟨λb wD=>?_,h3⟩;refine bt (h1 b wD) λa1 a2 a3=>?_;exact(aN a1 (by refine J (aB (by rintro rfl;exact hf f OS wD)) ?_;exact a2) a3)
theorem Rep.change(R:Rep pr wo H bJ s V φ){a:Addr}{o o':AO}{s':Shared}(e:V a=some o)(hs:Heap.SameBut a s.heap s'.heap)(ho:s'.os=s.os)(hg:s'.gens=s.gens)(h:jV pr wo s'.heap a o'):
  TL s.heap s'.heap/\Rep pr wo H bJ s' (upd V a o') φ:=by
 have A:=R.obj a o e;have t:TL s.heap s'.heap:=TL.sameBut hs A.2.j7;refine⟨t,λb ob q=>?_,ho.trans R.os,hg.trans R.gens,λb ob q=>?_,λf hf=>?_,R.apart⟩
 ·have:b≠a:=λz=>by rw[z,A.1] at q;exact bL q
  exact(hs.2 b this).trans (R.base b ob q)
 ·by_cases z:b=a
  ·subst z;rw[ae] at q;obtain rfl:=sI q;exact⟨A.1,h⟩
  ·rw[aB z] at q
   refine aA (R.obj b ob q) λh1 h2=>?_;exact⟨h1,h2.keep t (hs.2 b z)⟩
 ·refine aA (R.aZ f hf) λh1 h3=>?_
  have z:∀b∈d8 f,b≠a:=λb hb z=>by have:=(h1 b hb).2.1;rw[z,e] at this;exact fB this
  refine⟨λb hb=>?_,h3.keep t λb hb=>hs.2 _ (z b hb)⟩;refine gq (h1 b hb) λa1 a2 ob a3=>?_;exact(iQ a1 (by refine J (aB (z b hb)) ?_;exact a2) ob ((hs.2 _ (z b hb)).trans a3))
theorem Rep.head{f f':Addr×Fr}{a:Addr}{s':Shared}(R:Rep pr wo H bJ s V (f::φ))(ha:a∈mD f)(hnt:∀items,¬IsTup s.heap a items)(hs:Heap.SameBut a s.heap s'.heap)(hex:∃ob,s'.heap.get? a=some ob)(ho:s'.os=s.os)(hg:s'.gens=s.gens)
  (h1:f'.1=f.1) (h2:mD f'=mD f) (h3:f'.2.cells=f.2.cells) (h:TL s.heap s'.heap->rT pr wo s'.heap f'.1 f'.2):TL s.heap s'.heap/\Rep pr wo H bJ s' V (f'::φ):=by
 have t:TL s.heap s'.heap:=TL.sameBut hs hnt;have A:=R.aZ f (.head _);have am:=A.1 a (g9 ha);have hm:d8 f'=d8 f:=by unfold d8;exact J h1 (J h3 rfl)
 refine⟨t,λb ob q=>?_,ho.trans R.os,hg.trans R.gens,λb ob q=>?_,λg OQ=>?_,?_⟩
 ·have:b≠a:=λz=>by rw[z,am.1] at q;exact bL q
  exact(hs.2 b this).trans (R.base b ob q)
 ·have z:b≠a:=λz=>by rw[z,am.2.1] at q;exact bL q
  refine aA (R.obj b ob q) λh1 h2=>?_;exact⟨h1,h2.keep t (hs.2 b z)⟩
 ·cases OQ with
  |head=>
   refine⟨λb hb=>?_,h t⟩;rw[hm] at hb;refine gq (A.1 b hb) λa1 a2 ob a3=>?_;refine aN a1 a2 ?_
   by_cases z:b=a
   ·subst z;exact hex
   ·exact⟨ob,(hs.2 _ z).trans a3⟩
  |tail _ OQ=>
   have z:∀b∈d8 g,b≠a:=λb hb z=>R.apart.1 a ha g OQ (z▸hb);refine aA (R.aZ g (.tail _ OQ)) λq1 q2=>?_;refine⟨λb hb=>?_,q2.keep t λb hb=>hs.2 _ (z b hb)⟩;refine gq (q1 b hb) λa1 a2 ob a3=>?_;exact iQ a1 a2 ob ((hs.2 _ (z b hb)).trans a3)
 ·exact(cj (by refine J h2 ?_;exact R.apart.1) (by refine J h3 ?_;exact R.apart.2.1) ⟨by refine J h1 (J h3 ?_);exact R.apart.2.2.1.1,by have:=R.apart.2.2.1.2;unfold mD at h2;rw[h1] at h2;refine J ((List.cons.inj h2).2) ?_;exact this⟩ R.apart.2.2.2)
theorem Rep.mid{pre:dG}{g g':Addr×Fr}{s':Shared}(R:Rep pr wo H bJ s V (pre++g::φ))(hc:g.2.cells=[])(Aa:g'.2.cells=[])(h1:g'.1=g.1)(hs:Heap.SameBut g.1 s.heap s'.heap)(hex:∃ob,s'.heap.get? g.1=some ob)(ho:s'.os=s.os)(hg:s'.gens=s.gens)
  (h:TL s.heap s'.heap->rT pr wo s'.heap g'.1 g'.2):TL s.heap s'.heap/\Rep pr wo H bJ s' V (pre++g'::φ):=by
 have qF:g∈pre++g::φ:=mem_append_right _ mem_cons_self;have G:=R.aZ g qF;have t:TL s.heap s'.heap:=TL.sameBut hs G.2.j7;have am:=G.1 g.1 mem_cons_self;have z:=oK R.apart hc
 have Gs:∀y:Addr×Fr,(g.1∉d8 y)->((∀a∈d8 y,H.get? a=none/\V a=none/\∃ob,s.heap.get? a=some ob)/\rT pr wo s.heap y.1 y.2)->
   ((∀a∈d8 y,H.get? a=none/\V a=none/\∃ob,s'.heap.get? a=some ob)/\rT pr wo s'.heap y.1 y.2):=λy z q=>by
  have z:∀b∈d8 y,b≠g.1:=λb hb e=>z (e▸hb);refine⟨λb hb=>?_,q.2.keep t λb hb=>hs.2 _ (z b hb)⟩;refine gq (q.1 b hb) λa1 a2 ob a3=>?_;exact iQ a1 a2 ob ((hs.2 _ (z b hb)).trans a3)
 refine⟨t,λb ob q=>?_,ho.trans R.os,hg.trans R.gens,λb ob q=>?_,λy hy=>?_,rf R.apart hc Aa h1⟩
 ·have:b≠g.1:=λz=>by rw[z,am.1] at q;exact bL q
  exact(hs.2 b this).trans (R.base b ob q)
 ·have z:b≠g.1:=λz=>by rw[z,am.2.1] at q;exact bL q
  refine aA (R.obj b ob q) λh1 h2=>?_;exact⟨h1,h2.keep t (hs.2 b z)⟩
 ·rcases mem_append.mp hy with hy|hy
  ·exact Gs y (z y (mem_append_left _ hy)) (R.aZ y (mem_append_left _ hy))
  ·rcases mem_cons.mp hy with rfl|hy
   ·refine⟨λb hb=>?_,h t⟩
    have mg':d8 y=[g.1]:=by unfold d8;refine J Aa (J h1 ?_);rfl
    rw[mg'] at hb;refine J (mem_singleton.mp hb) ?_;exact aN am.1 am.2.1 hex
   ·exact Gs y (z y (mem_append_right _ hy)) (R.aZ y (mem_append_right _ (mem_cons_of_mem _ hy)))
theorem Rep.nG{pre:dG}{g:Addr×Fr}{s':Shared}(R:Rep pr wo H bJ s V (pre++g::φ))(hc:g.2.cells=[])(hs:Heap.ExtBut g.1 s.heap s'.heap)(ho:s'.os=s.os)(hg:s'.gens=s.gens):TL s.heap s'.heap/\Rep pr wo H bJ s' V (pre++φ):=by
 have qF:g∈pre++g::φ:=mem_append_right _ mem_cons_self;have G:=R.aZ g qF;have am:=G.1 g.1 mem_cons_self;have z:=oK R.apart hc;have t:TL s.heap s'.heap:=λb items zf=>ah zf λo x1 x2=>(aj o (hs b o (by rintro rfl;exact G.2.j7 items (aj o x1 x2)) x1) x2);refine⟨t,λb ob q=>?_,ho.trans R.os,hg.trans R.gens,λb ob q=>?_,λy hy=>?_,oL R.apart⟩
 ·have:b≠g.1:=λz=>by rw[z,am.1] at q;exact bL q
  exact hs b _ this (R.base b ob q)
 ·have z:b≠g.1:=λz=>by rw[z,am.2.1] at q;exact bL q
  refine aA (R.obj b ob q) λh1 h2=>?_;refine bK h2.get λo q'=>?_;exact⟨h1,h2.keep t ((hs b o z q').trans q'.symm)⟩
 ·have z:∀b∈d8 y,b≠g.1:=λb hb e=>z y hy (e▸hb)
  obtain ⟨q1,q2⟩:=R.aZ y (by rcases mem_append.mp hy with hy|hy<;>simp[hy]);refine⟨λb hb=>?_,q2.keep t λb hb=>?_⟩
  ·refine gq (q1 b hb) λa1 a2 ob a3=>?_;exact iQ a1 a2 ob (hs b ob (z b hb) a3)
  ·refine gq (q1 b hb) λa1 a2 ob a3=>?_;exact(hs b ob (z b hb) a3).trans a3.symm
theorem Rep.show{pre:dG}{D:Addr}{o:AO}(R:Rep pr wo H bJ s V (pre++(D,.obj o)::φ)):V D=none/\Rep pr wo H bJ s (upd V D o) (pre++φ):=by have G:=R.aZ (D,.obj o) (mem_append_right _ mem_cons_self);have am:=G.1 D mem_cons_self;have z:=oK R.apart (g:=(D,.obj o)) rfl;have R':Rep pr wo H bJ s V (pre++φ):=⟨R.base,R.os,R.gens,R.obj,λy hy=>R.aZ y (by rcases mem_append.mp hy with hy|hy<;>simp[hy]),oL R.apart⟩;exact⟨am.2.1,R'.name am.2.1 z am.1 G.2⟩
theorem Rep.swap{f g:Addr×Fr}(R:Rep pr wo H bJ s V (g::f::φ))(hc:g.2.cells=[]):Rep pr wo H bJ s V (f::g::φ):=by
 have mg:d8 g=[g.1]:=by unfold d8;refine J hc ?_;rfl
 have z:g.1∉d8 f:=R.apart.1 g.1 mem_cons_self f (.head _);refine⟨R.base,R.os,R.gens,R.obj,λy hy=>R.aZ y ?_,λa ha y hy=>?_,λa ha y hy=>?_,R.apart.2.2.2.2.2.1,λa ha y hy=>R.apart.1 a ha y (.tail _ hy),λa ha y hy=>R.apart.2.1 a ha y (.tail _ hy),R.apart.2.2.1,R.apart.2.2.2.2.2.2⟩
 ·rcases mem_cons.mp hy with rfl|hy
  ·exact .tail _ (.head _)
  ·rcases mem_cons.mp hy with rfl|hy<;>simp[*]
 ·rcases mem_cons.mp hy with rfl|hy
  ·refine J mg ?_;intro q;rw[mem_singleton] at q;exact z (q▸g9 ha)
  ·exact R.apart.2.2.2.1 a ha y hy
 ·rcases mem_cons.mp hy with rfl|hy
  ·rintro rfl;exact z (mem_cons_of_mem _ ha)
  ·exact R.apart.2.2.2.2.1 a ha y hy
theorem Rep.less{L:Addr}{o:Bool}{cs:List (Str×Addr)}{m m':Map}(R:Rep pr wo H bJ s V ((L,.ns o cs m)::φ))(h:∀y p,dB m' y=some p->dB m y=some p):Rep pr wo H bJ s V ((L,.ns o cs m')::φ):=by
 have wk:∀{y:Str} {v:Option Value},rR s.heap (dB m y) v->rR s.heap (dB m' y) v:=λ{y v} x=>by
  induction q:dB m' y with
  |none=>exact .none
  |some p=>rw[h y p q] at x;exact x
 refine⟨R.base,R.os,R.gens,R.obj,λf hf=>?_,by induction o<;>exact R.apart⟩;rcases mem_cons.mp hf with rfl|hf
 ·refine iR (R.aZ _ (.head _)) λh1 nt mv hn hx hc=>?_
  exact(cj h1 nt ⟨mv,hn,λx gE=>wk (hx x gE)⟩ (λx a ha=>by refine ah (hc x a ha) λv q1 q2=>?_;exact(aj v q1 (wk q2))))
 ·exact R.aZ f (.tail _ hf)
theorem Rep.weak{L:Addr}{f:Fr}(R:Rep pr wo H bJ s V ((L,f)::φ))(h:rT pr wo s.heap L .uu):Rep pr wo H bJ s V ((L,.uu)::φ):=by
 refine⟨R.base,R.os,R.gens,R.obj,λy hy=>?_,λa ha y hy=>?_,λa ha=>?_,jF rfl,R.apart.2.2.2⟩
 ·rcases mem_cons.mp hy with rfl|hy
  ·exact⟨λa ha=>by have e:a=L:=mem_singleton.mp ha;refine J e ?_;exact(R.aZ _ (.head _)).1 L mem_cons_self,h⟩
  ·exact R.aZ y (.tail _ hy)
 ·have e:a=L:=mem_singleton.mp ha
  refine J e ?_;exact R.apart.1 L mem_cons_self y hy
 ·exact km ha
theorem Rep.enter{f:Addr×Fr}(R:Rep pr wo H bJ s V φ)(hm:∀a∈d8 f,H.get? a=none/\V a=none/\∃ob,s.heap.get? a=some ob)(ho:∀a∈mD f,∀g∈φ,a∉d8 g)(hc:∀a∈f.2.cells.map (·.2),∀g∈φ,a≠g.1)(hn:f.1∉f.2.cells.map (·.2)/\(f.2.owned.map (·.2)).Nodup)(h:rT pr wo s.heap f.1 f.2):Rep pr wo H bJ s V (f::φ):=by
 refine⟨R.base,R.os,R.gens,R.obj,λg hg=>?_,ho,hc,hn,R.apart⟩;cases hg with
 |head=>exact⟨hm,h⟩
 |tail _ q=>exact R.aZ g q
end
set_option genInjectivity false in
structure Cx where
 prog:Program
 w:World
 H:Heap
 bJ:OsState
 K:Frag
 mg:Str->Option Value
 mb:Str->Option Value
structure Cx.Ok (c:Cx):Prop where
 X:c.K.In c.H
 lim:c.H.NoLimit
 g:c.H.Ns mainGlobals c.mg
 b:c.H.Ns builtinsNs c.mb
 builtins:∀x,x≠("__name__":Str)->c.mb x=bootBuiltins x
noncomputable def ownOf(env:Env):Bool:=env.func.isSome&&env.cells.all (λx=>env.kindOf x.1==some .cell)
noncomputable abbrev aZ(env:Env)(m:Map):Addr×Fr:=(env.locals,.ns (ownOf env) env.cells m)
noncomputable def hX(env:Env)(x:Str):Bool:=env.scope.kind==.function&&match env.kindOf x with
 |some .local=>(env.cells.lookup x).isNone
 |some .cell=>(env.cells.lookup x).isSome
 |some .free=>(env.cells.lookup x).isSome&&!(x==("__classdict__":Str))
 |_=>false
noncomputable def setOk(env:Env)(x:Str):Bool:=env.scope.kind==.function&&match env.kindOf x with
 |some .local=>(env.cells.lookup x).isNone
 |some .cell=>(env.cells.lookup x).isSome&&ownOf env
 |_=>false
abbrev Rp(c:Cx)(s:Shared)(V:St)(φ:dG):Prop:=Rep c.prog c.w c.H c.bJ s V φ
noncomputable abbrev F0:Value->Shared->Prop:=λ_ _=>False
noncomputable abbrev Mo(c:Cx):Model:=model c.prog c.w
noncomputable def fo{α β:Type}(c:Cx)(φ:dG)(R:Heap->β->α->Prop)(h:Heap)(Q:β->St->Prop):α->Shared->Prop:=
 λv s'=>TL h s'.heap/\∃b σ',Rp c s' σ' φ/\R s'.heap b v/\Q b σ'
def WG{α β:Type}(c:Cx)(A:Around)(φ:dG)(R:Heap->β->α->Prop)(t:Sem α)(V:St)(Q:β->St->Prop):Prop:=
 ∀s,Rp c s V φ->wpAny (Mo c) A t (fo c φ R s.heap Q) F0 s
def WL{α β:Type}(c:Cx)(A:Around)(φ:dG)(R:Heap->β->α->Prop)(f:List Value->Sem α)(ps:List PV)(V:St)(Q:β->St->Prop):Prop:=
 ∀s vs,Rp c s V φ->dD s.heap ps vs->wpAny (Mo c) A (f vs) (fo c φ R s.heap Q) F0 s
def W1{α β:Type}(c:Cx)(A:Around)(φ:dG)(R:Heap->β->α->Prop)(f:Value->Sem α)(a:PV)(V:St)(Q:β->St->Prop):Prop:=
 ∀s va,Rp c s V φ->Vr s.heap a va->wpAny (Mo c) A (f va) (fo c φ R s.heap Q) F0 s
def W2{α β:Type}(c:Cx)(A:Around)(φ:dG)(R:Heap->β->α->Prop)(f:Value->Value->Sem α)(a b:PV)(V:St)(Q:β->St->Prop):Prop:=
 ∀s va vb,Rp c s V φ->Vr s.heap a va->Vr s.heap b vb->wpAny (Mo c) A (f va vb) (fo c φ R s.heap Q) F0 s
def W3{α β:Type}(c:Cx)(A:Around)(φ:dG)(R:Heap->β->α->Prop)(f:Value->Value->Value->Sem α)(a b d:PV)(V:St)(Q:β->St->Prop):Prop:=
 ∀s va vb vd,Rp c s V φ->Vr s.heap a va->Vr s.heap b vb->Vr s.heap d vd->wpAny (Mo c) A (f va vb vd) (fo c φ R s.heap Q) F0 s
noncomputable abbrev RB:Heap->Bool->Bool->Prop:=λ_ b v=>b=v
noncomputable abbrev RU:Heap->Unit->Unit->Prop:=λ_ _ _=>True
set_option genInjectivity false in
inductive AF where
 |next|brk|cont
 |ret (v:PV)
inductive RF (h:Heap):AF->Flow->Prop
 |next:RF h .next .next
 |brk:RF h .brk .brk
 |cont:RF h .cont .cont
 |ret {p:PV} {v:Value} (x:Vr h p v):RF h (.ret p) (.ret v)
noncomputable def jr(c:Cx)(φ:dG)(env:Env)(h:Heap)(Q:AF->Map->St->Prop):Flow->Shared->Prop:=
 λfl s'=>TL h s'.heap/\∃a m' σ',Rp c s' σ' (aZ env m'::φ)/\RF s'.heap a fl/\Q a m' σ'
def WX(c:Cx)(A:Around)(φ:dG)(env:Env)(t:Sem Flow)(m:Map)(V:St)(Q:AF->Map->St->Prop):Prop:=
 ∀s,Rp c s V (aZ env m::φ)->wpAny (Mo c) A t (jr c φ env s.heap Q) F0 s
noncomputable def Oc(c:Cx)(φ:dG)(env:Env)(h:Heap)(Q:Map->St->Prop):Unit->Shared->Prop:=
 λ_ s'=>TL h s'.heap/\∃m' σ',Rp c s' σ' (aZ env m'::φ)/\Q m' σ'
section
variable {α β γ δ:Type} {c:Cx} {A:Around} {φ:dG} {V:St} {s:Shared}
theorem fo.lift{R:Heap->β->α->Prop}{h h':Heap}{Q:β->St->Prop}{t:Sem α}(k:TL h h')(x:wpAny (Mo c) A t (fo c φ R h' Q) F0 s):wpAny (Mo c) A t (fo c φ R h Q) F0 s:=
 wpAny_mono x (λ_ _ zf=>aA zf λa b=>⟨k.trans a,b⟩) λ_ _ y=>y
theorem jr.lift{env:Env}{h h':Heap}{Q:AF->Map->St->Prop}{t:Sem Flow}(k:TL h h')(x:wpAny (Mo c) A t (jr c φ env h' Q) F0 s):wpAny (Mo c) A t (jr c φ env h Q) F0 s:=
 wpAny_mono x (λ_ _ zf=>aA zf λa b=>⟨k.trans a,b⟩) λ_ _ y=>y
theorem WG.seq{R:Heap->β->α->Prop}{t:Sem α}{Q:β->St->Prop}{G:α->Shared->Prop}(h:WG c A φ R t V Q)(hR:Rp c s V φ)
  (k:∀a b σ₁ aM,TL s.heap aM.heap->Rp c aM σ₁ φ->R aM.heap b a->Q b σ₁->G a aM):wpAny (Mo c) A t G F0 s:=
 wpAny_mono (h s hR) (λa aM zf=>aR zf λt b σ₁ r x q=>k a b σ₁ aM t r x q) λ_ _ y=>y
theorem WG.mono{R:Heap->β->α->Prop}{t:Sem α}{Q Q':β->St->Prop}(h:WG c A φ R t V Q)(k:∀b σ',Q b σ'->Q' b σ'):WG c A φ R t V Q':=
 λs hR=>wpAny_mono (h s hR) (λ_ _ zf=>aR zf λt b σ₁ r x q=>(af t b σ₁ r x (k _ _ q))) λ_ _ y=>y
theorem WX.mono{env:Env}{t:Sem Flow}{m:Map}{Q Q':AF->Map->St->Prop}(h:WX c A φ env t m V Q)(k:∀a m' σ',Q a m' σ'->Q' a m' σ'):WX c A φ env t m V Q':=
 λs hR=>wpAny_mono (h s hR) (λ_ _ zf=>eR zf λt a m' σ₁ r x q=>(bS t a m' σ₁ r x (k _ _ _ q))) λ_ _ y=>y
theorem WX.less{env:Env}{t:Sem Flow}{m m':Map}{Q:AF->Map->St->Prop}(k:∀y p,dB m' y=some p->dB m y=some p)(h:WX c A φ env t m' V Q):WX c A φ env t m V Q:=λs hR=>h s (Rep.less hR k)
theorem WX.seq{env:Env}{t:Sem Flow}{m:Map}{Q:AF->Map->St->Prop}{G:Flow->Shared->Prop}(h:WX c A φ env t m V Q)(hR:Rp c s V (aZ env m::φ))
  (k:∀fl a m₁ σ₁ aM,TL s.heap aM.heap->Rp c aM σ₁ (aZ env m₁::φ)->RF aM.heap a fl->Q a m₁ σ₁->G fl aM):wpAny (Mo c) A t G F0 s:=
 wpAny_mono (h s hR) (λa aM zf=>eR zf λt b m₁ σ₁ r x q=>k a b m₁ σ₁ aM t r x q) λ_ _ y=>y
end
abbrev WE(c:Cx)(A:Around)(φ:dG)(env:Env)(m:Map)(e:Expr)(V:St)(Q:PV->St->Prop):Prop:=
 WG c A (aZ env m::φ) Vr (eval e env) V Q
abbrev WT(c:Cx)(A:Around)(φ:dG)(env:Env)(m:Map)(e:Expr)(V:St)(Q:Bool->St->Prop):Prop:=
 WG c A (aZ env m::φ) RB (isTrue e env (eval e env)) V Q
abbrev WA(c:Cx)(A:Around)(φ:dG)(env:Env)(m:Map)(pos:Pos)(es:List Expr)(V:St)(Q:List PV->St->Prop):Prop:=
 WG c A (aZ env m::φ) dD (spliced (backTo pos (starEach es env))) V Q
abbrev WS(c:Cx)(A:Around)(φ:dG)(env:Env)(st:Stmt)(m:Map)(V:St)(Q:AF->Map->St->Prop):Prop:=
 WX c A φ env (exec st env) m V Q
abbrev pg(c:Cx)(A:Around)(φ:dG)(env:Env)(st:List Stmt)(m:Map)(V:St)(Q:AF->Map->St->Prop):Prop:=
 WX c A φ env (execs st env) m V Q
section
variable {c:Cx} {A:Around} {φ:dG} {env:Env} {m:Map} {V:St}
theorem C8{i:Int}{k pos}{Q:PV->St->Prop}(h:Q (.int i) V):WE c A φ env m (.Constant (.int i) k pos) V Q:=
 λs hR=>wpAny_Constant_int (af (TL.refl _) _ V (hR.toks _) (.int i _) h)
theorem Nz{x:Str}{k pos}{Q:PV->St->Prop}(h:Q (.str x) V):WE c A φ env m (.Constant (.str x) k pos) V Q:=
 λs hR=>Constant_str (af (TL.refl _) _ V (hR.toks _) (.str x _) h)
theorem Jk{b:Bool}{k pos}{Q:PV->St->Prop}(h:Q (.bool b) V):WE c A φ env m (.Constant (.bool b) k pos) V Q:=
 λs hR=>Constant_bool (af (TL.refl _) _ V hR (.bool b) h)
theorem Jj{k pos}{Q:PV->St->Prop}(h:Q .none V):WE c A φ env m (.Constant .none k pos) V Q:=
 λs hR=>Constant_none (af (TL.refl _) _ V hR .none h)
theorem nr{x:Str}{p:PV}{Q:PV->St->Prop}(hl:hX env x=true)(hv:dB m x=some p)(h:Q p V):
  WG c A (aZ env m::φ) Vr (loadName env x) V Q:=λs hR=>by
 refine iR (hR.aZ _ (.head _)) λ_ nt mv hn hx hc=>?_;unfold hX at hl;simp only[Bool.and_eq_true,beq_iff_eq] at hl;refine aA hl λhk hl=>?_
 have GO:∀a,env.cells.lookup x=some a->∃v,s.heap.IsCell a (some v)/\Vr s.heap p v:=λa ha=>by
  refine ah (hc x a ha) λv h1 h2=>?_;rw[hv] at h2;cases h2 with
  |some r=>exact(aj _ h1 r)
 split at hl
 ·rename_i hq
  have hy:=hx x (Option.isNone_iff_eq_none.mp hl);rw[hv] at hy;induction q:mv x with
  |none=>rw[q] at hy;cases hy
  |some v=>rw[q] at hy;cases hy with|some r=>exact wpAny_loadName_local hk hq hn q (af (TL.refl _) p V hR r h)
 ·rename_i hq
  refine bK (Option.isSome_iff_exists.mp hl) λa ha=>?_;refine ah (GO a ha) λv h1 h2=>?_;exact wpAny_loadName_cell hk hq ha h1 (af (TL.refl _) p V hR h2 h)
 ·rename_i hq
  rw[(Bool.and_eq_true _ _),(Bool.not_eq_true' _)] at hl;refine bK (Option.isSome_iff_exists.mp hl.1) λa ha=>?_;refine ah (GO a ha) λv h1 h2=>?_;exact wpAny_loadName_free hk hq ha h1 (af (TL.refl _) p V hR h2 h) hl.2
 ·exact iD hl
theorem jm{x:Str}{pos:Pos}{p:PV}{Q:PV->St->Prop}(hl:hX env x=true)(hd:(x==("__debug__":Str))=false)(hv:dB m x=some p)(h:Q p V):
  WE c A φ env m (.Name x pos) V Q:=λs hR=>wpAny_Name (nr hl hv h s hR) hd
theorem xq(ok:c.Ok){x:Str}{pos:Pos}{v:Value}{p:PV}{Q:PV->St->Prop}(hk:env.scope.kind=.function)(hl:env.kindOf x=some .globalImplicit)(hg:env.globals=mainGlobals)(hd:(x==("__debug__":Str))=false)
  (hv:nsIn c.K mainGlobals x=some (some v)) (hp:Vr c.H p v) (h:Q p V):WE c A φ env m (.Name x pos) V Q:=λs hR=>
 Name_function_global hk hl (loadGlobal_global (by refine J hg ?_;exact ok.g.keeps hR.base) (mg_of ok.X ok.g hv) (af (TL.refl _) p V hR (hp.mono (TL.keep hR.base)) h)) hd
theorem yW{l op r pos}{Q:PV->St->Prop}(h:WE c A φ env m l V λa σ₁=>WE c A φ env m r σ₁ λb ay=>W2 c A (aZ env m::φ) Vr (binaryOp op) a b ay Q):
  WE c A φ env m (.BinOp l op r pos) V Q:=λs hR=>wpAny_BinOp (h.seq hR λva a σ₁ aM aS aT bo bf=>bf.seq aT λvb b ay bY bM cV fe fm=>
   (fo.lift (aS.trans bM) (fm bY va vb cV (bo.mono bM) fe)))
theorem Al{l op r pos}{Q:PV->St->Prop}(h:WE c A φ env m l V λa σ₁=>WE c A φ env m r σ₁ λb ay=>W2 c A (aZ env m::φ) Vr (compareOp op) a b ay Q)
  (hm:behindInMarks op r=false:=by rfl):WE c A φ env m (.Compare l [op] [r] pos) V Q:=λs hR=>wpAny_Compare1 (h.seq hR λva a σ₁ aM aS aT bo bf=>bf.seq aT λvb b ay bY bM cV fe fm=>
   (fo.lift (aS.trans bM) (fm bY va vb cV (bo.mono bM) fe))) hm
theorem Ak{op x pos}{Q:PV->St->Prop}(h:WE c A φ env m x V λa σ₁=>W1 c A (aZ env m::φ) Vr (unaryOp op) a σ₁ Q):WE c A φ env m (.UnaryOp op x pos) V Q:=
 λs hR=>UnaryOp_ (h.seq hR λva a σ₁ aM aS aT bo bf=>(fo.lift aS (bf aM va aT bo)))
theorem yU{test body orelse pos}{Q:PV->St->Prop}(h:WT c A φ env m test V λb σ₁=>if b=true then WE c A φ env m body σ₁ Q else WE c A φ env m orelse σ₁ Q):WE c A φ env m (.IfExp test body orelse pos) V Q:=
 λs hR=>IfExp_ (h.seq hR λv b σ₁ aM aS aT bo bf=>by
  obtain rfl:b=v:=bo
  split
  ·rename_i hb;simp only[if_pos hb] at bf;exact fo.lift aS (bf aM aT)
  ·rename_i hb;simp only[if_neg hb] at bf;exact(fo.lift aS (bf aM aT)))
theorem NB{CZ CY rest pos}{Q:PV->St->Prop}(h:WE c A φ env m CZ V λa σ₁=>W1 c A (aZ env m::φ) RB truthy a σ₁ λb ay=>if b=true then WE c A φ env m (.BoolOp .And (CY::rest) pos) ay Q else Q a ay):
  WE c A φ env m (.BoolOp .And (CZ::CY::rest) pos) V Q:=λs hR=>BoolOp_and (h.seq hR λva a σ₁ aM aS aT bo bf=>wpAny_mono (bf aM va aT bo) (λv bY zf=>aR zf λbM b ay cV fe fm=>by
   obtain rfl:b=v:=fe
   split
   ·rename_i hb;simp only[if_pos hb] at fm;exact fo.lift (aS.trans bM) (fm bY cV)
   ·rename_i hb;simp only[if_neg hb] at fm;exact(af (aS.trans bM) a ay cV (bo.mono bM) fm)) λ_ _ y=>y)
theorem ZN{CZ CY rest pos}{Q:PV->St->Prop}(h:WE c A φ env m CZ V λa σ₁=>W1 c A (aZ env m::φ) RB truthy a σ₁ λb ay=>if b=true then Q a ay else WE c A φ env m (.BoolOp .Or (CY::rest) pos) ay Q):
  WE c A φ env m (.BoolOp .Or (CZ::CY::rest) pos) V Q:=λs hR=>BoolOp_or (h.seq hR λva a σ₁ aM aS aT bo bf=>wpAny_mono (bf aM va aT bo) (λv bY zf=>aR zf λbM b ay cV fe fm=>by
   obtain rfl:b=v:=fe
   split
   ·rename_i hb;simp only[if_pos hb] at fm;exact af (aS.trans bM) a ay cV (bo.mono bM) fm
   ·rename_i hb;simp only[if_neg hb] at fm;exact(fo.lift (aS.trans bM) (fm bY cV))) λ_ _ y=>y)
theorem Jl{op e pos}{Q:PV->St->Prop}(h:WE c A φ env m e V Q):WE c A φ env m (.BoolOp op [e] pos) V Q:=λs hR=>BoolOp_one (h s hR)
theorem r0{l op r pos}{Q:Bool->St->Prop}(h:WE c A φ env m l V λa σ₁=>WE c A φ env m r σ₁ λb ay=>W2 c A (aZ env m::φ) Vr (compareOp op) a b ay λd aD=>W1 c A (aZ env m::φ) RB truthy d aD Q)
  (hm:behindInMarks op r=false:=by rfl):WT c A φ env m (.Compare l [op] [r] pos) V Q:=λs hR=>wpAny_isTrue_Compare1 (h.seq hR λva a σ₁ aM aS aT bo bf=>bf.seq aT λvb b ay bY bM cV fe fm=>
   wpAny_mono (fm bY va vb cV (bo.mono bM) fe) (λv d6 zf=>aR zf λc5 d aD cU jB qm=>(fo.lift ((aS.trans bM).trans c5) (qm d6 v cU jB))) λ_ _ y=>y) hm
theorem Kq{x pos}{Q:Bool->St->Prop}(h:WT c A φ env m x V λb σ₁=>Q (!b) σ₁):WT c A φ env m (.UnaryOp .Not x pos) V Q:=λs hR=>isTrue_not (h.seq hR λv b σ₁ aM aS aT bo bf=>by obtain rfl:b=v:=bo;exact(af aS _ σ₁ aT rfl bf))
theorem Kr{x rest pos}{Q:Bool->St->Prop}(h:WT c A φ env m x V λb σ₁=>if b=true then WT c A φ env m (.BoolOp .And rest pos) σ₁ Q else Q false σ₁):WT c A φ env m (.BoolOp .And (x::rest) pos) V Q:=λs hR=>
 isTrue_and (h.seq hR λv b σ₁ aM aS aT bo bf=>by
  obtain rfl:b=v:=bo
  split
  ·rename_i hb;simp only[if_pos hb] at bf;exact fo.lift aS (bf aM aT)
  ·rename_i hb;simp only[if_neg hb] at bf;exact(af aS _ σ₁ aT rfl bf))
theorem Pr{x rest pos}{Q:Bool->St->Prop}(h:WT c A φ env m x V λb σ₁=>if b=true then Q true σ₁ else WT c A φ env m (.BoolOp .Or rest pos) σ₁ Q):WT c A φ env m (.BoolOp .Or (x::rest) pos) V Q:=λs hR=>
 isTrue_or (h.seq hR λv b σ₁ aM aS aT bo bf=>by
  obtain rfl:b=v:=bo
  split
  ·rename_i hb;simp only[if_pos hb] at bf;exact af aS _ σ₁ aT rfl bf
  ·rename_i hb;simp only[if_neg hb] at bf;exact(fo.lift aS (bf aM aT)))
theorem Hl{pos}{Q:Bool->St->Prop}(h:Q true V):WT c A φ env m (.BoolOp .And [] pos) V Q:=λs hR=>isTrue_and_nil (af (TL.refl _) _ V hR rfl h)
theorem Ko{pos}{Q:Bool->St->Prop}(h:Q false V):WT c A φ env m (.BoolOp .Or [] pos) V Q:=λs hR=>isTrue_or_nil (af (TL.refl _) _ V hR rfl h)
theorem xV{e:Expr}{Q:Bool->St->Prop}(h:WE c A φ env m e V λa σ₁=>W1 c A (aZ env m::φ) RB truthy a σ₁ Q)
  (he:isTrue e env (eval e env)=(do let v<-eval e env;standAt e.pos;holding [v] (truthy v)):=by rfl):WT c A φ env m e V Q:=λs hR=>
 isTrue_plain (h.seq hR λva a σ₁ aM aS aT bo bf=>(fo.lift aS (bf aM va aT bo))) he
theorem DC{pos}{Q:List PV->St->Prop}(h:Q [] V):WA c A φ env m pos [] V Q:=λs hR=>spliced_nil (af (TL.refl _) _ V hR .nil h)
theorem xD{pos}{e:Expr}{es:List Expr}{Q:List PV->St->Prop}(h:WE c A φ env m e V λa σ₁=>WA c A φ env m pos es σ₁ λas ay=>Q (a::as) ay)
  (hs:starEach (e::es) env=(false,eval e env)::starEach es env:=by rfl):WA c A φ env m pos (e::es) V Q:=λs hR=>by
 refine J hs ?_;refine spliced_cons (h.seq hR λva a σ₁ aM aS aT bo bf=>bf.seq aT λvs as ay bY bM cV fe fm=>(af (aS.trans bM) _ ay cV (.cons (bo.mono bM) fe) fm))
theorem Fj{elts k pos}{Q:PV->St->Prop}(h:WA c A φ env m pos elts V λps σ₁=>ps.length<=sizeLine/\Q (.tup ps) σ₁):WE c A φ env m (.Tuple elts k pos) V Q:=λs hR=>
 Tuple_ (h.seq hR λvs ps σ₁ aM aS aT bo bf=>wpAny_newTuple ⟨aS.trans (TL.push _ _),_,σ₁,aT.push _ _,
  .tup ⟨_,Heap.get?_push_size _ rfl,rfl,_,rfl⟩ (by simpa using bo.mono (TL.push _ _)),bf.2⟩ (by refine rS bo.length ?_;exact bf.1))
theorem pM{φ:dG}{s:Shared}{ps:List PV}{vs:List Value}(hR:Rp c s V φ)(hv:dD s.heap ps vs):
  Rp c {s with heap:=s.heap.push {cls:=.type "list",data:=.seq vs.toArray}} (upd V s.heap.objs.size (.lst ps)) φ:=
 (hR.push _ _).name hR.fresh (hR.ij) hR.dK ⟨_,_,Heap.get?_push_size _ rfl,by simpa using hv.mono (TL.push _ _)⟩
theorem su{φ:dG}{ps:List PV}{Q:PV->St->Prop}(hz:ps.length<=sizeLine)(h:∀a,V a=none->Q (.ref a) (upd V a (.lst ps))):WL c A φ Vr newList ps V Q:=λs vs hR hv=>
 wpAny_newList ⟨TL.push _ _,_,_,pM hR hv,.ref _,h _ hR.fresh⟩ (by refine rS hv.length ?_;exact hz)
theorem Dc{elts pos}{Q:PV->St->Prop}(h:WA c A φ env m pos elts V λps σ₁=>WL c A (aZ env m::φ) Vr newList ps σ₁ Q):WE c A φ env m (.List elts pos) V Q:=λs hR=>
 List_ (h.seq hR λvs ps σ₁ aM aS aT bo bf=>(fo.lift aS (bf aM vs aT bo)))
theorem C9{value slice pos}{Q:PV->St->Prop}(h:WE c A φ env m value V λa σ₁=>WE c A φ env m slice σ₁ λb ay=>W2 c A (aZ env m::φ) Vr (subscriptTail value slice) a b ay Q):
  WE c A φ env m (.Subscript value slice pos) V Q:=λs hR=>Subscript_ (h.seq hR λva a σ₁ aM aS aT bo bf=>bf.seq aT λvb b ay bY bM cV fe fm=>(fo.lift (aS.trans bM) (fm bY va vb cV (bo.mono bM) fe)))
theorem Jn{value:Expr}{attr:Str}{pos}{Q:PV->St->Prop}(h:WE c A φ env m value V λa σ₁=>W1 c A (aZ env m::φ) Vr (λo=>getAttr o attr true) a σ₁ Q)
  (he:eval (value.Attribute attr pos) env=(do
     let o<-eval value env
     standAt pos.atName
     let r<-holding [o] (getAttr o attr true)
     letTemporaryGo value o r
     pure r):=by rfl):WE c A φ env m (.Attribute value attr pos) V Q:=λs hR=>
 Attribute_any_ (h.seq hR λva a σ₁ aM aS aT bo bf=>(fo.lift aS (bf aM va aT bo))) he
abbrev aw(c:Cx)(A:Around)(φ:dG)(f:Value)(ps:List PV)(V:St)(Q:PV->St->Prop):Prop:=WL c A φ Vr (λvs=>call f vs) ps V Q
def Keeps(c:Cx)(f:Value):Prop:=∀h:Heap,c.K.In h->∃k,(k=Keeper.frame∨k=Keeper.machine∨k=Keeper.boundFrame)/\Looks (Mo c) h (keeperOf f) k
theorem ic{f:Value}(hk:keepIn c.K f=true):Keeps c f:=keeps_K hk
theorem a9{id:String}:Keeps c (.builtin id):=λ_ _=>⟨.machine,.inr (.inl rfl),λ_ _ _ _ _ h=>wpAny_pure h⟩
theorem Cc{T:String}:Keeps c (.type T):=λ_ _=>⟨.machine,.inr (.inl rfl),λ_ _ _ _ _ h=>wpAny_pure h⟩
theorem q0(ok:c.Ok){φ:dG}{pos:Pos}{f:Value}{first:List Value}{fs:List PV}{e:Expr}{es:List Expr}{s:Shared}{Q:PV->St->Prop}(hk:Keeps c f)(hR:Rp c s V (aZ env m::φ))(hf:dD s.heap fs first)
  (h:WA c A φ env m pos (e::es) V λps σ₁=>aw c A (aZ env m::φ) f (fs++ps) σ₁ Q) (he:starEach (e::es) env=(false,eval e env)::starEach es env) (hs:(backTo pos (starEach es env)).any (·.1)=false):
  wpAny (Mo c) A (callWith pos f first (backTo pos (starEach (e::es) env)) []) (fo c (aZ env m::φ) Vr s.heap Q) F0 s:=by
 have go:wpAny (Mo c) A (spliced (backTo pos (starEach (e::es) env))) (λvs s'=>c.K.In s'.heap/\wpAny (Mo c) A (call f (first++vs) []) (fo c (aZ env m::φ) Vr s.heap Q) F0 s') F0 s:=
  h.seq hR λvs ps σ₁ aM aS aT bo bf=>⟨ok.X.keeps aT.base,fo.lift aS (bf aM _ aT ((hf.mono aS).append bo))⟩
 rw[he] at go ⊢;exact callWith_of (P:=c.K.In) (by show ((false||(backTo pos (starEach es env)).any (·.1))||false)=false;refine J hs ?_;rfl) hk (evalArgs_plain go)
theorem pb(ok:c.Ok){φ:dG}{pos:Pos}{f:Value}{first:List Value}{fs:List PV}{s:Shared}{Q:PV->St->Prop}(hk:Keeps c f)(hR:Rp c s V φ)(hf:dD s.heap fs first)
  (h:aw c A φ f fs V Q):wpAny (Mo c) A (callWith pos f first (backTo pos (starEach [] env)) []) (fo c φ Vr s.heap Q) F0 s:=
 callWith_of (P:=c.K.In) rfl hk (evalArgs_nil3 ⟨ok.X.keeps hR.base,by refine J (append_nil _) ?_;exact h s first hR hf⟩)
theorem name_val(ok:c.Ok){x:Str}{p:Pos}{v:Value}{φ:dG}{s:Shared}{G:Value->Shared->Prop}(hk:env.scope.kind=.function)(hl:env.kindOf x=some .globalImplicit)(hg:env.globals=mainGlobals)(hb:env.builtins=builtinsNs)
  (hd:(x==("__debug__":Str))=false) (hv:nsIn c.K mainGlobals x=some (some v)∨(nsIn c.K mainGlobals x=some none/\bootBuiltins x=some v/\x≠("__name__":Str))) (hR:Rp c s V φ) (h:G v s):
  wpAny (Mo c) A (eval (.Name x p) env) G F0 s:=by
 refine Name_function_global hk hl ?_ hd;rcases hv with hv|⟨h1,h2,h3⟩
 ·exact loadGlobal_global (by refine J hg ?_;exact ok.g.keeps hR.base) (mg_of ok.X ok.g hv) h
 ·exact loadGlobal_builtin (by refine J hg ?_;exact ok.g.keeps hR.base) (mg_none_of ok.X ok.g h1) (by refine J hb ?_;exact ok.b.keeps hR.base) ((ok.builtins x h3).trans h2) h
theorem pR(ok:c.Ok){x:Str}{p pos:Pos}{v:Value}{e:Expr}{es:List Expr}{Q:PV->St->Prop}(hk:env.scope.kind=.function)(hl:env.kindOf x=some .globalImplicit)(hg:env.globals=mainGlobals)(hb:env.builtins=builtinsNs)
  (hd:(x==("__debug__":Str))=false) (hv:nsIn c.K mainGlobals x=some (some v)∨(nsIn c.K mainGlobals x=some none/\bootBuiltins x=some v/\x≠("__name__":Str))) (IX:Keeps c v)
  (h:WA c A φ env m pos (e::es) V λps σ₁=>aw c A (aZ env m::φ) v ps σ₁ Q)
  (he:starEach (e::es) env=(false,eval e env)::starEach es env:=by rfl) (hs:(backTo pos (starEach es env)).any (·.1)=false:=by rfl):WE c A φ env m (.Call (.Name x p) (e::es) [] pos) V Q:=λs hR=>
 Call_Name rfl (name_val ok hk hl hg hb hd hv hR (q0 ok IX hR .nil h he hs))
theorem Dd(ok:c.Ok){x:Str}{p pos:Pos}{v:Value}{Q:PV->St->Prop}(hk:env.scope.kind=.function)(hl:env.kindOf x=some .globalImplicit)(hg:env.globals=mainGlobals)(hb:env.builtins=builtinsNs)
  (hd:(x==("__debug__":Str))=false) (hv:nsIn c.K mainGlobals x=some (some v)∨(nsIn c.K mainGlobals x=some none/\bootBuiltins x=some v/\x≠("__name__":Str))) (IX:Keeps c v)
  (h:aw c A (aZ env m::φ) v [] V Q):WE c A φ env m (.Call (.Name x p) [] [] pos) V Q:=λs hR=>
 Call_Name rfl (name_val ok hk hl hg hb hd hv hR (pb ok IX hR .nil h))
def Meth(c:Cx)(A:Around)(φ:dG)(V:St)(a:PV)(name:Str)(f:Value)(fs:List PV):Prop:=
 ∀s va,Rp c s V φ->Vr s.heap a va->∀(pl:Sem Bool) (G:Value×List Value->Shared->Prop),(∀first,dD s.heap fs first->G (f,first) s)->wpAny (Mo c) A (getMethod va name pl) G F0 s
theorem Jm(ok:c.Ok){o:Expr}{name:Str}{apos pos:Pos}{e:Expr}{es:List Expr}{pl:Sem Bool}{Q:PV->St->Prop}
  (h:WE c A φ env m o V λa σ₁=>∃f fs,Meth c A (aZ env m::φ) σ₁ a name f fs/\Keeps c f/\WA c A φ env m pos (e::es) σ₁ λps ay=>aw c A (aZ env m::φ) f (fs++ps) ay Q)
  (heq:eval ((o.Attribute name apos).Call (e::es) [] pos) env=(do
     let ov<-eval o env
     standAt apos.atName
     let N8<-holding [ov] (getMethod ov name pl)
     match N8 with
      |(f,first)=>callWith pos f first (backTo pos (starEach (e::es) env)) []):=by rfl)
  (he:starEach (e::es) env=(false,eval e env)::starEach es env:=by rfl) (hs:(backTo pos (starEach es env)).any (·.1)=false:=by rfl):WE c A φ env m (.Call (.Attribute o name apos) (e::es) [] pos) V Q:=λs hR=>
 MethodCall_ (h.seq hR λva a σ₁ aM aS aT bo zf=>aV zf λf fs hm hk bf=>hm aM va aT bo _ _ λfirst hf=>fo.lift aS (q0 ok hk aT hf bf he hs)) heq
theorem Fm(ok:c.Ok){o:Expr}{name:Str}{apos pos:Pos}{pl:Sem Bool}{Q:PV->St->Prop}
  (h:WE c A φ env m o V λa σ₁=>∃f fs,Meth c A (aZ env m::φ) σ₁ a name f fs/\Keeps c f/\aw c A (aZ env m::φ) f fs σ₁ Q)
  (heq:eval ((o.Attribute name apos).Call [] [] pos) env=(do
     let ov<-eval o env
     standAt apos.atName
     let N8<-holding [ov] (getMethod ov name pl)
     match N8 with
      |(f,first)=>callWith pos f first (backTo pos (starEach [] env)) []):=by rfl):WE c A φ env m (.Call (.Attribute o name apos) [] [] pos) V Q:=λs hR=>
 MethodCall_ (h.seq hR λva a σ₁ aM aS aT bo zf=>aV zf λf fs hm hk bf=>hm aM va aT bo _ _ λfirst hf=>fo.lift aS (pb ok hk aT hf bf)) heq
theorem KA{Q:AF->Map->St->Prop}(h:Q .next m V):pg c A φ env [] m V Q:=λs hR=>wpAny_execs_nil ⟨TL.refl _,_,_,_,hR,.next,h⟩
theorem tG{st:Stmt}{rest:List Stmt}{Q:AF->Map->St->Prop}(h:WS c A φ env st m V λa m' σ'=>match a with|.next=>pg c A φ env rest m' σ' Q|a=>Q a m' σ'):pg c A φ env (st::rest) m V Q:=λs hR=>
 wpAny_execs_cons (WX.seq h hR λfl a m₁ σ₁ aM aS aT bo bf=>by
  cases bo with
  |next=>exact jr.lift aS (bf aM aT)
  |brk=>exact⟨aS,_,_,_,aT,.brk,bf⟩
  |cont=>exact⟨aS,_,_,_,aT,.cont,bf⟩
  |ret x=>exact⟨aS,_,_,_,aT,.ret x,bf⟩)
theorem kQ{h:Heap}{L:Addr}{mv:Str->Option Value}(hn:h.Ns L mv):∀items,¬IsTup h L items:=λitems zf=>fQ zf λo h1 h2 n h3=>by refine sQ hn λo' es ep q1 q2 _=>?_;clear hn;rw[h1] at q1;obtain rfl:=sI q1;rw[q2] at h3;exact sL h3
theorem eO{x y:Str}{p:PV}(e:y≠x):dB (bh m x p) y=dB m y:=by exact J (d9 _ _ _ _) (J (if_neg e) rfl)
theorem u9{m m':Map}:mD (aZ env m)=mD (aZ env m'):=by unfold mD aZ;induction ownOf env<;>rfl
theorem vZ{cs:List (Str×Addr)}(nd:(cs.map (·.2)).Nodup):cs.Pairwise λx y=>x.2≠y.2:=pairwise_map.mp nd
theorem cN{x:Str}{p:PV}{s:Shared}{v:Value}{G:Unit->Shared->Prop}(hl:setOk env x=true)
  (hR:Rp c s V (aZ env m::φ)) (hv:Vr s.heap p v) (h:∀s',TL s.heap s'.heap->Rp c s' V (aZ env (bh m x p)::φ)->G () s'):wpAny (Mo c) A (storeName env x v) G F0 s:=by
 refine iR (hR.aZ _ (.head _)) λhm nt mv hn hx hc=>?_;have nd:=hR.apart.2.2.1;unfold setOk at hl;simp only[Bool.and_eq_true,beq_iff_eq] at hl;refine aA hl λhk hl=>?_
 split at hl
 ·rename_i hq
  have Cs:=Option.isNone_iff_eq_none.mp hl;refine wpAny_storeName_local hq hn (λh' JS hs=>?_) (by refine J hk ?_;rfl)
  obtain ⟨t,R⟩:=hR.head (f':=aZ env (bh m x p)) (a:=env.locals) (s':={s with heap:=h',toks:=s.toks+1}) mem_cons_self nt hs (by(refine nX JS λo _ _ e _=>?_;clear JS);exact⟨o,e⟩) rfl rfl rfl u9 rfl
   (λt=>⟨kQ JS,⟨_,JS,λy hy=>by
    refine J (d9 _ _ _ _) ?_
    by_cases e:y=x
    ·refine J (if_pos e) (J (if_pos e) ?_);exact .some (hv.mono t)
    ·refine J (if_neg e) (J (if_neg e) ?_);exact(hx y hy).mono t⟩,λy a ha=>by
    have e:y≠x:=by rintro rfl;rw[Cs] at ha;exact bL ha
    refine ah (hc y a ha) λw h1 h2=>?_;refine⟨w,h1.sameBut hs ?_,by refine J (eO e) ?_;exact h2.mono t⟩;rintro rfl;exact nd.1 (mem_map_of_mem (mem_lookup ha))⟩)
  exact h _ t R
 ·rename_i hq
  simp only[Bool.and_eq_true] at hl;refine bK (Option.isSome_iff_exists.mp hl.1) λa ha=>?_;refine ah (hc x a ha) λw h1 h2=>?_;have qF:=mem_map_of_mem (f:=(·.2)) (mem_lookup ha);have hLa:env.locals≠a:=λe=>nd.1 (by show env.locals∈_;refine J e ?_;exact qF);refine wpAny_storeName_cell hk hq ha h1 λh' Aa hs=>?_
  obtain ⟨t,R⟩:=hR.head (f':=aZ env (bh m x p)) (a:=a) (s':={s with heap:=h'}) (by unfold mD aZ;refine J hl.2 ?_;exact mem_cons_of_mem _ qF) (xw h1) hs (by(refine ah Aa λo e _=>?_;clear Aa);exact⟨o,e⟩) rfl rfl rfl u9 rfl
   (λt=>⟨λitems q=>nt items (by(refine ah q λo q1 q2=>?_;clear q);exact(aj o ((hs.2 _ hLa).symm.trans q1) q2)),⟨mv,hn.sameBut hs hLa,λy hy=>by
    have e:y≠x:=by rintro rfl;rw[ha] at hy;exact fB hy
    refine J (eO e) ?_;exact(hx y hy).mono t⟩,λy b hb=>by
    by_cases e:y=x
    ·subst e;rw[ha] at hb;obtain rfl:=sI hb
     exact⟨_,Aa,by refine J (d9 _ _ _ _) (J (if_pos rfl) ?_);exact .some (hv.mono t)⟩
    ·refine ah (hc y b hb) λw' q1 q2=>?_
     refine⟨w',q1.sameBut hs ?_,by refine J (eO e) ?_;exact q2.mono t⟩;rintro rfl;exact e (name_of_addr (vZ (by have:=nd.2;unfold aZ at this;rw[hl.2] at this;exact this)) (mem_lookup hb) (mem_lookup ha))⟩)
  exact h _ t R
 ·exact iD hl
theorem qh{x:Str}{pos':Pos}{value:Expr}{pos:Pos}{Q:AF->Map->St->Prop}(hl:setOk env x=true)(h:WE c A φ env m value V λp σ₁=>Q .next (bh m x p) σ₁)
  (hs:swapsWith value (some (Expr.Name x pos')) pos.line env=pure false:=by rfl):WS c A φ env (.Assign [.Name x pos'] value pos) m V Q:=λs hR=>
 wpAny_Assign_Name (h.seq hR λv p σ₁ aM aS aT bo bf=>cN hl aT bo λbY bM cV=>⟨aS.trans bM,_,_,_,cV,.next,bf⟩) hs
theorem Br{e pos}{Q:AF->Map->St->Prop}(h:WE c A φ env m e V λp σ₁=>Q (.ret p) m σ₁):WS c A φ env (.Return (some e) pos) m V Q:=λs hR=>
 wpAny_Return_some (h.seq hR λv p σ₁ aM aS aT bo bf=>⟨aS,_,_,_,aT,.ret bo,bf⟩)
theorem Pz{test body orelse pos}{Q:AF->Map->St->Prop}(h:WT c A φ env m test V λb σ₁=>if b=true then pg c A φ env body m σ₁ Q else pg c A φ env orelse m σ₁ Q):WS c A φ env (.If test body orelse pos) m V Q:=λs hR=>
 wpAny_If (h.seq hR λv b σ₁ aM aS aT bo bf=>by
  obtain rfl:b=v:=bo
  split
  ·rename_i hb;simp only[if_pos hb] at bf;exact jr.lift aS (bf aM aT)
  ·rename_i hb;simp only[if_neg hb] at bf;exact jr.lift aS (bf aM aT))
theorem Hu{e pos}{Q:AF->Map->St->Prop}(h:WE c A φ env m e V λ_ σ₁=>Q .next m σ₁)(hi:interactive env=false:=by rfl)(hs:swapsWith e none pos.line env=pure false:=by rfl):WS c A φ env (.Expr e pos) m V Q:=λs hR=>
 wpAny_Expr_any (h.seq hR λv p σ₁ aM aS aT bo bf=>⟨aS,_,_,_,aT,.next,bf⟩) hi hs
theorem tH{o:Expr}{attr:Str}{pos':Pos}{value:Expr}{pos:Pos}{Q:AF->Map->St->Prop}
  (h:WE c A φ env m value V λp σ₁=>WE c A φ env m o σ₁ λa ay=>W2 c A (aZ env m::φ) RU (λov v=>setAttr ov attr v) a p ay λ_ aD=>Q .next m aD)
  (hs:swapsWith value (some (Expr.Attribute o attr pos')) pos.line env=pure false:=by rfl):WS c A φ env (.Assign [.Attribute o attr pos'] value pos) m V Q:=λs hR=>
 plainObj_wpAny_Assign_Attribute (h.seq hR λv p σ₁ aM aS aT bo bf=>bf.seq aT λov a ay bY bM cV fe fm=>wpAny_mono (fm bY ov v cV fe (bo.mono bM)) (λ_ d6 zf=>aR zf λc5 _ aD cU _ qm=>⟨(aS.trans bM).trans c5,_,_,_,cU,.next,qm⟩) λ_ _ y=>y) hs
theorem uV{o i:Expr}{pos':Pos}{value:Expr}{pos:Pos}{Q:AF->Map->St->Prop}
  (h:WE c A φ env m value V λp σ₁=>WE c A φ env m o σ₁ λa ay=>WE c A φ env m i ay λb aD=>W3 c A (aZ env m::φ) RU setItem a b p aD λ_ bB=>Q .next m bB)
  (hs:swapsWith value (some (Expr.Subscript o i pos')) pos.line env=pure false:=by rfl):WS c A φ env (.Assign [.Subscript o i pos'] value pos) m V Q:=λs hR=>
 wpAny_Assign_Subscript (h.seq hR λv p σ₁ aM aS aT bo bf=>bf.seq aT λov a ay bY bM cV fe fm=>fm.seq cV λiv b aD d6 c5 cU jB qm=>
  wpAny_mono (qm d6 ov iv v cU (fe.mono c5) jB (bo.mono (bM.trans c5))) (λ_ l4 zf=>aR zf λmA _ bB l9 _ Bz=>⟨((aS.trans bM).trans c5).trans mA,_,_,_,l9,.next,Bz⟩) λ_ _ y=>y) hs
theorem zB{x:Str}{pos':Pos}{op:Operator}{value:Expr}{pos:Pos}{p:PV}{Q:AF->Map->St->Prop}(hl:hX env x=true)(wC:setOk env x=true)(hv:dB m x=some p)
  (h:WE c A φ env m value V λb σ₁=>W2 c A (aZ env m::φ) Vr (inplaceOp op) p b σ₁ λr ay=>Q .next (bh m x r) ay):WS c A φ env (.AugAssign (.Name x pos') op value pos) m V Q:=λs hR=>
 wpAny_AugAssign_Name ((nr hl hv (Q:=λa σ'=>a=p/\σ'=V) ⟨rfl,rfl⟩).seq hR λv a fC uI t₀ R₀ Hx BA=>by refine aA BA λau wJ=>?_;clear BA;subst au;subst wJ;exact h.seq R₀ λvb b σ₁ aM aS aT bo bf=>wpAny_mono (bf aM v vb aT (Hx.mono aS) bo) (λvr bY zf=>aR zf λbM r ay cV fe fm=>cN wC cV fe λd6 c5 cU=>⟨((t₀.trans aS).trans bM).trans c5,_,_,_,cU,.next,fm⟩) λ_ _ y=>y)
theorem zC{o value:Expr}{attr:Str}{za pos:Pos}{op:Operator}{Q:AF->Map->St->Prop}
  (h:WE c A φ env m o V λa σ₁=>W1 c A (aZ env m::φ) Vr (λov=>getAttr ov attr true) a σ₁ λold ay=>WE c A φ env m value ay λb aD=>W2 c A (aZ env m::φ) Vr (inplaceOp op) old b aD λr bB=>
   W2 c A (aZ env m::φ) RU (λov v=>setAttr ov attr v) a r bB λ_ cW=>Q .next m cW):WS c A φ env (.AugAssign (.Attribute o attr za) op value pos) m V Q:=λs hR=>
 wpAny_AugAssign_AttributeAny (h.seq hR λov a σ₁ aM aS aT bo bf=>wpAny_mono (bf aM ov aT bo) (λold bY zf=>aR zf λbM aap ay cV fe fm=>fm.seq cV λv b aD d6 c5 cU jB qm=>
  wpAny_mono (qm d6 old v cU (fe.mono c5) jB) (λnew l4 zf=>aR zf λmA pn bB l9 Hw Bz=>wpAny_mono (Bz l4 ov new l9 (bo.mono ((bM.trans c5).trans mA)) Hw) (λ_ kj zf=>
   aR zf λkC _ cW gQ _ By=>(bS ((((aS.trans bM).trans c5).trans mA).trans kC) _ _ _ gQ .next By)) λ_ _ y=>y) λ_ _ y=>y) λ_ _ y=>y)
end
variable {n k j i u lo stop:Nat} {A:Around} {h:Heap} {m mm:Map} {ps bs:List PV} {Q:PV->St->Prop} {s:Shared} {env:Env} {σ' V fC:St} {x x1 x2 y name:Str} {f a d C I kd cb rl nA:Addr} {fd:FuncData} {body orelse rest:List Stmt} {p p1 p2 q:PV} {b:Int} {l w ks t0 w0 wn tl sg ns nm picks:LN} {v dV:Value} {vs:List Value} {φ ψ:dG} {o:AO} {G:Prop} {target iter e elt value slice:Expr} {pos px py:Pos} {scope:Scope} {es:List Expr} {c:Cx} {st:Stmt} {ts mid ss:List LN} {kf:Nat->Option (Nat×Addr)} {wf:Nat->List LN} {L:List (List LN)} {as:List (Addr×AO)} {P:Params} {is:List Int} {mg:Str->Option Value}
section
set_option backward.match.sparseCases true
structure Rm (n:Nat) (A:Around):Prop where
 handled:A.handled=none
 depth:A.depth+2*n+10<=1000
 units:A.units+10*n+100<=9900
theorem Rm.le(h:Rm n A)(hk:k<=n:=by decide):Rm k A:=⟨h.handled,by have:=h.depth;exact XK hk this,by have:=h.units;exact XH hk this⟩
theorem Rm.deeper(h:Rm (n+1) A)(env:Env):Rm n (A.deeper env):=
 ⟨h.handled,by refine(?_:A.depth+1+2*n+10<=1000);have:=h.depth;exact Mj this,by refine(?_:A.units+3+10*n+100<=9900);have:=h.units;exact XI this⟩
theorem Rm.room(h:Rm n A):A.depth<recursionLimit:=by have:=h.depth;refine(?_:A.depth<1000);exact XJ this
theorem Rm.line(h:Rm n A):A.units<cLine:=by have:=h.units;refine(?_:A.units<9900);exact XM this
inductive BR (h:Heap):List (Str×Value)->Map->Prop
 |nil:BR h [] []
 |cons {x:Str} {v:Value} {p:PV} {bs:List (Str×Value)} {m:Map} (hv:Vr h p v) (r:BR h bs m):BR h ((x,v)::bs) ((x,p)::m)
theorem BR.names{bs:List (Str×Value)}(x:BR h bs m):bs.map (·.1)=m.map (·.1):=by
 induction x with
 |nil=>rfl
 |cons hv _ ih=>simp[ih]
theorem BR.look{bs:List (Str×Value)}(x:BR h bs m)(y:Str):rm h (dB m y) (bs.lookup y):=by
 induction x with
 |nil=>exact .none
 |@cons z v p bs m hv _ ih=>
  simp only[dB,lookup_cons]
  by_cases e:y=z
  ·subst e;simp only[if_true,beq_self_eq_true];exact .some hv
  ·refine J (if_neg e) (J (beq_eq_false_iff_ne.mpr e) ?_);exact ih
theorem mG:∀(bs:List (Str×Value)) (y:Str),(bs.map (·.1)).Nodup->bs.reverse.lookup y=bs.lookup y
 |[],_,_=>rfl
 |(z,v)::r,y,nd=>by
  simp only[map_cons,nodup_cons] at nd;rw[reverse_cons,lookup_append,mG r y nd.2,lookup_cons]
  by_cases e:y=z
  ·subst e
   have:r.lookup y=none:=by
    rw[lookup_eq_none_iff];intro p hp;induction q:y==p.1 with
    |false=>simp[bne,q]
    |true=>exact absurd (eq_of_beq q▸mem_map_of_mem hp:y∈r.map (·.1)) nd.1
   rw[this,beq_self_eq_true];exact lookup_cons_self.symm
  ·refine J (beq_eq_false_iff_ne.mpr e) ?_
   induction q:r.lookup y<;>simp[lookup_cons,beq_eq_false_iff_ne.mpr e,q]
noncomputable def kK:AF->PV
 |.ret p=>p
 |_=>.none
noncomputable def mH(names:List (Str×NameKind)):List Str->Bool
 |[]=>true
 |x::r=>(names.lookup x==some .local)&&!r.contains x&&mH names r
theorem jI{names:List (Str×NameKind)}:∀{l:List Str},mH names l=true->l.Nodup/\∀x∈l,names.lookup x=some .local
 |[],_=>⟨.nil,λ_ h=>nomatch h⟩
 |x::r,h=>by
  simp only[mH,Bool.and_eq_true,beq_iff_eq,Bool.not_eq_true'] at h;refine aA (jI h.2) λa b=>?_;refine⟨nodup_cons.mpr ⟨λq=>by rw[contains_iff_mem.mpr q] at h;exact absurd h.1.2 (by simp),a⟩,λy hy=>?_⟩;cases hy with
  |head=>exact h.1.1
  |tail _ hy=>exact b y hy
structure y4 (c:Cx) (f:Addr) (fd:FuncData) (body:List Stmt):Prop where
 at_:∃oc od oe,c.K.lookup f=some ⟨oc,od,.func fd,oe⟩
 code:codeIn c.K fd.code fd.qualname=true
 body:fd.body=.stmts body
 co:fd.scope.isCoroutine=false
 gen:fd.scope.isGenerator=false
 kind:fd.scope.kind=.function
section
def ry(c:Cx)(A:Around)(φ:dG)(f:Value)(ps:List PV)(V:St)(Q:PV->St->Prop):Prop:=
 ∀s vs,Rp c s V φ->dD s.heap ps vs->codeAny (Mo c) A (.call f ⟨vs,[]⟩) (λr s'=>match r with|.ok (.ret v)=>fo c φ Vr s.heap Q v s'|.ok _=>False|.error _=>False) s
theorem ry.toS{f:Value}(h:ry c A φ f ps V Q):aw c A φ f ps V Q:=λs vs hR hv=>wpAny_call (codeAny_mono (h s vs hR hv) λr s' x=>by
 match r,x with
 |.ok (.ret v),x=>exact x)
theorem xc{t:TL s.heap s.heap}{m:Map}{σ':St}{fl:Flow}{s' aM:Shared}(aS:TL s.heap aM.heap)(h:jr c φ env aM.heap (λa _ σ'=>Q (kK a) σ') fl s'):
  fo c φ Vr s.heap Q (match (generalizing:=false) fl with|.ret v=>v|_=>.none) s':=by
 refine eR h λbM a m' σ' R' r q=>?_;clear h;refine(af (aS.trans bM) _ σ' R'.leave ?_ q);cases r with
 |ret x=>exact x
 |next|brk|cont=>exact .none
theorem v8{k:Str->Option NameKind}(hx:k x≠some .local):∀(bs:List (Str×Value)) (f:Str->Option Value),bindL k bs f x=f x
 |[],_=>rfl
 |(n,v)::r,f=>by
  unfold bindL;refine J (v8 hx r _) ?_
  split
  ·rename_i h;exact if_neg (by rintro rfl;exact hx h)
  ·rfl
theorem v9{k:Str->Option NameKind}(hx:k x=some .local):∀(bs:List (Str×Value)) (f:Str->Option Value),(bs.map (·.1)).Nodup->bindL k bs f x=(bs.lookup x).or (f x)
 |[],_,_=>rfl
 |(n,v)::r,f,nd=>by
  simp only[map_cons,nodup_cons] at nd;unfold bindL;rw[v9 hx r _ nd.2,lookup_cons]
  by_cases e:x=n
  ·subst e
   have:r.lookup x=none:=by
    rw[lookup_eq_none_iff];intro p hp;induction q:x==p.1 with
    |false=>simp[bne,q]
    |true=>exact absurd (eq_of_beq q▸mem_map_of_mem hp:x∈r.map (·.1)) nd.1
   rw[this,if_pos hx,beq_self_eq_true];simp
  ·refine J (beq_eq_false_iff_ne.mpr e) ?_
   split<;>simp[e]
theorem wc{k:Str->Option NameKind}(hx:k x≠some .local):∀(bs:List (Str×Value)) (f:Str->Option Value),(bs.map (·.1)).Nodup->bindC k bs f x=(bs.lookup x).or (f x)
 |[],_,_=>rfl
 |(n,v)::r,f,nd=>by
  simp only[map_cons,nodup_cons] at nd;unfold bindC;rw[wc hx r _ nd.2,lookup_cons]
  by_cases e:x=n
  ·subst e
   have:r.lookup x=none:=by
    rw[lookup_eq_none_iff];intro p hp;induction q:x==p.1 with
    |false=>simp[bne,q]
    |true=>exact absurd (eq_of_beq q▸mem_map_of_mem hp:x∈r.map (·.1)) nd.1
   rw[this,if_neg hx,beq_self_eq_true];simp
  ·refine J (beq_eq_false_iff_ne.mpr e) ?_
   split<;>simp[e]
noncomputable def ri:List Str->Bool
 |[]=>true
 |x::r=>!r.contains x&&ri r
theorem gY:∀{l:List Str},ri l=true->l.Nodup
 |[],_=>.nil
 |x::r,h=>by simp only[ri,Bool.and_eq_true,Bool.not_eq_true'] at h;exact nodup_cons.mpr ⟨λq=>by rw[contains_iff_mem.mpr q] at h;exact absurd h.1 (by simp),gY h.2⟩
theorem ji{α:Type}:∀{l:List (Str×α)} {x:Str} {a:α},(l.map (·.1)).Nodup->(x,a)∈l->l.lookup x=some a
 |(y,b)::r,x,a,nd,h=>by
  simp only[map_cons,nodup_cons] at nd;rw[lookup_cons];rcases mem_cons.mp h with e|h
  ·cases e;rw[beq_self_eq_true]
  ·have:x≠y:=λe=>nd.1 (e▸mem_map_of_mem (f:=(·.1)) h)
   refine J (beq_eq_false_iff_ne.mpr this) ?_;exact ji nd.2 h
noncomputable def nQ(fd:FuncData)(names:List Str):Bool:=
 let cs:=cellsFrom 0 fd.scope.names []
 ri names&&ri (cs.map (·.1))&&cs.all (λx=>fd.scope.names.lookup x.1==some .cell)&&
 names.all λx=>fd.scope.names.lookup x==some .local||(fd.scope.names.lookup x==some .cell&&(cs.lookup x).isSome)
theorem cellsFrom_names:∀(names:List (Str×NameKind)) (n k:Nat) (acc wj:List (Str×Addr)),acc.map (·.1)=wj.map (·.1)->(cellsFrom n names acc).map (·.1)=(cellsFrom k names wj).map (·.1)
 |[],_,_,_,_,e=>e
 |(x,kd)::r,n,k,acc,wj,e=>by
  unfold cellsFrom
  split
  ·exact cellsFrom_names r _ _ _ _ (by simp[e])
  ·exact cellsFrom_names r _ _ _ _ e
theorem gS{α β:Type}:∀{l:List (Str×α)} {l':List (Str×β)},l.map (·.1)=l'.map (·.1)->∀x,(l.lookup x).isSome=(l'.lookup x).isSome
 |[],[],_,_=>rfl
 |(y,a)::r,(z,b)::r',e,x=>by
  simp only[map_cons,List.cons.injEq] at e;obtain ⟨rfl,e⟩:=e;rw[lookup_cons,lookup_cons];induction x==y
  ·exact gS e x
  ·rfl
theorem call_cells(ok:c.Ok)(hA:Rm (n+1) A)(D:y4 c f fd body)(rL:fd.closure=[])
  (hb:∀(s:Shared) (vs:List Value),c.K.In s.heap->dD s.heap ps vs->∃bs,bindArgs fd ⟨vs,[]⟩=pure bs/\BR s.heap bs m) (hl:nQ fd (m.map (·.1))=true)
  (h:∀L A',Rm n A'->WX c A' φ (callEnvC fd L f) (execs body (callEnvC fd L f)) m V λa _ σ'=>Q (kK a) σ'):ry c A φ (.ref f) ps V Q:=λs vs hR hv=>by
 have X:c.K.In s.heap:=ok.X.keeps hR.base;refine ah (hb s vs X hv) λbs Ni Ab=>?_;refine rt D.at_ λoc od oe ho=>?_;unfold nQ at hl;simp only[Bool.and_eq_true] at hl;refine iA hl λnd Yz kc kn=>?_;clear hl;have nd:=gY nd;have en:∀k,(cellsFrom k fd.scope.names []).map (·.1)=(cellsFrom 0 fd.scope.names []).map (·.1):=λk=>cellsFrom_names _ _ _ _ _ rfl;have Yz:∀k,((cellsFrom k fd.scope.names []).map (·.1)).Nodup:=λk=>by refine J (en _) ?_;exact gY Yz
 have JM:(bs.map (·.1)).Nodup:=Ab.names▸nd
 have kc:∀k x,x∈(cellsFrom k fd.scope.names []).map (·.1)->fd.scope.names.lookup x=some .cell:=λk x hx=>by rw[en] at hx;refine ah (mem_map.mp hx) λy hy au=>?_;subst au;simpa using all_eq_true.mp kc y hy
 have kn:∀k x,x∈bs->fd.scope.names.lookup x.1=some .local∨(fd.scope.names.lookup x.1=some .cell/\((cellsFrom k fd.scope.names []).lookup x.1).isSome=true):=λk x hx=>by have:=all_eq_true.mp kn x.1 (Ab.names▸mem_map_of_mem hx);refine J (gS (en k) _) ?_;simpa using this
 refine codeAny_call_cells hA.room (X _ _ ho) rfl (ok.lim.keeps hR.base) (codeRec_of X D.code) D.body Ni rL (kn _) (λaM I=>?_) D.co D.gen D.kind;have keep:=I.toInCall.keep;have aS:TL s.heap aM.heap:=TL.keep keep;refine me I.toInCall.same λgJ tk au=>?_;subst au;have R₀:Rp c {s with heap:=gJ,toks:=tk} V φ:=hR.keep keep rfl rfl
 have own:ownOf (callEnvC fd s.heap.objs.size f)=true:=by unfold ownOf;refine J (Bool.and_eq_true _ _) ?_;refine⟨rfl,all_eq_true.mpr λx hx=>?_⟩;rw[beq_iff_eq];exact kc (s.heap.objs.size+1) x.1 (mem_map_of_mem hx)
 have okn:∀x a,(x,a)∈(callEnvC fd s.heap.objs.size f).cells->(callEnvC fd s.heap.objs.size f).cells.lookup x=some a:=λx a hx=>ji (Yz _) hx
 have fr:rT c.prog c.w gJ s.heap.objs.size (.ns true (callEnvC fd s.heap.objs.size f).cells m):=by
  refine lZ (kQ I.toInCall.ns) _ I.toInCall.ns (λx hx=>?_) (λx a hx=>(aj _ (I.cell x a hx) ?_))
  ·by_cases e:(callEnvC fd s.heap.objs.size f).kindOf x=some .local
   ·refine J (v9 e _ _ JM) (J Option.or_none ?_);exact((Ab.look x).mono aS).w
   ·refine J (v8 e _ _) ?_
    have:bs.lookup x=none:=by
     induction q:bs.lookup x with
     |none=>rfl
     |some v=>
      rcases kn (s.heap.objs.size+1) (x,v) (mem_lookup q) with h1|h1
      ·exact absurd h1 e
      ·have gE:(cellsFrom (s.heap.objs.size+1) fd.scope.names []).lookup x=none:=hx
       have:=h1.2;rw[gE] at this;exact iD this
    have:=(Ab.look x).mono aS;rw[‹bs.lookup x=none›] at this;exact this.w
  ·have e:(callEnvC fd s.heap.objs.size f).kindOf x≠some .local:=by
    have:=kc (s.heap.objs.size+1) x (mem_map_of_mem (f:=(·.1)) (mem_lookup hx));refine(?_:fd.scope.names.lookup x≠_);refine J this ?_;decide
   refine J (wc e _ _ JM) (J Option.or_none ?_);exact((Ab.look x).mono aS).w
 have ab:∀a∈d8 (aZ (callEnvC fd s.heap.objs.size f) m),s.heap.objs.size<=a:=λa ha=>by
  rcases mem_cons.mp ha with rfl|ha
  ·exact Nat.le_refl _
  ·obtain ⟨⟨y,b⟩,hb,rfl⟩:=mem_map.mp ha
   exact Nat.le_of_lt (I.above y b hb)
 have aT:Rp c {s with heap:=gJ,toks:=tk} V (aZ (callEnvC fd s.heap.objs.size f) m::φ):=by
  refine R₀.enter (λa ha=>?_) (λa ha=>(hR.above (ab a (g9 ha))).2.2) (λa ha g hg e=>(hR.above (ab a (mem_cons_of_mem _ ha))).2.2 g hg (e▸mem_cons_self)) ⟨λq=>?_,?_⟩ (by unfold aZ;refine J own ?_;exact fr)
  ·refine aN ((hR.above (ab a ha)).1) ((hR.above (ab a ha)).2.1) ?_
   rcases mem_cons.mp ha with rfl|ha
   ·exact fr.get
   ·obtain ⟨⟨y,b⟩,hb,rfl⟩:=mem_map.mp ha
    refine ah (I.cell y b (okn y b hb)) λo e _=>?_;exact⟨o,e⟩
  ·obtain ⟨⟨y,b⟩,hb,e⟩:=mem_map.mp q
   have:=I.above y b hb;have e:b=s.heap.objs.size:=e;rw[e] at this;exact Nat.lt_irrefl _ this
  ·unfold aZ;refine J own ?_;exact pairwise_map.mpr I.apart
 exact wpAny_mono (h s.heap.objs.size _ (hA.deeper _) _ aT) (λfl s' x=>xc (t:=TL.refl _) (m:=m) (σ':=V) aS x) λ_ _ y=>y.elim
theorem An(ok:c.Ok)(hA:Rm (n+1) A)(D:y4 c f fd body)(rL:fd.closure=[])(qG:fd.scope.names.all (λx=>x.2 !=.cell)=true)
  (hb:∀s vs,c.K.In s.heap->dD s.heap ps vs->∃bs,BindsTo s fd ⟨vs,[]⟩ bs/\BR s.heap bs m) (hl:mH fd.scope.names (m.map (·.1))=true)
  (h:∀L A',Rm n A'->WX c A' φ (callEnv fd L f) (execs body (callEnv fd L f)) m V λa _ σ'=>Q (kK a) σ'):ry c A φ (.ref f) ps V Q:=λs vs hR hv=>by
 have X:c.K.In s.heap:=ok.X.keeps hR.base;refine ah (hb s vs X hv) λbs Ni Ab=>?_;refine rt D.at_ λoc od oe ho=>?_;refine aA (jI hl) λnd t8=>?_;have JM:(bs.map (·.1)).Nodup:=Ab.names▸nd
 refine codeAny_call_def hA.room (X _ _ ho) rfl (ok.lim.keeps hR.base) (codeRec_of X D.code) D.body Ni (λx hx=>by have:=all_eq_true.mp qG x hx;simpa using this)
  (λx hx=>t8 _ (Ab.names▸mem_map_of_mem hx)) (λgJ hn hk=>?_) D.co D.gen D.kind
 have aS:TL s.heap gJ:=TL.keep hk
 have fr:rT c.prog c.w gJ s.heap.objs.size (.ns (ownOf (callEnv fd s.heap.objs.size f)) (callEnv fd s.heap.objs.size f).cells m):=
  (lZ (kQ hn) _ hn (λx _=>by refine J (mG _ _ JM) ?_;exact((Ab.look x).mono aS).w) (λx a hx=>by have:(callEnv fd s.heap.objs.size f).cells=[]:=rL;rw[this] at hx;exact bL hx))
 have OU:(aZ (callEnv fd s.heap.objs.size f) m).2.cells=[]:=rL
 have aT:Rp c {s with heap:=gJ,toks:=s.toks+bs.length} V (aZ (callEnv fd s.heap.objs.size f) m::φ):=by
  refine(hR.keep (s':={s with heap:=gJ,toks:=s.toks+bs.length}) hk rfl rfl).enter (λa ha=>?_) (λa ha=>?_) (λa ha=>?_) (jF OU) fr
  ·rcases mem_cons.mp ha with rfl|ha
   ·exact aN hR.dK hR.fresh fr.get
   ·rw[OU] at ha;exact km ha
  ·rcases mem_cons.mp (g9 ha) with rfl|ha
   ·exact hR.ij
   ·rw[OU] at ha;exact km ha
  ·rw[OU] at ha;exact km ha
 exact wpAny_mono (h s.heap.objs.size _ (hA.deeper _) _ aT) (λfl s' x=>xc (t:=TL.refl _) (m:=m) (σ':=V) aS x) λ_ _ y=>y.elim
theorem Dl(ok:c.Ok)(hA:Rm (n+1) A)(D:y4 c f fd body)(rL:fd.closure=[])(qG:fd.scope.names.all (λx=>x.2 !=.cell)=true)
  (hb:∀s vs,c.K.In s.heap->dD s.heap ps vs->∃bs,BindsTo s fd ⟨vs,[]⟩ bs/\BR s.heap bs m) (hl:mH fd.scope.names (m.map (·.1))=true)
  (h:∀L A',Rm n A'->WX c A' φ (callEnv fd L f) (execs body (callEnv fd L f)) m V λa _ σ'=>Q (kK a) σ'):aw c A φ (.ref f) ps V Q:=(An ok hA D rL qG hb hl h).toS
end
section
variable {K:Frag}
theorem bind1(e:∀v,bindArgs fd ⟨[v],[]⟩=pure [(x,v)]):∀s vs,K.In s.heap->dD s.heap [p] vs->∃bs,BindsTo s fd ⟨vs,[]⟩ bs/\BR s.heap bs [(x,p)]:=λ_ _ _ hv=>by cases hv with|cons h1 hv=>cases hv;exact aj _ (BindsTo.of_eq (e _)) (.cons h1 .nil)
theorem Dq(e:∀v1,bindArgs fd ⟨[v1],[]⟩=pure [(x1,v1)]):∀(s:Shared) (vs:List Value),K.In s.heap->dD s.heap [p1] vs->∃bs,bindArgs fd ⟨vs,[]⟩=pure bs/\BR s.heap bs [(x1,p1)]:=λ_ _ _ hv=>by cases hv with|cons h1 hv=>cases hv;exact aj _ (e _) (.cons h1 .nil)
theorem pF(e:∀v1 v2,bindArgs fd ⟨[v1,v2],[]⟩=pure [(x1,v1),(x2,v2)]):∀(s:Shared) (vs:List Value),K.In s.heap->dD s.heap [p1,p2] vs->∃bs,bindArgs fd ⟨vs,[]⟩=pure bs/\BR s.heap bs [(x1,p1),(x2,p2)]:=λ_ _ _ hv=>by cases hv with|cons h1 hv=>cases hv with|cons h2 hv=>cases hv;exact aj _ (e _ _) (.cons h1 (.cons h2 .nil))
theorem wI{x3:Str}{p3:PV}(e:∀v1 v2 v3,bindArgs fd ⟨[v1,v2,v3],[]⟩=pure [(x1,v1),(x2,v2),(x3,v3)]):∀(s:Shared) (vs:List Value),K.In s.heap->dD s.heap [p1,p2,p3] vs->∃bs,bindArgs fd ⟨vs,[]⟩=pure bs/\BR s.heap bs [(x1,p1),(x2,p2),(x3,p3)]:=λ_ _ _ hv=>by cases hv with|cons h1 hv=>cases hv with|cons h2 hv=>cases hv with|cons h3 hv=>cases hv;exact aj _ (e _ _ _) (.cons h1 (.cons h2 (.cons h3 .nil)))
theorem bp4{x3 x4:Str}{p3 p4:PV}(e:∀v1 v2 v3 v4,bindArgs fd ⟨[v1,v2,v3,v4],[]⟩=pure [(x1,v1),(x2,v2),(x3,v3),(x4,v4)]):∀(s:Shared) (vs:List Value),K.In s.heap->dD s.heap [p1,p2,p3,p4] vs->∃bs,bindArgs fd ⟨vs,[]⟩=pure bs/\BR s.heap bs [(x1,p1),(x2,p2),(x3,p3),(x4,p4)]:=λ_ _ _ hv=>by cases hv with|cons h1 hv=>cases hv with|cons h2 hv=>cases hv with|cons h3 hv=>cases hv with|cons h4 hv=>cases hv;exact aj _ (e _ _ _ _) (.cons h1 (.cons h2 (.cons h3 (.cons h4 .nil))))
theorem bp5{x3 x4 x5:Str}{p3 p4 p5:PV}(e:∀v1 v2 v3 v4 v5,bindArgs fd ⟨[v1,v2,v3,v4,v5],[]⟩=pure [(x1,v1),(x2,v2),(x3,v3),(x4,v4),(x5,v5)]):∀(s:Shared) (vs:List Value),K.In s.heap->dD s.heap [p1,p2,p3,p4,p5] vs->∃bs,bindArgs fd ⟨vs,[]⟩=pure bs/\BR s.heap bs [(x1,p1),(x2,p2),(x3,p3),(x4,p4),(x5,p5)]:=λ_ _ _ hv=>by cases hv with|cons h1 hv=>cases hv with|cons h2 hv=>cases hv with|cons h3 hv=>cases hv with|cons h4 hv=>cases hv with|cons h5 hv=>cases hv;exact aj _ (e _ _ _ _ _) (.cons h1 (.cons h2 (.cons h3 (.cons h4 (.cons h5 .nil)))))
end
end
noncomputable abbrev S(l:LN):Str:=⟨l.toArray⟩
theorem bI(l:LN):(S l).length=l.length:=by refine(?_:l.toArray.size=_);rfl
theorem wm(x:Str):S x.cps.toList=x:=by induction x;simp[S]
theorem DE{a b:LN}:S a=S b↔a=b:=by simp[S]
theorem iO(a b:LN):S a++S b=S (a++b):=by refine(?_:Str.mk (a.toArray++b.toArray)=_);simp[S]
theorem cH(a b:LN):(S a==S b)=(a==b):=by
 induction h:a==b with
 |true=>refine J (eq_of_beq h) ?_;exact BEq.rfl
 |false=>rw[beq_eq_false_iff_ne] at h ⊢;exact λe=>h (DE.mp e)
mutual
inductive Dv (V:St):PV->PyData->Prop
 |none:Dv V .none .none
 |bool (b:Bool):Dv V (.bool b) (.bool b)
 |int (i:Int):Dv V (.int i) (.int i)
 |str (x:Str):Dv V (.str x) (.str x)
 |tup {l:List PV} {ds:List PyData} (h:FY V l ds):Dv V (.tup l) (.tuple ds)
 |lst {a:Addr} {l:List PV} {ds:List PyData} (e:V a=some (.lst l)) (h:FY V l ds):Dv V (.ref a) (.list ds)
inductive FY (V:St):List PV->List PyData->Prop
 |nil:FY V [] []
 |cons {p:PV} {d:PyData} {ps:List PV} {ds:List PyData} (h1:Dv V p d) (h2:FY V ps ds):FY V (p::ps) (d::ds)
end
mutual
noncomputable def PV.dat:PV->PyData
 |.none=>.none
 |.bool b=>.bool b
 |.int i=>.int i
 |.str x=>.str x
 |.tup l=>.tuple (PV.l7 l)
 |.ref _=>.none
noncomputable def PV.l7:List PV->List PyData
 |[]=>[]
 |a::r=>PV.dat a::PV.l7 r
end
mutual
noncomputable def PV.bare:PV->Bool
 |.ref _=>false
 |.tup l=>PV.jq l
 |_=>true
noncomputable def PV.jq:List PV->Bool
 |[]=>true
 |a::r=>PV.bare a&&PV.jq r
end
mutual
theorem Fp:∀{p:PV},PV.bare p=true->Dv V p p.dat
 |.none,_=>.none
 |.bool _,_=>.bool _
 |.int _,_=>.int _
 |.str _,_=>.str _
 |.tup l,h=>by simp only[PV.bare] at h;exact .tup (nF h)
 |.ref _,h=>by simp[PV.bare] at h
theorem nF:∀{p:List PV},PV.jq p=true->FY V p (PV.l7 p)
 |[],_=>.nil
 |a::r,h=>by simp only[PV.jq,Bool.and_eq_true] at h;exact .cons (Fp h.1) (nF h.2)
end
theorem lW:∀{p:List PV} {d:List PyData},FY V p d->d.length=p.length
 |_,_,.nil=>rfl
 |_,_,.cons _ h=>by simp[lW h]
section
theorem oj(hR:Rp c s V φ){l:List PV}(e:V a=some (.lst l)):∃vs:Array Value,s.heap.IsList a vs/\dD s.heap l vs.toList:=by refine iz (hR.obj a _ e) λ_ vs n h1 h2=>?_;exact lD vs _ h1 rfl n rfl h2
mutual
inductive Rv (h:Heap):Value->PyData->Prop
 |none:Rv h .none .none
 |bool (b:Bool):Rv h (.bool b) (.bool b)
 |int (i:Int) (t:Tok):Rv h (.int i t) (.int i)
 |str (x:Str) (t:Tok):Rv h (.str x t) (.str x)
 |tup {a:Addr} {items:Array Value} {ds:List PyData} (hi:IsTup h a items) (r:y2 h items.toList ds):Rv h (.ref a) (.tuple ds)
 |lst {a:Addr} {vs:Array Value} {ds:List PyData} (hl:h.IsList a vs) (r:y2 h vs.toList ds):Rv h (.ref a) (.list ds)
inductive y2 (h:Heap):List Value->List PyData->Prop
 |nil:y2 h [] []
 |cons {v:Value} {d:PyData} {vs:List Value} {ds:List PyData} (a:Rv h v d) (b:y2 h vs ds):y2 h (v::vs) (d::ds)
end
theorem y2.len:∀{vs:List Value} {ds:List PyData},y2 h vs ds->ds.length=vs.length:=λr=>
 y2.rec (motive_1:=λ_ _ _=>True) (motive_2:=λvs ds _=>ds.length=vs.length) trivial (λ_=>trivial) (λ_ _=>trivial) (λ_ _=>trivial) (λ_ _ _=>trivial) (λ_ _ _=>trivial) rfl (λ_ _ _ ih=>by exact J length_cons (J length_cons (J ih rfl))) r
theorem D9(e:Vr h p v):∀{l:List PV},p=.tup l->∃a items,v=.ref a/\IsTup h a items/\dD h l items.toList:=by intro l q;cases e<;>cases q;exact(dM _ _ rfl (by assumption) (by assumption))
theorem Bu(hR:Rp c s V φ){d:PyData}(h:Dv V p d):∀v,Vr s.heap p v->Rv s.heap v d:=by
 refine Dv.rec (motive_1:=λp d _=>∀v,Vr s.heap p v->Rv s.heap v d) (motive_2:=λps ds _=>∀vs,dD s.heap ps vs->y2 s.heap vs ds) ?_ ?_ ?_ ?_ ?_ ?_ ?_ ?_ h
 ·intro v hv;obtain rfl:=iG hv;exact .none
 ·intro b v hv;obtain rfl:=ng hv;exact .bool b
 ·intro i v hv;(refine bK (aX hv) λ_ au=>?_;subst au);exact .int i _
 ·intro x v hv;(refine bK (bA hv) λ_ au=>?_;subst au);exact .str x _
 ·intro l ds _ ih v hv
  refine aV (D9 hv rfl) λa items au hi hr=>?_;subst au;exact .tup hi (ih _ hr)
 ·intro a l ds e _ ih v hv
  obtain rfl:=bj hv;refine ah (oj hR e) λvs hl hr=>?_;exact .lst hl (ih _ hr)
 ·intro vs hv;cases hv;exact .nil
 ·intro p d ps ds _ _ h1 h2 vs hv
  cases hv with
  |cons a b=>exact .cons (h1 _ a) (h2 _ b)
theorem wU(hR:Rp c s V φ):∀{ps:List PV} {ds:List PyData} {vs:List Value},FY V ps ds->dD s.heap ps vs->y2 s.heap vs ds
 |[],_,_,h,hv=>by cases h;cases hv;exact .nil
 |p::ps,_,_,h,hv=>by
  cases h with
  |cons a b=>cases hv with
   |cons x y=>exact .cons (Bu hR a _ x) (wU hR b y)
theorem oS{items vs:Array Value}(x:IsTup h a items)(y:h.IsList a vs):False:=by refine aK x λo h1 h2 _=>?_;clear x;refine aK y λo' h3 h4 _=>?_;clear y;rw[h1] at h3;obtain rfl:=sI h3;rw[h2] at h4;trivial
theorem zW{us vs:Array Value}(x:h.IsList a us)(y:h.IsList a vs):us=vs:=by refine fQ x λo h1 _ n h2=>?_;clear x;refine fQ y λo' h3 _ n' h4=>?_;clear y;rw[h1] at h3;obtain rfl:=sI h3;rw[h2] at h4;cases h4;rfl
theorem yd{d:PyData}(r:Rv h v d):∀d',Rv h v d'->PyData.eqv d d'=true:=by
 refine Rv.rec (motive_1:=λv d _=>∀d',Rv h v d'->PyData.eqv d d'=true) (motive_2:=λvs ds _=>∀ds',y2 h vs ds'->PyData.eqvAll ds ds'=true) ?_ ?_ ?_ ?_ ?_ ?_ ?_ ?_ r
 ·intro d' r;cases r;rfl
 ·intro b d' r;cases r;exact SeqAt.eqv_refl (PyData.bool b) rfl
 ·intro i t d' r;cases r;exact SeqAt.eqv_refl (PyData.int i) rfl
 ·intro x t d' r;cases r;exact BEq.rfl
 ·intro a items ds hi _ ih d' r
  cases r with
  |tup nc r'=>cases uF hi nc;rw[PyData.eqv];exact ih _ r'
  |lst hl r'=>exact(oS hi hl).elim
 ·intro a vs ds hl _ ih d' r
  cases r with
  |tup nc r'=>exact(oS nc hl).elim
  |lst wC r'=>cases zW hl wC;rw[PyData.eqv];exact ih _ r'
 ·intro ds' r;cases r;rfl
 ·intro v d vs ds _ _ h1 h2 ds' r
  cases r with
  |cons a b=>rw[PyData.eqvAll,h1 _ a,h2 _ b];rfl
theorem Jo{ds:List PyData}(hu:A.units+(PyData.tuple ds).depth<cLine):A.in1.units+PyData.depthAll ds<cLine:=by unfold PyData.depth at hu;exact PM hu
theorem Jp{ds:List PyData}(hu:A.units+(PyData.list ds).depth<cLine):A.in1.units+PyData.depthAll ds<cLine:=by unfold PyData.depth at hu;exact PM hu
open SeqAt in
theorem qQ{w:Value}{d:PyData}{k:Bool}(r:Rv s.heap v d)(h:RcAt A s v w k)(hs:v=w->k=true):EqAt A s v w k:=λprog wo E Q hq=>by
 unfold eqBool;refine wpAny_holding ?_;refine wpAny_ite_split (λZr=>?_) λ_=>?_
 ·have:=hs (eq_of_beq Zr)
  subst this;exact wpAny_bind (wpAny_rule (wpAny_pure hq))
 ·cases r<;>exact wpAny_bind (h prog wo E _ (wpAny_truthy_bool hq))
open SeqAt in
theorem yh{d:PyData}(r:Rv s.heap v d):∀A w d',Rv s.heap w d'->A.units+d.depth<cLine->RcAt A s v w (PyData.eqv d d'):=by
 refine Rv.rec (motive_1:=λv d _=>∀A w d',Rv s.heap w d'->A.units+d.depth<cLine->RcAt A s v w (PyData.eqv d d'))
  (motive_2:=λvs ds _=>∀A ws ds',y2 s.heap ws ds'->A.units+PyData.depthAll ds<cLine->∀j (h1:j<vs.length) (h2:j<ws.length),EqAt A s vs[j] ws[j] (pairEq ds ds' j)) ?_ ?_ ?_ ?_ ?_ ?_ ?_ ?_ r
 ·intro A w d' r hu
  have ko:A.units<cLine:=Nat.lt_of_le_of_lt (Nat.le_add_right _ _) hu;cases r with
  |none=>exact RcAt.none_none
  |bool b=>exact RcAt.none_bool _
  |int i=>exact RcAt.none_int _ _
  |str x=>exact RcAt.none_str _ _
  |tup hi=>exact RcAt.none_tuple hi ko
  |lst hl=>exact RcAt.none_list hl ko
 ·intro b A w d' r hu
  have ko:A.units<cLine:=Nat.lt_of_le_of_lt (Nat.le_add_right _ _) hu;cases r with
  |none=>exact RcAt.bool_none _
  |bool b=>exact RcAt.bool_bool _ _
  |int i=>exact RcAt.bool_int _ _ _
  |str x=>exact RcAt.bool_str _ _ _
  |tup hi=>exact RcAt.bool_tuple _ hi ko
  |lst hl=>exact RcAt.bool_list _ hl ko
 ·intro i t A w d' r hu
  have ko:A.units<cLine:=Nat.lt_of_le_of_lt (Nat.le_add_right _ _) hu;cases r with
  |none=>exact RcAt.int_none _ _
  |bool b=>exact RcAt.int_bool _ _ _
  |int i=>exact RcAt.int_int _ _ _ _
  |str x=>exact RcAt.int_str _ _ _ _
  |tup hi=>exact RcAt.int_tuple _ _ hi ko
  |lst hl=>exact RcAt.int_list _ _ hl ko
 ·intro x t A w d' r hu
  have ko:A.units<cLine:=Nat.lt_of_le_of_lt (Nat.le_add_right _ _) hu;cases r with
  |none=>exact RcAt.str_none _ _
  |bool b=>exact RcAt.str_bool _ _ _
  |int i=>exact RcAt.str_int _ _ _ _
  |str x=>exact RcAt.str_str _ _ _ _
  |tup hi=>exact RcAt.str_tuple _ _ hi ko
  |lst hl=>exact RcAt.str_list _ _ hl ko
 ·intro a items ds hi hr ih A w d' r hu
  have ko:A.units<cLine:=Nat.lt_of_le_of_lt (Nat.le_add_right _ _) hu;cases r with
  |none=>exact RcAt.tuple_none hi ko
  |bool b=>exact RcAt.tuple_bool _ hi ko
  |int i=>exact RcAt.tuple_int _ _ hi ko
  |str x=>exact RcAt.tuple_str _ _ hi ko
  |lst hl=>exact RcAt.tuple_list hi hl ko
  |@tup a' qB ds' nc gK=>
   have e:=RcAt.tuples (e:=pairEq ds ds') hi nc ko λj h1 h2=>ih A.in1 _ _ gK (Jo hu) j h1 h2;refine J (show PyData.eqv (.tuple ds) (.tuple ds')=PyData.eqvAll ds ds' by simp only[PyData.eqv]) (rS (eqvAll_eq _ _) (J hr.len (J gK.len ?_)));exact e
 ·intro a vs ds hl hr ih A w d' r hu
  have ko:A.units<cLine:=Nat.lt_of_le_of_lt (Nat.le_add_right _ _) hu;cases r with
  |none=>exact RcAt.list_none hl ko
  |bool b=>exact RcAt.list_bool _ hl ko
  |int i=>exact RcAt.list_int _ _ hl ko
  |str x=>exact RcAt.list_str _ _ hl ko
  |tup hi=>exact RcAt.list_tuple hl hi ko
  |@lst a' AK ds' wC gK=>
   refine J (show PyData.eqv (.list ds) (.list ds')=PyData.eqvAll ds ds' by simp only[PyData.eqv]) ?_
   by_cases t5:vs.size=AK.size
   ·have e:=RcAt.lists (e:=pairEq ds ds') hl wC t5 ko λj h1 h2=>ih A.in1 _ _ gK (Jp hu) j h1 h2
    rw[<-eqvAll_same_length (by refine J hr.len (J gK.len ?_);exact t5),hr.len];exact e
   ·rw[eqvAll_other_length (by refine J hr.len (J gK.len ?_);exact t5)]
    exact RcAt.lists_lengths hl wC (by simpa using t5) ko
 ·intro A ws ds' _ _ j h1;exact absurd h1 (Nat.not_lt_zero _)
 ·intro v d vs ds r _ h1 h2 A ws ds' rs hu j j1 j2
  cases rs with
  |nil=>exact absurd j2 (Nat.not_lt_zero _)
  |cons a b=>
   unfold PyData.depthAll at hu;induction j using NC with
   |zero=>exact qQ r (h1 A _ _ a (by exact Mp hu)) λe=>yd r _ (by have e:v=_:=e;subst e;exact a)
   |succ j=>exact h2 A _ _ b (by exact Mn hu) j (Nat.lt_of_succ_lt_succ j1) (Nat.lt_of_succ_lt_succ j2)
open SeqAt in
theorem C7(A:Around):∀{vs ws:List Value} {ds ds':List PyData},y2 s.heap vs ds->y2 s.heap ws ds'->A.units+PyData.depthAll ds<cLine->∀j (h1:j<vs.length) (h2:j<ws.length),EqAt A s vs[j] ws[j] (pairEq ds ds' j):=λ{vs}=>by
 induction vs with
 |nil=>intro ws ds ds' _ _ _ j h1;exact absurd h1 (Nat.not_lt_zero _)
 |cons v vs ih=>
  intro ws ds ds' r rs hu j j1 j2;cases r with
  |cons r r2=>
  cases rs with
  |nil=>exact absurd j2 (Nat.not_lt_zero _)
  |cons a b=>
   unfold PyData.depthAll at hu;induction j using NC with
   |zero=>exact qQ r (yh r A _ _ a (by exact Mp hu)) λe=>yd r _ (by have e:v=_:=e;subst e;exact a)
   |succ j=>exact ih r2 b (by exact Mn hu) j (Nat.lt_of_succ_lt_succ j1) (Nat.lt_of_succ_lt_succ j2)
open SeqAt in
theorem Ey(hR:Rp c s V φ)(A:Around){d d':PyData}(h1:Dv V p d)(h2:Dv V q d'){w:Value}(hv:Vr s.heap p v)(hw:Vr s.heap q w)(hu:A.units+d.depth<cLine):RcAt A s v w (PyData.eqv d d'):=
 yh (Bu hR h1 _ hv) A w d' (Bu hR h2 _ hw) hu
end
section
theorem xT{b:Bool}{Q:Bool->St->Prop}(h:Q b V):W1 c A φ RB truthy (.bool b) V Q:=λs va hR hv=>by obtain rfl:=ng hv;exact wpAny_truthy_bool (af (TL.refl _) _ V hR rfl h)
theorem Ef{Q:Bool->St->Prop}(h:Q false V):W1 c A φ RB truthy .none V Q:=λs va hR hv=>by obtain rfl:=iG hv;exact truthy_none (af (TL.refl _) _ V hR rfl h)
theorem isList{l:List PV}(hR:Rp c s V φ)(e:V a=some (.lst l)):∃vs:List Value,s.heap.IsList a vs.toArray/\dD s.heap l vs:=by refine iz (hR.obj a _ e) λ_ vs n h1 h2=>?_;exact(lD vs.toList _ h1 rfl n (by simp) h2)
theorem xS{l:List PV}{Q:Bool->St->Prop}(e:V a=some (.lst l))(hz:l.length<=sizeLine)(h:Q (!l.isEmpty) V):W1 c A φ RB truthy (.ref a) V Q:=λs va hR hv=>by obtain rfl:=bj hv;refine ah (isList hR e) λvs hl hv=>?_;have hn:=hv.length;refine wpAny_truthy_list hl (by simp only[size_toArray,<-hn];have:sizeLine=2^24:=rfl;exact Mi hz this) (af (TL.refl _) _ V (hR.toks _) ?_ h);cases hv<;>rfl
theorem NW{a:Int}(h:Q (.int (a+b)) V):W2 c A φ Vr (binaryOp .Add) (.int a) (.int b) V Q:=λs va vb hR ha hb=>by (refine bK (aX ha) λ_ au=>?_;subst au);(refine bK (aX hb) λ_ au=>?_;subst au);exact add_int (af (TL.refl _) _ V (hR.toks _) (.int _ _) h)
theorem NV{a:Int}(h:Q (.int (a-b)) V):W2 c A φ Vr (binaryOp .Sub) (.int a) (.int b) V Q:=λs va vb hR ha hb=>by (refine bK (aX ha) λ_ au=>?_;subst au);(refine bK (aX hb) λ_ au=>?_;subst au);exact sub_int (af (TL.refl _) _ V (hR.toks _) (.int _ _) h)
theorem GS{a:Int}(ho:IntMulOk a b)(h:Q (.int (a*b)) V):W2 c A φ Vr (binaryOp .Mult) (.int a) (.int b) V Q:=λs va vb hR ha hb=>by (refine bK (aX ha) λ_ au=>?_;subst au);(refine bK (aX hb) λ_ au=>?_;subst au);exact mul_int (af (TL.refl _) _ V (hR.toks _) (.int _ _) h) ho
theorem Dx{a:Int}(Nj:b≠0)(h:Q (.int (a.fmod b)) V):W2 c A φ Vr (binaryOp .Mod) (.int a) (.int b) V Q:=λs va vb hR ha hb=>by (refine bK (aX ha) λ_ au=>?_;subst au);(refine bK (aX hb) λ_ au=>?_;subst au);exact mod_int' Nj (af (TL.refl _) _ V (hR.toks _) (.int _ _) h)
theorem lC(hz:x.length+y.length<=sizeLine)(h:Q (.str (x++y)) V):W2 c A φ Vr (binaryOp .Add) (.str x) (.str y) V Q:=λs va vb hR ha hb=>by (refine bK (bA ha) λ_ au=>?_;subst au);(refine bK (bA hb) λ_ au=>?_;subst au);exact add_str (λt k=>(af (TL.refl _) _ V (hR.toks _) (.str _ _) h)) hz
theorem ML{a:Int}(h:Q (.int (a+b)) V):W2 c A φ Vr (inplaceOp .Add) (.int a) (.int b) V Q:=λs va vb hR ha hb=>by (refine bK (aX ha) λ_ au=>?_;subst au);(refine bK (aX hb) λ_ au=>?_;subst au);exact wpAny_iadd_int (af (TL.refl _) _ V (hR.toks _) (.int _ _) h)
theorem qE(hz:x.length+y.length<=sizeLine)(h:Q (.str (x++y)) V):W2 c A φ Vr (inplaceOp .Add) (.str x) (.str y) V Q:=λs va vb hR ha hb=>by (refine bK (bA ha) λ_ au=>?_;subst au);(refine bK (bA hb) λ_ au=>?_;subst au);exact SBL.iadd (λt k _=>(af (TL.refl _) _ V (hR.toks _) (.str _ _) h)) hz
theorem Z4{a:Int}(h:Q (.bool (decide (a<b))) V):W2 c A φ Vr (compareOp .Lt) (.int a) (.int b) V Q:=λs va vb hR ha hb=>by (refine bK (aX ha) λ_ au=>?_;subst au);(refine bK (aX hb) λ_ au=>?_;subst au);exact wpAny_lt_int (af (TL.refl _) _ V hR (.bool _) h)
theorem Z9{a:Int}(h:Q (.bool (decide (a<=b))) V):W2 c A φ Vr (compareOp .LtE) (.int a) (.int b) V Q:=λs va vb hR ha hb=>by (refine bK (aX ha) λ_ au=>?_;subst au);(refine bK (aX hb) λ_ au=>?_;subst au);exact le_int (af (TL.refl _) _ V hR (.bool _) h)
theorem aaa{a:Int}(h:Q (.bool (decide (b<a))) V):W2 c A φ Vr (compareOp .Gt) (.int a) (.int b) V Q:=λs va vb hR ha hb=>by (refine bK (aX ha) λ_ au=>?_;subst au);(refine bK (aX hb) λ_ au=>?_;subst au);exact gt_int (af (TL.refl _) _ V hR (.bool _) h)
theorem aab{a:Int}(h:Q (.bool (decide (b<=a))) V):W2 c A φ Vr (compareOp .GtE) (.int a) (.int b) V Q:=λs va vb hR ha hb=>by (refine bK (aX ha) λ_ au=>?_;subst au);(refine bK (aX hb) λ_ au=>?_;subst au);exact ge_int (af (TL.refl _) _ V hR (.bool _) h)
theorem NL(h:Q (.bool (x.cps.toList<y.cps.toList)) V):W2 c A φ Vr (compareOp .Lt) (.str x) (.str y) V Q:=λs va vb hR ha hb=>by (refine bK (bA ha) λ_ au=>?_;subst au);(refine bK (bA hb) λ_ au=>?_;subst au);exact lt_str (af (TL.refl _) _ V hR (.bool _) h)
theorem NN(h:Q (.bool (y.cps.toList<x.cps.toList)) V):W2 c A φ Vr (compareOp .Gt) (.str x) (.str y) V Q:=λs va vb hR ha hb=>by (refine bK (bA ha) λ_ au=>?_;subst au);(refine bK (bA hb) λ_ au=>?_;subst au);exact P.gt_str (af (TL.refl _) _ V hR (.bool _) h)
theorem FH{a b:PV}{da db:PyData}(hA:Rm n A)(h1:Dv V a da)(h2:Dv V b db)(hd:da.depth<=64)(h:Q (.bool (PyData.eqv da db)) V):W2 c A φ Vr (compareOp .Eq) a b V Q:=λs va vb hR ha hb=>
 Ey hR A h1 h2 ha hb (by have:=hA.units;refine(?_:_<9900);exact Mm hd this) _ _ _ _ (af (TL.refl _) _ V hR (.bool _) h)
theorem NP{a:Int}(h:Q (.bool (a==b)) V):W2 c A φ Vr (compareOp .Eq) (.int a) (.int b) V Q:=λs va vb hR ha hb=>by (refine bK (aX ha) λ_ au=>?_;subst au);(refine bK (aX hb) λ_ au=>?_;subst au);exact eq_int (af (TL.refl _) _ V hR (.bool _) h)
theorem NO(h:Q (.bool (x==y)) V):W2 c A φ Vr (compareOp .Eq) (.str x) (.str y) V Q:=λs va vb hR ha hb=>by (refine bK (bA ha) λ_ au=>?_;subst au);(refine bK (bA hb) λ_ au=>?_;subst au);exact eq_str (af (TL.refl _) _ V hR (.bool _) h)
noncomputable def PV.isNone:PV->Bool
 |.none=>true
 |_=>false
theorem nk(r:Vr h p v):PySem.plainIs v .none=true:=by cases r<;>rfl
theorem rW(r:Vr h p v):(v==Value.none)=p.isNone:=by cases r<;>rfl
theorem NM(h:Q (.bool p.isNone) V):W2 c A φ Vr (compareOp .Is) p .none V Q:=λs va vb hR ha hb=>by obtain rfl:=iG hb;exact wpAny_is_plain (nk ha) (af (TL.refl _) _ V hR (by refine J (rW ha) ?_;exact .bool _) h)
theorem Dn(h:Q (.bool (!p.isNone)) V):W2 c A φ Vr (compareOp .IsNot) p .none V Q:=λs va vb hR ha hb=>by obtain rfl:=iG hb;exact wpAny_isNot_plain (nk ha) (af (TL.refl _) _ V hR (by refine J (rW ha) ?_;exact .bool _) h)
theorem Kh(h:W1 c A φ RB truthy p V λb σ'=>Q (.bool (!b)) σ'):W1 c A φ Vr (unaryOp .Not) p V Q:=λs va hR hv=>
 not_of (wpAny_mono (h s va hR hv) (λb s' zq=>by(refine aR zq λt b' σ' R' r q=>?_;clear zq);obtain rfl:b'=b:=r;exact(af t _ σ' R' (.bool _) q)) λ_ _ y=>y)
end
noncomputable def sl{α:Type}(l:List α)(lo hi:Option Int):List α:=(l.drop (lo.elim 0 (clipAt l.length))).take (hi.elim l.length (clipAt l.length)-lo.elim 0 (clipAt l.length))
theorem oV{j:Int}(h0:0<=j)(h1:j<n)(h:j.toNat=k):(if decide (0<=j)&&decide (j<(n:Int)) then some j.toNat else none)=some k:=
 (if_pos (Bool.and_eq_true_iff.mpr ⟨decide_eq_true h0,decide_eq_true h1⟩)).trans (congrArg some h)
theorem tB(h:k<n):seqIndex? (k:Int) n=some k:=by unfold seqIndex?;refine J (if_neg (α:=Int) (Int.not_lt.mpr (Int.natCast_nonneg k))) ?_;exact oV (Int.natCast_nonneg k) (Int.ofNat_lt.mpr h) rfl
theorem seqIndex_neg(h0:0<k)(h:k<=n):seqIndex? (-(k:Int)) n=some (n-k):=by unfold seqIndex?;refine J (if_pos (α:=Int) (show (-(k:Int))<0 by exact Mh h0)) ?_;exact oV (by exact PQ h) (by exact PO h0) (by exact PN)
theorem pX(x:dD h [p] vs):∃v,vs=[v]/\Vr h p v:=by cases x with|cons a b=>cases b;exact aj _ rfl a
theorem pq(x:dD h [p,q] vs):∃v u,vs=[v,u]/\Vr h p v/\Vr h q u:=by cases x with|cons a b=>(refine ah (pX b) λu au r=>?_;subst au);exact dM _ _ rfl a r
theorem y7{r:PV}(x:dD h [p,q,r] vs):∃v u t,vs=[v,u,t]/\Vr h p v/\Vr h q u/\Vr h r t:=by cases x with|cons a b=>(refine aV (pq b) λu t au r1 r2=>?_;subst au);exact lY _ _ _ rfl ⟨a,r1,r2⟩
theorem Pk{r o:PV}(x:dD h [p,q,r,o] vs):∃v u t z,vs=[v,u,t,z]/\Vr h p v/\Vr h q u/\Vr h r t/\Vr h o z:=by cases x with|cons a b=>(refine fy (y7 b) λu t z au r1 r2 r3=>?_;subst au);exact gZ _ _ _ _ rfl a r1 ⟨r2,r3⟩
section
theorem kS{l:List PV}(hR:Rp c s V φ)(e:V a=some (.lst l)):∃vs n,s.heap.get? a=some (listOf vs n)/\dD s.heap l vs.toList:=(hR.obj a _ e).2
theorem vp(h:k<=sizeLine):(k:Int)<2^63:=by have:sizeLine=2^24:=rfl;exact Mi h this
theorem jb{l:List PV}{k:Int}(hj:seqIndex? k l.length=some j)(hx:l[j]? =some p)(h1:-2^63<=k)(h2:k<2^63)(h:Q p V)
  (hs:∀t u,subscripted slice false (Value.ref t) (Value.int k u)=operate [Value.ref t,Value.int k u] (getItem (Value.ref t) (Value.int k u)):=by intro _ _;rfl):
  W2 c A φ Vr (subscriptTail value slice) (.tup l) (.int k) V Q:=λs va vb hR ha hb=>by
 refine bK (aX hb) λ_ au=>?_;subst au;cases ha with
 |@tup _ a items hi hr=>
  refine ah (hr.get hx) λv e1 e2=>?_;exact item_tupleT (l:=items.toList) (by simpa using hi) h1 h2 (by refine rS hr.length ?_;exact hj) e1 (af (TL.refl _) _ V hR e2 h) (hs _ _)
theorem GA{l:List PV}(e:V a=some (.lst l))(hx:l[k]? =some p)(hk:(k:Int)<2^63)(h:Q p V):W2 c A φ Vr getItem (.ref a) (.int k) V Q:=λs va vb hR ha hb=>by
 (refine bK (aX hb) λ_ au=>?_;subst au);obtain rfl:=bj ha
 refine ah (isList hR e) λvs hl hv=>?_;refine ah (hv.get hx) λv e1 e2=>?_;exact wpAny_getItem_list hl (Int.natCast_nonneg _) hk (by simpa using e1) (af (TL.refl _) _ V hR e2 h)
theorem I6{l:List PV}(e:V a=some (.lst l))(h0:0<k)(hk:k<=l.length)(hz:l.length<=sizeLine)(hx:l[l.length-k]? =some p)(h:Q p V):W2 c A φ Vr getItem (.ref a) (.int (-(k:Int))) V Q:=λs va vb hR ha hb=>by
 (refine bK (aX hb) λ_ au=>?_;subst au);obtain rfl:=bj ha
 refine ah (isList hR e) λvs hl hv=>?_;refine ah (hv.get hx) λv e1 e2=>?_;have hn:=hv.length;have z:=vp hz
 exact wpAny_getItem_list_neg hl (by exact Mh h0) (by refine J size_toArray (?_);exact Xz hk hn) (by exact Xy hk z) (by
  have:(-(k:Int)+(vs.toArray.size:Int)).toNat=l.length-k:=by refine J size_toArray (?_);exact Xx hn
  refine J this ?_;simpa using e1) (af (TL.refl _) _ V hR e2 h)
theorem cG{l:List PV}(e:V a=some (.lst l))(hx:l[k]? =some p)(hk:(k:Int)<2^63)(h:Q p V)
  (hs:∀u,subscripted slice false (Value.ref a) (Value.int k u)=operate [Value.ref a,Value.int k u] (getItem (Value.ref a) (Value.int k u)):=by intro _;rfl):
  W2 c A φ Vr (subscriptTail value slice) (.ref a) (.int k) V Q:=λs va vb hR ha hb=>by
 have g:=GA (c:=c) (A:=A) e hx hk h s va vb hR ha hb
 (refine bK (aX hb) λ_ au=>?_;subst au);obtain rfl:=bj ha
 refine ah (isList hR e) λvs hl hv=>?_;exact tail_any hl.typeIs slot_list_getitem.lookup g (hs _)
theorem Gr(hz:x.length<=sizeLine)(h:Q (.int x.length) V):aw c A φ (.builtin "len") [.str x] V Q:=λs vs hR hv=>by cases hv with|cons h1 hv=>cases hv;(refine bK (bA h1) λ_ au=>?_;subst au);exact len_str (by have:=vp hz;exact XG this) (af (TL.refl _) _ V (hR.toks _) (.int _ _) h)
theorem ib{l:List PV}(hz:l.length<=sizeLine)(h:Q (.int l.length) V):aw c A φ (.builtin "len") [.tup l] V Q:=λs vs hR hv=>by
 cases hv with|cons h1 hv=>cases hv;cases h1 with|tup hi hr=>
  have hn:=hr.length;exact len_tuple hi (by refine rS Array.length_toList (rS hn ?_);exact vp hz) (af (TL.refl _) _ V (hR.toks _) (by refine rS Array.length_toList (rS hn ?_);exact .int _ _) h)
theorem iJ{l:List PV}(e:V a=some (.lst l))(hz:l.length<=sizeLine)(h:Q (.int l.length) V):aw c A φ (.builtin "len") [.ref a] V Q:=λs vs hR hv=>by cases hv with|cons h1 hv=>cases hv;obtain rfl:=bj h1;refine ah (isList hR e) λws hl hw=>?_;have hn:=hw.length;exact call_len_list hl (by simp only[size_toArray,<-hn];exact vp hz) (af (TL.refl _) _ V (hR.toks _) (by simp only[size_toArray,<-hn];exact .int _ _) h)
theorem jH{l l':List PV}{AK:Array Value}{n':Nat}{h':Heap}(hR:Rp c s V φ)(e:V a=some (.lst l))(hs:Heap.SameBut a s.heap h')(ho:h'.get? a=some (listOf AK n'))(hv:dD s.heap l' AK.toList)(t:Nat):
  TL s.heap h'/\Rp c {s with heap:=h',toks:=t} (upd V a (.lst l')) φ:=by
 have t1:TL s.heap h':=TL.sameBut hs (hR.obj a _ e).2.j7;exact hR.change (s':={s with heap:=h',toks:=t}) e hs rfl rfl (fN AK n' ho (hv.mono t1))
theorem bN{l:List PV}(e:V a=some (.lst l))(hz:l.length<=sizeLine)(h:Q .none (upd V a (.lst (l++[p])))):aw c A φ (.builtin "list.append") [.ref a,p] V Q:=λs vs hR hv=>by refine aV (pq hv) λva v au h1 h2=>?_;subst au;obtain rfl:=bj h1;refine b0 (kS hR e) λws k ho hw=>?_;refine append_at ho (λh' hs DS=>?_) (by refine rS Array.length_toList (rS hw.length ?_);exact hz);obtain ⟨t,R⟩:=jH hR e hs DS (l':=l++[p]) (by simpa using hw.append (.cons h2 .nil)) s.toks;exact af t _ _ R .none h
theorem kR{l:List PV}{id:String}{pl:Sem Bool}{G:Value×List Value->Shared->Prop}(hR:Rp c s V φ)(e:V a=some (.lst l))(slot:Slot "list" name id)
  (hty:typeOf (.builtin id)=pure (.type "method_descriptor")) (h:G (.builtin id,[.ref a]) s):wpAny (Mo c) A (getMethod (.ref a) name pl) G F0 s:=by
 refine b0 (kS hR e) λws k ho hw=>?_;exact getMethod_builtin (aj _ ho rfl) PySem.F.plainAttrs_list slot hty (λb q=>by cases q;exact(aj _ ho rfl)) h
end
section
open PySem.Builtin.ObjectAttr
section
variable {x:Addr}
theorem yF{es:List DictEntry}(x:IE h m es)(y:Str):(∀p,dB m y=some p->∃e,es.find? (λe=>e.key.isStr y)=some e/\Vr h p e.val)/\(dB m y=none->es.find? (λe=>e.key.isStr y)=none):=by
 induction x with
 |nil=>exact⟨λp q=>(nomatch q),λ_=>rfl⟩
 |@cons z p e m es hk hv _ ih=>
  refine bK hk λt hk=>?_;simp only[dB,find?_cons,hk]
  by_cases q:y=z
  ·subst q
   have:(Value.str y t).isStr y=true:=by exact BEq.rfl
   refine J this (J (if_pos rfl) ?_);exact⟨λp' q=>by obtain rfl:=sI q;exact(aj e rfl hv),λq=>nomatch q⟩
  ·have:(Value.str z t).isStr y=false:=by simp[Value.isStr,Ne.symm q]
   refine J this (J (if_neg q) ?_);exact ih
theorem vq{es:List DictEntry}(x:IE h m es):es.any (·.refKey)=false:=by
 induction x with
 |nil=>rfl
 |@cons z p e m es hk hv _ ih=>
  refine bK hk λt hk=>?_;refine J any_cons (J ih (J (Bool.or_false _) ?_));unfold DictEntry.refKey;exact J hk rfl
theorem IG{es:List DictEntry}{hsh:Int}{t:Tok}(x:IE h m es)(hv:Vr h p v):IE h (bh m name p) (putL name hsh (.str name t) v es):=by
 induction x with
 |nil=>exact .cons ⟨t,rfl⟩ hv .nil
 |@cons z q e m es hk sC r ih=>
  refine bK hk λu hk=>?_;unfold bh putL
  by_cases y:name=z
  ·subst y
   have:e.key.isStr name=true:=by refine J hk ?_;exact BEq.rfl
   refine J (if_pos rfl) (J (if_pos this) ?_);exact .cons ⟨u,hk⟩ hv r
  ·have:e.key.isStr name=false:=by refine J hk ?_;simp[Value.isStr,Ne.symm y]
   rw[if_neg y,if_neg (by refine J this ?_;exact Bool.false_ne_true)];exact .cons ⟨u,hk⟩ sC ih
theorem tY(hR:Rp c s V φ)(e1:V x=some (.inst C d))(e2:V d=some (.dh m)):
  ∃es n,W.InstAt s.heap x (instObj C d) C (some (dictOf es n))/\s.heap.get? d=some (dictOf es n)/\IE s.heap m es/\(∀y p,dB m y=some p->∃v,lookIn y (dictOf es n)=some (some v)/\Vr s.heap p v)/\∀y,dB m y=none->lookIn y (dictOf es n)=some none:=by
 refine aA (hR.obj x _ e1) λ_ h1=>?_;refine xJ (hR.obj d _ e2) λ_ _ es n h2 h3=>?_;refine⟨es,n,⟨h1,rfl,rfl,h2⟩,h2,h3,λy p hy=>?_,λy hy=>?_⟩
 ·refine ah ((yF h3 y).1 p hy) λe q r=>?_
  refine(aj e.val ?_ r);unfold lookIn;dsimp only;exact J q rfl
 ·unfold lookIn
  dsimp only;refine J ((yF h3 y).2 hy) ?_;dsimp only;refine J (vq h3) ?_
  rfl
theorem Ac(r:Vr h p v):handedIn v=true:=by cases r<;>rfl
theorem pP(ok:c.Ok)(e1:V x=some (.inst C d))(e2:V d=some (.dh m))(hg:plainGet c.K C name=true)(hh:hasDictIn c.K C=true)(ha:findIn c.K (.ref C) name=some none)
  (hv:dB m name=some p) (h:Q p V):W1 c A φ Vr (λo=>getAttr o name true) (.ref x) V Q:=λs va hR hx=>by
 obtain rfl:=bj hx;refine g0 (tY hR e1 e2) λes k I _ _ f _=>?_;refine ah (f _ _ hv) λv hl r=>?_;exact get_value (ok.X.keeps hR.base) I (plainGet_of hg).1 (findObj_own hh ha rfl hl) (Ac r) (af (TL.refl _) p V (hR.toks _) r h)
theorem tO(ok:c.Ok)(e1:V x=some (.inst C d))(e2:V d=some (.dh m))(hg:plainGet c.K C name=true)(hf:findIn c.K (.ref C) name=some (some (.ref f)))(ht:typeIn c.K (.ref f)=some (.type "function"))
  (hv:dB m name=none):Meth c A φ V (.ref x) name (.ref f) [.ref x]:=λs va hR hx pl G h=>by
 obtain rfl:=bj hx;refine g0 (tY hR e1 e2) λes k I _ _ _ g=>?_;exact method_fn (ok.X.keeps hR.base) I (plainGet_of hg).1 (plainGet_of hg).2 hf ht (by refine(?_:(lookIn name _).map _=_);refine J (g _ hv) ?_;rfl) (h _ (.cons (.ref _) .nil))
theorem tF(ok:c.Ok){Q:Unit->St->Prop}(e1:V x=some (.inst C d))(e2:V d=some (.dh m))(hs:findIn c.K (.ref C) "__setattr__"=some (some (.builtin "object.__setattr__")))(hp:plainOver c.K C=true)
  (ht:takerIn c.K C name=some none) (hh:hasDictIn c.K C=true) (hz:(bh m name p).length<=100) (h:Q () (upd V d (.dh (bh m name p)))):W2 c A φ RU (λov v=>setAttr ov name v) (.ref x) p V Q:=λs va vb hR hx hv=>by
 obtain rfl:=bj hx;refine g0 (tY hR e1 e2) λes k I D ie f g=>?_;have X:=ok.X.keeps hR.base;refine set_plain X I hs (osa_open X (s:={s with toks:=s.toks+1}) I hp ht λb=>?_);refine ah (any_some hh) λcd hc pD=>?_;have hx:=I.at_;have X':c.K.In ({s with toks:=s.toks+1}:Shared).heap:=X;have L:=(looks_clsIn (M:=Mo c) X' hc);refine wpAny_bind (wpAny_pure (wpAny_bind (wpAny_bind (wpAny_loadPart hx (wpAny_bind (L.here (s:={s with toks:=s.toks+1}) ?_))))));refine J pD ?_;refine wpAny_pure (a:=some d) (wpAny_bind (wpAny_pure (wpAny_bind ?_)));unfold nsSet;refine wpAny_bind (wpAny_bind (wpAny_askSetting (wpAny_pure (wpAny_bind (wpAny_mkText (wpAny_bind (wpAny_loadPart (o:=dictOf es k) D ?_)))))));dsimp only
 have cn:(!es.toArray.any (·.key.isStr name)&&es.toArray.any (·.refKey))=false:=by exact rS Array.any_toList (rS Array.any_toList (J toList_toArray (J (vq ie) (J (Bool.and_false _) rfl))))
 refine J (aRefKeyMayBeTheName_at _ _) (J cn ?_);have D':=Heap.get?_update_self (h:=s.heap) (a:=d) (o:=dictOf es k) (Obj.putName name (PyData.keyHash c.w.params name) (.str name (s.toks+1)) vb) D (by refine J (putName_dict _ _ _ _ _ _) ?_;rfl);rw[putName_dict] at D';have t:=TL.sameBut (h:=s.heap) (Heap.SameBut.update s.heap d (Obj.putName name (PyData.keyHash c.w.params name) (.str name (s.toks+1)) vb)) (hR.obj d _ e2).2.j7;have ie':=IG (name:=name) (hsh:=PyData.keyHash c.w.params name) (t:=s.toks+1) ie hv;refine wpAny_updatePart D ?_;refine wpAny_bind (wpAny_lookBehind D' (pastItsLine_dict (by refine J size_toArray (rS ie'.length (J sizeLine_eq ?_));exact Xw hz)) ?_)
 refine aA (hR.change (s':={s with heap:=s.heap.update d (Obj.putName name (PyData.keyHash c.w.params name) (.str name (s.toks+1)) vb),toks:=s.toks+1+1}) (o':=.dh (bh m name p)) e2 (Heap.SameBut.update ..) rfl rfl
  (lE hz _ _ D' (ie'.mono t))) λt' R'=>?_
 exact wpAny_pure (af t' () _ R' trivial h)
end
end
section
open PySem.Builtin.ObjectAttr
section
theorem Rm.make(h:Rm (n+1) A):Rm n (A.under (.builtin "type.__call__" ⟨.ref C::vs,[]⟩)):=
 ⟨h.handled,by refine J (depth_under_make _ _ _) ?_;have:=h.depth;exact Mj this,by refine J (units_under_make _ _ _) ?_;have:=h.units;exact Yr this⟩
theorem mW(ok:c.Ok){fI:Addr}(hA:Rm (n+1) A)(hm:makesIn c.K C=true)(hi:findIn c.K (.ref C) "__init__"=some (some (.ref fI)))(hf:typeIn c.K (.ref fI)=some (.type "function"))
  (h:∀x d A',Rm n A'->V x=none->V d=none->x≠d->ry c A' φ (.ref fI) (.ref x::ps) (upd (upd V d (.dh [])) x (.inst C d)) λp σ'=>p=.none/\Q (.ref x) σ'):aw c A φ (.ref C) ps V Q:=λs vs hR hv=>by
 have X:=ok.X.keeps hR.base;obtain ⟨hh,g,d,t,os⟩:=s;refine wpAny_call (make_core (makes_of X hm) (looks_findIn X hi) (λself=>bind_fn X self hf) (.inl rfl) ?_)
 have R1:Rp c ⟨hh.push emptyDict,g,d,t,os⟩ (upd V hh.objs.size (.dh [])) φ:=
  (hR.push emptyDict t).name hR.fresh hR.ij hR.dK (lE (by simp) [] 0 (Heap.get?_push_size hh rfl) .nil)
 have t5:(hh.push emptyDict).objs.size=hh.objs.size+1:=Heap.size_push ..
 have R2:Rp c ⟨(hh.push emptyDict).push (instObj C hh.objs.size),g,d,t,os⟩ (upd (upd V hh.objs.size (.dh [])) (hh.objs.size+1) (.inst C hh.objs.size)) φ:=by
  have:=(R1.push (instObj C hh.objs.size) t).name (a:=hh.objs.size+1) (o:=.inst C hh.objs.size) (by have:=R1.fresh;rw[t5] at this;exact this) (by have:=R1.ij;rw[t5] at this;exact this)
   (by have:=R1.dK;rw[t5] at this;exact this) (by show Heap.get? _ _=_;refine rS t5 ?_;exact Heap.get?_push_size _ rfl)
  exact this
 have t2:TL hh ((hh.push emptyDict).push (instObj C hh.objs.size)):=(TL.push _ _).trans (TL.push _ _);have fr:=R1.fresh;rw[t5] at fr;have hx:V (hh.objs.size+1)=none:=by rw[aB (Nat.succ_ne_self _)] at fr;exact fr
 refine codeAny_mono (h (hh.objs.size+1) hh.objs.size _ hA.make hx hR.fresh (Nat.succ_ne_self _) _ (.ref (hh.objs.size+1)::vs) R2 (.cons (.ref _) (hv.mono t2))) λr s' x=>?_
 match r,x with
 |.ok (.ret v),⟨t3,p,σ',R',r',q1,q2⟩=>
  subst q1;obtain rfl:=iG r';exact iQ rfl (t2.trans t3) _ ⟨σ',R',.ref _,q2⟩
end
end
section
variable {K:Type}
noncomputable def cO[DecidableEq K](l:List (K×PV))(k:K):Option PV:=(l.find? λkv=>decide (kv.1=k)).map (·.2)
noncomputable def dk[DecidableEq K](l:List (K×PV))(k:K)(v:PV):List (K×PV):=
 if (cO l k).isSome then l.map (λkv=>if kv.1=k then (kv.1,v) else kv) else l++[(k,v)]
theorem iK[DecidableEq K]{l:List (K×PV)}{cm:List (K×Value)}(x:KR h l cm)(k:K):rm h (cO l k) (valueAt cm k):=by
 induction x with
 |nil=>exact .none
 |@cons k' p v l cm hv _ ih=>
  unfold cO valueAt at*;simp only[find?_cons]
  by_cases e:k'=k
  ·simp only[e,decide_true,Option.map_some];exact .some hv
  ·simp only[e,decide_false];exact ih
theorem qv[DecidableEq K](cm:List (K×Value))(k:K):cm.any (λkv=>decide (kv.1=k))=(valueAt cm k).isSome:=by
 unfold valueAt;induction cm with
 |nil=>rfl
 |cons kv r ih=>
  simp only[any_cons,find?_cons]
  by_cases e:kv.1=k<;>simp[e,ih]
theorem gy{p:Option PV}{v:Option Value}(x:rm h p v):p.isSome=v.isSome:=by cases x<;>rfl
theorem Iq[DecidableEq K]{l:List (K×PV)}{cm:List (K×Value)}(x:KR h l cm)(k:K)(hv:Vr h p v):KR h (l.map λkv=>if kv.1=k then (kv.1,p) else kv) (cm.map λkv=>if kv.1=k then (kv.1,v) else kv):=by
 induction x with
 |nil=>exact .nil
 |@cons k' q u l cm hq _ ih=>
  simp only[map_cons]
  by_cases e:k'=k
  ·simp only[e,if_true];exact .cons hv ih
  ·simp only[e,if_false];exact .cons hq ih
theorem Ir{l:List (K×PV)}{cm:List (K×Value)}(x:KR h l cm)(k:K)(hv:Vr h p v):KR h (l++[(k,p)]) (cm++[(k,v)]):=by
 induction x with
 |nil=>exact .cons hv .nil
 |cons hq _ ih=>exact .cons hq ih
theorem tT[DecidableEq K]{l:List (K×PV)}{cm:List (K×Value)}(x:KR h l cm)(k:K)(hv:Vr h p v):KR h (dk l k p) (stored cm k v):=by
 unfold dk stored;rw[qv,gy (iK x k)]
 by_cases q:(valueAt cm k).isSome=true
 ·exact J (if_pos q) (J (if_pos q) (Iq x k hv))
 ·exact J (if_neg q) (J (if_neg q) (Ir x k hv))
end
section
variable {xs:List (List PV×Addr×Value)} {k:List PV}
theorem uh:(@atKey _ cy xs k).map (·.2)=@valueAt _ cy (jG xs) k:=by
 unfold atKey valueAt jG;induction xs with
 |nil=>rfl
 |cons x r ih=>
  simp only[find?_cons,map_cons];induction @decide (x.1=k) (cy _ _) with
  |true=>rfl
  |false=>exact ih
theorem wZ:jG (@storedH _ cy xs k a v)=@stored _ cy (jG xs) k v:=by
 letI:=cy
 have e:=qv (jG xs) k;rw[<-uh] at e;unfold storedH stored;refine J e ?_;have:(Option.map (λx=>x.2) (atKey xs k)).isSome=(atKey xs k).isSome:=by induction atKey xs k<;>rfl
 refine J this ?_
 split
 ·unfold jG
  refine J map_map (J map_map ?_)
  congr 1
  funext x
  dsimp only[Function.comp,putAt]
  split<;>rfl
 ·unfold jG;exact map_append
end
section
theorem hV(l5:∃o,c.H.get? sysModules=some o)(hR:Rp c s V φ)(e:V d=some o):(d==sysModules)=false:=by rw[beq_eq_false_iff_ne];rintro rfl;refine bK l5 λo' h=>?_;clear l5;rw[(hR.obj _ _ e).1] at h;exact bL h
theorem tW{t:Tok}:(strKind c.prog c.w).is x (.str x t)=true:=strKind_is c.prog c.w x t
theorem qC{i:Int}{t:Tok}:(intKind c.prog c.w).is i (.int i t)=true:=intKind_is c.prog c.w i t
theorem MJ(l5:∃o,c.H.get? sysModules=some o){l:List (Str×PV)}(e:V d=some (.dS l))(h:Q (.bool (cO l x).isSome) V):W2 c A φ Vr (compareOp .In) (.str x) (.ref d) V Q:=λs va vb hR ha hb=>by
 (refine bK (bA ha) λ_ au=>?_;subst au);obtain rfl:=bj hb
 refine eX (hR.obj d _ e) λ_ cm hd hk=>?_;refine wpAny_in_of tW (hV l5 hR e) hd.mapOf (af (TL.refl _) _ V (hR.toks _) ?_ h);refine J (gy (iK hk x)) ?_;exact .bool _
theorem EW(l5:∃o,c.H.get? sysModules=some o){l:List (Int×PV)}{x:Int}(e:V d=some (.dI l))(h:Q (.bool (cO l x).isSome) V):W2 c A φ Vr (compareOp .In) (.int x) (.ref d) V Q:=λs va vb hR ha hb=>by
 (refine bK (aX ha) λ_ au=>?_;subst au);obtain rfl:=bj hb
 refine eX (hR.obj d _ e) λ_ cm hd hk=>?_;refine wpAny_in_of qC (hV l5 hR e) hd.mapOf (af (TL.refl _) _ V (hR.toks _) ?_ h);refine J (gy (iK hk x)) ?_;exact .bool _
theorem yq(l5:∃o,c.H.get? sysModules=some o){l:List (Int×PV)}{x:Int}(e:V d=some (.dI l))(h:Q (.bool (!(cO l x).isSome)) V):W2 c A φ Vr (compareOp .NotIn) (.int x) (.ref d) V Q:=λs va vb hR ha hb=>by
 (refine bK (aX ha) λ_ au=>?_;subst au);obtain rfl:=bj hb
 refine eX (hR.obj d _ e) λ_ cm hd hk=>?_;refine wpAny_notIn_of qC (hV l5 hR e) hd.mapOf (af (TL.refl _) _ V (hR.toks _) ?_ h);refine J (gy (iK hk x)) ?_;exact .bool _
theorem wV{r:List PV}(h1:PV.keys r=true)(h2:PV.jn r<=6)(hv:Vr s.heap (.tup r) (.ref a)):@HeapKind.is c.prog c.w _ cy (gV c.prog c.w) s.heap r a:=(aN h1 h2 hv)
theorem YO(l5:∃o,c.H.get? sysModules=some o)(hA:Rm n A){l:List (List PV×PV)}{r:List PV}(e:V d=some (.dT l))(h1:PV.keys r=true)(h2:PV.jn r<=6)(h:Q (.bool (@cO _ cy l r).isSome) V):
  W2 c A φ Vr (compareOp .In) (.tup r) (.ref d) V Q:=λs va vb hR ha hb=>by
 obtain rfl:=bj hb;refine eX (hR.obj d _ e) λ_ xs hd hk=>?_
 letI:=cy
 cases ha with
 |tup hi hr=>
  refine wpAny_in_heap (k:=r) (knd:=gV c.prog c.w) (by refine(?_:A.units+1+8<9900);have:=hA.units;exact PJ this) (wV h1 h2 (.tup hi hr)) (hV l5 hR e) hd (af (TL.refl _) _ V (hR.toks _) ?_ h);refine J (gy (iK hk r)) (rS uh ?_);have:(Option.map (λx=>x.2) (atKey xs r)).isSome=(atKey xs r).isSome:=by induction atKey xs r<;>rfl
  refine J this ?_;exact .bool _
theorem nC{l:List (Str×PV)}(e:V d=some (.dS l))(hx:cO l x=some p)(h:Q p V)
  (hs:∀u,subscripted slice false (Value.ref d) (Value.str x u)=operate [Value.ref d,Value.str x u] (getItem (Value.ref d) (Value.str x u)):=by intro _;rfl):
  W2 c A φ Vr (subscriptTail value slice) (.ref d) (.str x) V Q:=λs va vb hR ha hb=>by
 obtain rfl:=bj ha;(refine bK (bA hb) λ_ au=>?_;subst au);refine eX (hR.obj d _ e) λ_ cm hd hk=>?_;have o:=iK hk x;rw[hx] at o;induction q:valueAt cm x with
 |none=>rw[q] at o;cases o
 |some v=>
  rw[q] at o;cases o with
  |some r=>exact tail_any hd.typeIs slot_dict_getitem.lookup (wpAny_getItem_of tW hd.mapOf q (af (TL.refl _) _ V (hR.toks _) r h)) (hs _)
theorem ZD(hA:Rm n A){l:List (List PV×PV)}{r:List PV}(e:V d=some (.dT l))(h1:PV.keys r=true)(h2:PV.jn r<=6)(hx:@cO _ cy l r=some p)(h:Q p V)
  (hs:∀u,subscripted slice false (Value.ref d) (Value.ref u)=operate [Value.ref d,Value.ref u] (getItem (Value.ref d) (Value.ref u)):=by intro _;rfl):
  W2 c A φ Vr (subscriptTail value slice) (.ref d) (.tup r) V Q:=λs va vb hR ha hb=>by
 obtain rfl:=bj ha;refine eX (hR.obj d _ e) λ_ xs hd hk=>?_
 letI:=cy
 have o:=iK hk r;rw[hx,<-uh] at o;cases hb with
 |tup hi hr=>
  induction q:atKey xs r with
  |none=>rw[q] at o;cases o
  |some z=>
   rw[q] at o;cases o with
   |some rv=>exact tail_any hd.typeIs slot_dict_getitem.lookup (wpAny_getItem_heap (k:=r) (knd:=gV c.prog c.w) (by refine(?_:A.units+1+8<9900);have:=hA.units;exact PJ this) (wV h1 h2 (.tup hi hr)) hd q (af (TL.refl _) _ V (hR.toks _) rv h)) (hs _)
theorem Hs{l:List (Int×PV)}{x:Int}{Q:Unit->St->Prop}(e:V d=some (.dI l))(hz:l.length<=sizeLine)(h:Q () (upd V d (.dI (dk l x p)))):W3 c A φ RU setItem (.ref d) (.int x) p V Q:=λs va vb vd hR ha hb hv=>by
 obtain rfl:=bj ha;(refine bK (aX hb) λ_ au=>?_;subst au);refine eX (hR.obj d _ e) λ_ cm hd hk=>?_;have hl:cm.length=l.length:=by have:=congrArg length hk.keys;simpa using this.symm
 refine wpAny_setItem_pairs qC hd (λh' pD hs=>?_) (by refine J hl ?_;exact hz);have t:=TL.sameBut hs (hR.obj d _ e).2.j7;refine aA (hR.change (s':={s with heap:=h',toks:=s.toks+1}) (o':=.dI (dk l x p)) e hs rfl rfl (aj _ pD ((tT hk x hv).mono t))) λt' R'=>?_;exact af t' () _ R' trivial h
theorem Px(hA:Rm n A){l:List (List PV×PV)}{r:List PV}{Q:Unit->St->Prop}(e:V d=some (.dT l))(h1:PV.keys r=true)(h2:PV.jn r<=6)(hz:l.length<=sizeLine)(h:Q () (upd V d (.dT (@dk _ cy l r p)))):
  W3 c A φ RU setItem (.ref d) (.tup r) p V Q:=λs va vb vd hR ha hb hv=>by
 obtain rfl:=bj ha;refine eX (hR.obj d _ e) λ_ xs hd hk=>?_
 letI:=cy
 have hl:xs.length=l.length:=by have:=congrArg length hk.keys;simpa[jG] using this.symm
 cases hb with
 |tup hi hr=>
  refine wpAny_setItem_heap (k:=r) (knd:=gV c.prog c.w) (by refine(?_:A.units+1+8<9900);have:=hA.units;exact PJ this) (wV h1 h2 (.tup hi hr)) hd (λh' pD hs=>?_) (by refine J hl ?_;exact hz);have t:=TL.sameBut hs (hR.obj d _ e).2.j7;obtain ⟨t',R'⟩:=hR.change (s':={s with heap:=h',toks:=s.toks+(gV c.prog c.w).draws r}) (o':=.dT (dk l r p)) e hs rfl rfl (aj _ pD (by refine J wZ ?_;exact(tT hk r hv).mono t));exact(af t' () _ R' trivial h)
theorem Dg(l5:∃o,c.H.get? sysModules=some o){l:List (Int×PV)}{x:Int}(e:V d=some (.dI l))(h:Q ((cO l x).getD p) V):aw c A φ (.builtin "dict.get") [.ref d,.int x,p] V Q:=λs vs hR hv=>by
 refine fy (y7 hv) λva vb vd au h1 h2 h3=>?_;subst au;obtain rfl:=bj h1;(refine bK (aX h2) λ_ au=>?_;subst au);refine eX (hR.obj d _ e) λ_ cm hd hk=>?_;refine call_meetsIn F.slot_dict_get hd.typeIs F.entry_dict_get (F.args_dict_get_3 _ _ _) (meets_dict_get_default (intKind c.prog c.w) d qC (hV l5 hR e) vd) (ir _ hd.mapOf (TL.refl _) _ ⟨V,hR.toks _,?_,h⟩);have o:=iK hk x;induction q:cO l x with
 |none=>rw[q] at o;induction q':valueAt cm x with
  |none=>exact h3
  |some v=>rw[q'] at o;cases o
 |some p'=>rw[q] at o;induction q':valueAt cm x with
  |none=>rw[q'] at o;cases o
  |some v=>rw[q'] at o;cases o with|some r=>exact r
theorem oW{l:List (Int×PV)}(e:V d=some (.dI l)):Meth c A φ V (.ref d) "get" (.builtin "dict.get") [.ref d]:=λs va hR ha pl G h=>by obtain rfl:=bj ha;refine eX (hR.obj d _ e) λ_ cm hd hk=>?_;exact getMethod_builtin hd.typeIs PySem.F.plainAttrs_dict F.slot_dict_get F.type_dict_get hd.mapOf.noDict (h _ (.cons (.ref _) .nil))
end
section
set_option backward.match.sparseCases true
inductive aO (V:St):PV->As->List PV->Prop
 |tup (l:List PV):aO V (.tup l) (.tup l) l
 |lst {a:Addr} {l:List PV} (e:V a=some (.lst l)):aO V (.ref a) (.lst a) l
 |str (x:Str):aO V (.str x) (.str x) (x.cps.toList.map λu=>.str ⟨#[u]⟩)
 |gx {a:Addr} {lo hi:Int} (e:V a=some (.gx lo hi)) (h1:-2^40<=lo) (h2:hi<=2^40) (h3:lo<=2^40) (h4:-2^40<=hi):aO V (.ref a) (.gx lo ((hi-lo).toNat:Nat)) ((range (hi-lo).toNat).map λj:Nat=>.int (lo+(j:Int)))
def rn(V:St)(k:As)(l:List PV):Prop:=match k with
 |.lst a=>V a=some (.lst l)
 |.tup l'=>l'=l
 |.str x=>l=x.cps.toList.map λu=>.str ⟨#[u]⟩
 |.gx lo left=>l=(range left.toNat).map λj:Nat=>.int (lo+(j:Int))
section
theorem A9{t:Tok}{G:Option Value->Shared->Prop}(hit:s.heap.IsStrIter I (if x.cps.all (·<128) then "str_ascii_iterator" else "str_iterator") x t i)(hx:x.cps[i]? =some u)
  (hQ:∀h',h'.IsStrIter I (if x.cps.all (·<128) then "str_ascii_iterator" else "str_iterator") x t (i+1)->Heap.SameBut I s.heap h'->G (some (.str ⟨#[u]⟩ s.toks)) {s with heap:=h',toks:=s.toks+1}):wpAny (Mo c) A (pyNext (.ref I)) G F0 s:=by
 induction ha:x.cps.all (·<128)<;>simp only[ha,if_true,Bool.false_eq_true,if_false] at hit hQ
 ·exact wpAny_pyNext_wide_item hit hx hQ
 ·exact wpAny_pyNext_ascii_item hit hx hQ
theorem A8{t:Tok}{G:Option Value->Shared->Prop}(hh:A.handled=none)(hit:s.heap.IsStrIter I (if x.cps.all (·<128) then "str_ascii_iterator" else "str_iterator") x t i)(hx:x.cps[i]? =none)
  (hQ:∀h',Heap.ExtBut I s.heap h'->G none {s with heap:=h'}):wpAny (Mo c) A (pyNext (.ref I)) G F0 s:=by
 induction ha:x.cps.all (·<128)<;>simp only[ha,if_true,Bool.false_eq_true,if_false] at hit
 ·exact wpAny_pyNext_wide_end hh hit hx hQ
 ·exact wpAny_pyNext_ascii_end hh hit hx hQ
theorem ox{k:As}{l:List PV}{G:Value->Shared->Prop}(hs:aO V p k l)(hR:Rp c s V φ)(hv:Vr s.heap p v)
  (h:∀I s',TL s.heap s'.heap->Rp c s' V ((I,.it k 0)::φ)->G (.ref I) s'):wpAny (Mo c) A (pyIter v) G F0 s:=by
 have ent:∀{o:Obj},rT c.prog c.w (s.heap.push o) s.heap.objs.size (.it k 0)->G (.ref s.heap.objs.size) {s with heap:=s.heap.push o}:=λ{o} hf=>
  h _ _ (TL.push _ _) ((hR.push o s.toks).enter (λa ha=>by
   have e:a=s.heap.objs.size:=mem_singleton.mp ha;refine J e ?_;exact(aN hR.dK hR.fresh hf.get)) (λa ha=>by
   have e:a=s.heap.objs.size:=mem_singleton.mp ha;refine J e ?_;exact hR.ij) (λa ha=>by exact km ha) (jF rfl) hf)
 cases hs with
 |tup l=>
  cases hv with
  |tup hi hr=>exact iter_tuple hi (ent (dM _ _ (hi.push _) (hr.mono (TL.push _ _)) ⟨_,Heap.get?_push_size _ rfl,rfl,rfl⟩))
 |lst e=>
  obtain rfl:=bj hv;refine ah (isList hR e) λvs hl hr=>?_;exact wpAny_pyIter_list hl (ent (bb _ (Heap.get?_push_size _ rfl) rfl rfl))
 |str x=>
  refine bK (bA hv) λ_ au=>?_;subst au;induction ha:x.cps.all (·<128)
  ·exact wpAny_pyIter_wide ha (ent ⟨_,by refine J ha ?_;exact(bb _ (Heap.get?_push_size _ rfl) rfl rfl)⟩)
  ·exact wpAny_pyIter_ascii ha (ent ⟨_,by refine J ha ?_;exact(bb _ (Heap.get?_push_size _ rfl) rfl rfl)⟩)
 |@gx a lo hi e h1 h2 h3 h4=>
  obtain rfl:=bj hv;refine FX (hR.obj _ _ e) λ_ t u w hr=>?_
  have sz:Builtin.Range.rangeSize lo hi 1=((hi-lo).toNat:Nat):=by
   unfold Builtin.Range.rangeSize;simp only[gt_iff_lt,Int.zero_lt_one,if_true]
   split<;>simp<;>first|exact PZ (by assumption)|exact PY (by assumption)
  refine wpAny_pyIter_range hr ?_ ?_
  ·unfold Builtin.Range.small Builtin.Range.rangeFitsLong
   refine J sz ?_;simp;exact Xr h1 h2 h3 h4
  ·refine ent ?_
   refine(?_:(s.heap.push _).get? _=_);rw[Heap.get?_push_size _ rfl,sz];simp[rawInt]
theorem hC{pre:dG}{k:As}{l:List PV}{x:PV}{G:Option Value->Shared->Prop}(hR:Rp c s V (pre++(I,.it k i)::φ))(ok:rn V k l)(hx:l[i]? =some x)
  (h:∀v s',TL s.heap s'.heap->Rp c s' V (pre++(I,.it k (i+1))::φ)->Vr s'.heap x v->G (some v) s'):wpAny (Mo c) A (pyNext (.ref I)) G F0 s:=by
 have F:=(hR.aZ (I,.it k i) (mem_append_right _ mem_cons_self)).2
 have go:∀{v:Value} {h':Heap} {t:Nat},Heap.SameBut I s.heap h'->(TL s.heap h'->rT c.prog c.w h' I (.it k (i+1)))->(TL s.heap h'->Vr h' x v)->G (some v) {s with heap:=h',toks:=t}:=λ{v h' t} hs hf hv=>by
  have ex:∃ob,h'.get? I=some ob:=by have t':TL s.heap h':=TL.sameBut hs F.j7;exact(hf t').get
  refine aA (hR.mid (g':=(I,.it k (i+1))) (s':={s with heap:=h',toks:=t}) rfl rfl rfl hs ex rfl rfl hf) λt1 R1=>?_;exact h v _ t1 R1 (hv t1)
 induction k with
 |lst a=>
  refine ah (isList hR ok) λvs hl hr=>?_;refine ah (hr.get hx) λv e1 e2=>?_;exact wpAny_pyNext_list_item F hl (by simpa using e1) λh' hi hs=>go (t:=s.toks) hs (λ_=>hi) λt=>e2.mono t
 |tup l'=>
  have e:l'=l:=ok;subst e;refine aV F λt items ht hr hi=>?_;clear F;refine ah (hr.get hx) λv e1 e2=>?_;exact next_tuple_item hi ht (by refine rS Array.getElem?_toList ?_;exact e1) λh' nc hs=>go (t:=s.toks) hs (λtl=>(dM t items (tl _ _ ht) (hr.mono tl) nc)) λt=>e2.mono t
 |str y=>
  have e:l=_:=ok;subst e;refine bK F λt hi=>?_;clear F;rw[getElem?_map] at hx;induction hu:y.cps.toList[i]? with
  |none=>rw[hu] at hx;exact bL hx
  |some u=>
   rw[hu] at hx;obtain rfl:=sI hx;exact A9 hi (by refine rS Array.getElem?_toList ?_;exact hu) λh' nc hs=>go hs (λ_=>⟨t,nc⟩) λ_=>.str _ _
 |gx lo left=>
  have e:l=_:=ok;subst e;rw[getElem?_map] at hx;induction hu:(range left.toNat)[i]? with
  |none=>rw[hu] at hx;exact bL hx
  |some u=>
   rw[hu] at hx;obtain rfl:=sI hx;obtain ⟨ja,e⟩:=List.getElem?_eq_some_iff.mp hu;rw[getElem_range] at e;subst e;rw[length_range] at ja
   exact wpAny_pyNext_range_item F (by exact Xu ja) λh' nc hs=>go hs (λ_=>by
    refine(?_:IsRangeIter h' I (lo+((i+1:Nat):Int)) (left-((i+1:Nat):Int)) 1);have e1:lo+((i+1:Nat):Int)=lo+(i:Int)+1:=by exact Xt
    have e2:left-((i+1:Nat):Int)=left-(i:Int)-1:=by exact Xs
    refine J e1 (J e2 ?_);exact nc) λ_=>.int _ _
theorem hE{pre:dG}{k:As}{l:List PV}{G:Option Value->Shared->Prop}(hh:A.handled=none)(hR:Rp c s V (pre++(I,.it k i)::φ))(ok:rn V k l)(hx:l[i]? =none)
  (h:∀s',TL s.heap s'.heap->Rp c s' V (pre++φ)->G none s'):wpAny (Mo c) A (pyNext (.ref I)) G F0 s:=by
 have F:=(hR.aZ (I,.it k i) (mem_append_right _ mem_cons_self)).2
 have go:∀{h':Heap},Heap.ExtBut I s.heap h'->G none {s with heap:=h'}:=λ{h'} he=>by refine aA (hR.nG (s':={s with heap:=h'}) rfl he rfl rfl) λt1 R1=>?_;exact h _ t1 R1
 induction k with
 |lst a=>
  refine ah (isList hR ok) λvs hl hr=>?_;have:=hr.length;exact wpAny_pyNext_list_end hh F hl (by refine J getElem?_toArray (rI List.getElem?_eq_none_iff (rS this ?_));exact List.getElem?_eq_none_iff.mp hx) λh' he=>go he
 |tup l'=>
  have e:l'=l:=ok;subst e;refine aV F λt items ht hr hi=>?_;clear F;have:=hr.length;exact next_tuple_end hh hi ht (by refine rS Array.getElem?_toList (rI List.getElem?_eq_none_iff (rS this ?_));exact List.getElem?_eq_none_iff.mp hx) λh' he=>go he
 |str y=>
  have e:l=_:=ok;subst e;refine bK F λt hi=>?_;clear F;refine A8 hh hi ?_ λh' he=>go he;rw[getElem?_map] at hx;refine rS Array.getElem?_toList ?_;induction hu:y.cps.toList[i]? with
  |none=>rfl
  |some u=>rw[hu] at hx;exact fB hx
 |gx lo left=>
  have e:l=_:=ok;subst e;have:=List.getElem?_eq_none_iff.mp hx;rw[(length_map _),length_range,Int.toNat_le] at this;exact wpAny_pyNext_range_end hh F (by exact Xv this) λh' he=>go he
theorem nu{k:As}{G:Unit->Shared->Prop}(F:O8 s.heap I i k)(h:G () s):wpAny (Mo c) A (letOwnedTupleGo target (.ref I) v) G F0 s:=by
 have key:∀(k:Nat) (p:Pos) (a:Addr),wpAny (Mo c) A (letOwnedTupleGo (.Tuple [] k p) (.ref I) (.ref a)) G F0 s:=λkk p a=>by
  have fin:∀{o:Obj} {T:String} {vs:Array Value},s.heap.get? I=some o->o.cls=.type T->o.data=.fields vs->(["enumerate","zip","dict_itemiterator","dict_reverseitemiterator","odict_iterator","itertools.zip_longest","itertools.pairwise"].contains T)=false->
    wpAny (Mo c) A (letOwnedTupleGo (.Tuple [] kk p) (.ref I) (.ref a)) G F0 s:=λ{o T vs} e1 e2 e3 e4=>by
   refine wpAny_bind (wpAny_load e1 ?_);refine J e2 (J e3 ?_);dsimp only;refine J e4 (J (Bool.false_and _) (J (if_neg Bool.false_ne_true) ?_));exact wpAny_pure h
  induction k with
  |lst l=>(refine aK F λo e1 e2 e3=>?_;clear F);exact fin e1 e2 e3 (by decide)
  |tup l=>(refine mx F λ_ _ _ _ o e1 e2 e3=>?_;clear F);exact fin e1 e2 e3 (by decide)
  |str x=>(refine aV F λt o e1 e2 e3=>?_;clear F);exact fin e1 e2 e3 (by split<;>decide)
  |gx lo left=>exact fin F rfl rfl (by decide)
 induction target using Expr.casesOn<;>first
  |exact wpAny_pure h
  |(induction v<;>first
   |exact key 0 default _
   |exact wpAny_pure h)
end
end
def J1(c:Cx)(A:Around)(φ:dG)(env:Env)(target:Expr)(x:PV)(m:Map)(V:St)(Q:Map->St->Prop):Prop:=
 ∀s v,Rp c s V (aZ env m::φ)->Vr s.heap x v->wpAny (Mo c) A (assign target env v) (Oc c φ env s.heap Q) F0 s
section
theorem fM{Q:Map->St->Prop}(hl:setOk env x=true)(h:Q (bh m x p) V):J1 c A φ env (.Name x pos) p m V Q:=λs v hR hv=>
 assign_Name (cN hl hR hv λs' t R=>(lE t _ _ R h))
theorem ui{k}{Q:Map->St->Prop}(hh:A.handled=none)(hx:setOk env x=true)(hy:setOk env y=true)(h:Q (bh (bh m x p) y q) V):J1 c A φ env (.Tuple [.Name x px,.Name y py] k pos) (.tup [p,q]) m V Q:=λs v hR hv=>by
 cases hv with
 |@tup _ a items hi hr=>
  refine aV (pq hr) λv1 v2 e h1 h2=>?_;have hz:items.size=2:=by refine rS Array.length_toList (J e ?_);rfl
  refine assign_Tuple_tuple hh hi (by refine J hz ?_;rfl) (by rfl) λh' he=>?_;have R0:Rp c {s with heap:=h'} V (aZ env m::φ):=hR.keep (λb o q=>he b o (Nat.ne_of_lt (Heap.lt_size q)) q) rfl rfl;have t0:TL s.heap h':=TL.keep λb o q=>he b o (Nat.ne_of_lt (Heap.lt_size q)) q;refine J e ?_;refine(?_:wpAny (Mo c) A (assignInOrder [assign (.Name x px) env,assign (.Name y py) env] [v1,v2]) _ _ _);refine assignInOrder_cons (assign_Name (cN hx R0 (h1.mono t0) λs1 t1 R1=>?_));exact assignInOrder_cons (assign_Name (cN hy R1 (h2.mono (t0.trans t1)) λs2 t2 R2=>assignInOrder_nil (lE ((t0.trans t1).trans t2) _ _ R2 h)))
theorem uU{elts k za value pos}{Q:AF->Map->St->Prop}(h:WE c A φ env m value V λp σ₁=>J1 c A φ env (.Tuple elts k za) p m σ₁ λm' σ'=>Q .next m' σ')
  (hs:swapsWithSole [.Tuple elts k za] value pos.line env=pure false:=by rfl)
  (hw:swappedStores [.Tuple elts k za] value env=pure none:=by rfl):WS c A φ env (.Assign [.Tuple elts k za] value pos) m V Q:=λs hR=>
 Assign_Tuple (h.seq hR λv p σ₁ aM aS aT bo bf=>wpAny_mono (bf aM v aT bo) (λ_ bY zf=>iz zf λbM m' σ' R' q=>(bS (aS.trans bM) _ _ _ R' .next q)) λ_ _ y=>y) hs hw
theorem Gi{orelse:List Stmt}{pos:Pos}{Q:AF->Map->St->Prop}(hh:A.handled=none)
  (h:WE c A φ env m iter V λp σ₁=>∃k l,aO σ₁ p k l/\∃Inv:Nat->Map->St->Prop,Inv 0 m σ₁/\(∀i m' σ',Inv i m' σ'->rn σ' k l)/\
   (∀i x c0,l[i]? =some x->(∀f∈φ,f∈c0)->∀m' σ',Inv i m' σ'->J1 c A c0 env target x m' σ' λm₂ ay=>pg c A c0 env body m₂ ay λa fS aD=>match a with
    |.next|.cont=>Inv (i+1) fS aD
    |.brk=>Q .next fS aD
    |.ret p=>Q (.ret p) fS aD)/\
   (∀m' σ',Inv l.length m' σ'->pg c A φ env orelse m' σ' Q))
  (hs:∀x,foldedSetIterable iter env x=pure x:=by intro _;rfl):WS c A φ env (.For target iter body orelse pos) m V Q:=λs hR=>by
 refine wpAny_For (h.seq hR λv p σ₁ aM aS aT bo zq=>?_) hs;refine i8 zq λk l pC Inv h0 uw Cy Zk=>?_;clear zq;refine ox pC aT bo λI bY bM cV=>?_;have Ob:Rp c bY σ₁ (aZ env m::(I,.it k 0)::φ):=cV.swap rfl;refine codeAny_forLoop_any (λn s'=>DW λi m' σ'=>sS (n=l.length-i) (i<=l.length) (TL s.heap s'.heap) (Rp c s' σ' (aZ env m'::(I,.it k i)::φ)) (Inv i m' σ')) (λn s' zq=>?_) (l.length-0) ⟨0,m,σ₁,rfl,Nat.zero_le _,aS.trans bM,Ob,h0⟩;refine xH zq λi m' σ' hn hi ht sF hI=>?_;clear zq;have ok:=uw i m' σ' hI;induction hx:l[i]? with
 |none=>
  have e:i=l.length:=by have:=List.getElem?_eq_none_iff.mp hx;exact KX hi this
  subst e;refine wpAny_mono (hE (pre:=[aZ env m']) hh sF ok hx λd6 c5 cU=>?_) (λ_ _ h=>h) λ_ _ y=>y.elim;exact wpAny_mono (Zk m' σ' hI d6 cU) (λfl l4 x=>(show jr c φ env s.heap Q fl l4 from⟨(ht.trans c5).trans x.1,x.2⟩)) λ_ _ y=>y.elim
 |some x=>
  have ja:i<l.length:=by
   rcases Nat.lt_or_ge i l.length with q|q
   ·exact q
   ·rw[List.getElem?_eq_none_iff.mpr q] at hx;exact bL hx
  refine wpAny_mono (hC (pre:=[aZ env m']) sF ok hx λv d6 c5 cU jB=>?_) (λ_ _ h=>h) λ_ _ y=>y.elim;refine wpAny_mono (nu (c:=c) (A:=A) (cU.aZ (I,.it k (i+1)) (.tail _ (.head _))).2 ?_) (λ_ _ h=>h) λ_ _ y=>y.elim;refine wpAny_mono (Cy i x ((I,.it k (i+1))::φ) hx (λf hf=>.tail _ hf) m' σ' hI d6 v cU jB) (λ_ kj zq=>?_) λ_ _ y=>y.elim;refine iz zq λkC m₂ ay gQ By=>?_;clear zq;refine wpAny_mono (By kj gQ) (λfl zg zq=>?_) λ_ _ y=>y.elim;refine eR zq λpY a fS aD fT tI gG=>?_;clear zq;have tt:=((ht.trans c5).trans kC).trans pY;cases tI with
  |next=>exact(aj _ (by exact HX hn ja) ⟨i+1,fS,aD,rfl,ja,tt,fT,gG⟩)
  |cont=>exact(aj _ (by exact HX hn ja) ⟨i+1,fS,aD,rfl,ja,tt,fT,gG⟩)
  |brk=>exact(bS tt _ _ _ fT.Ca .next gG)
  |ret x=>exact(bS tt _ _ _ fT.Ca (.ret x) gG)
def Le(mm m:Map):Prop:=∀y p,dB mm y=some p->dB m y=some p
theorem Le.refl:Le m m:=λ_ _ h=>h
theorem Le.set(h:Le mm m){v:PV}:Le (bh mm x v) (bh m x v):=λy p e=>by
 rw[d9] at e ⊢
 split
 ·rename_i q;rw[if_pos q] at e;exact e
 ·rename_i q;rw[if_neg q] at e;exact h y p e
theorem Le.new{v:PV}(h:dB m x=none):Le m (bh m x v):=λy p e=>by
 refine J (d9 _ _ _ _) ?_
 split
 ·rename_i q;subst q;rw[h] at e;exact bL e
 ·exact e
noncomputable def ZE(Inv:Nat->Map->St->Prop)(Q:AF->Map->St->Prop)(i:Nat):AF->Map->St->Prop:=λa fS aD=>match a with
 |.next|.cont=>∃Mw,Inv (i+1) Mw aD/\Le Mw fS
 |.brk=>Q .next fS aD
 |.ret p=>Q (.ret p) fS aD
inductive aah (c:Cx) (A:Around) (φ:dG) (env:Env) (m:Map) (x:Str) (body orelse:List Stmt) (Q:AF->Map->St->Prop) (p:PV) (σ₁:St):Prop
 |mk (k:As) (l:List PV) (pC:aO σ₁ p k l) (Inv:Nat->Map->St->Prop) (h0:Inv 0 m σ₁) (uw:∀i m' σ',Inv i m' σ'->rn σ' k l)
  (hb:∀i v c0,l[i]? =some v->(∀f∈φ,f∈c0)->∀mm σ',Inv i mm σ'->pg c A c0 env body (bh mm x v) σ' (ZE Inv Q i))
  (he:∀mm σ',Inv l.length mm σ'->pg c A φ env orelse mm σ' Q)
theorem bP{x:Str}{Q:AF->Map->St->Prop}(hh:A.handled=none)(hx:setOk env x=true)
  (h:WE c A φ env m iter V (aah c A φ env m x body orelse Q))
  (hs:∀x,foldedSetIterable iter env x=pure x:=by intro _;rfl):WS c A φ env (.For (.Name x px) iter body orelse pos) m V Q:=
 Gi hh (WG.mono h λp σ₁ ⟨k,l,pC,Inv,h0,uw,hb,he⟩=>⟨k,l,pC,λi m' σ'=>∃mm,Inv i mm σ'/\Le mm m',⟨m,h0,Le.refl⟩,λi m' σ' zf=>ah zf λmm hI _=>uw i mm σ' hI,
  λi v c0 hv cw m' σ' zf=>ah zf λmm hI hle=>fM hx (WX.less hle.set (WX.mono (hb i v c0 hv cw mm σ' hI) λa fS aD q=>by induction a<;>exact q)),
  λm' σ' zf=>ah zf λmm hI hle=>WX.less hle (he mm σ' hI)⟩) hs
theorem Er{test:Expr}{orelse:List Stmt}{pos:Pos}{Q:AF->Map->St->Prop}(Inv:Nat->Map->St->Prop){n₀:Nat}(h0:Inv n₀ m V)
  (h:∀n m' σ',Inv n m' σ'->WT c A φ env m' test σ' λb σ₁=>if b=true then pg c A φ env body m' σ₁ (λa fS aD=>match a with
    |.next|.cont=>∃k,k<n/\Inv k fS aD
    |.brk=>Q .next fS aD
    |.ret p=>Q (.ret p) fS aD) else pg c A φ env orelse m' σ₁ Q):WS c A φ env (.While test body orelse pos) m V Q:=λs hR=>by
 refine wpAny_While (codeAny_whileLoop (λn s'=>mh λm' σ'=>mz (TL s.heap s'.heap) (Rp c s' σ' (aZ env m'::φ)) (Inv n m' σ')) (λn s' zq=>?_) n₀ ⟨m,V,TL.refl _,hR,h0⟩);refine wy zq λm' σ' ht sF hI=>?_;clear zq;refine wpAny_mono (h n m' σ' hI s' sF) (λv aM zq=>?_) λ_ _ y=>y.elim;refine aR zq λaS b σ₁ aT bo bf=>?_;clear zq;obtain rfl:b=v:=bo;induction b with
 |true=>
  simp only[if_true] at bf ⊢;refine wpAny_mono (bf aM aT) (λfl zg zq=>?_) λ_ _ y=>y.elim;refine eR zq λpY a fS aD fT tI gG=>?_;clear zq;have tt:=(ht.trans aS).trans pY;cases tI with
  |next=>(refine ah gG λk hk q=>?_;clear gG);exact iP k hk fS aD tt fT q
  |cont=>(refine ah gG λk hk q=>?_;clear gG);exact iP k hk fS aD tt fT q
  |brk=>exact(bS tt _ _ _ fT .next gG)
  |ret x=>exact(bS tt _ _ _ fT (.ret x) gG)
 |false=>
  simp only[Bool.false_eq_true,if_false] at bf ⊢;exact wpAny_mono (bf aM aT) (λfl l4 x=>(show jr c φ env s.heap Q fl l4 from⟨(ht.trans aS).trans x.1,x.2⟩)) λ_ _ y=>y.elim
end
noncomputable def fw(env:Env):List (Str×NameKind)->List (Str×Addr)->List (Str×Addr)
 |[],acc=>acc
 |(n,k)::r,acc=>if k==.free then fw env r ((n,(env.cells.lookup n).getD 0)::acc) else fw env r acc
noncomputable def eQ(m:Map):List (Str×NameKind)->Map
 |[]=>[]
 |(n,k)::r=>if k==.free then (match dB m n with|some v=>(n,v)::eQ m r|none=>eQ m r) else eQ m r
noncomputable def freeOk(scope:Scope)(env:Env):Bool:=scope.names.all λx=>x.2 !=.free||(env.cells.lookup x.1).isSome
noncomputable abbrev ba(scope:Scope)(C:Addr)(env:Env):Env:=compEnvC scope (fw env scope.names []) C env
theorem nP:∀{names:List (Str×NameKind)} {x:Str} {v:PV},dB (eQ m names) x=some v->dB m x=some v/\(x,NameKind.free)∈names
 |(n,k)::r,x,v,h=>by
  unfold eQ at h;have HF:dB (eQ m r) x=some v->dB m x=some v/\(x,NameKind.free)∈(n,k)::r:=λh=>⟨(nP h).1,.tail _ (nP h).2⟩
  split at h
  ·rename_i hk
   have hk:k=.free:=by simpa using hk
   split at h
   ·rename_i u hu
    unfold dB at h
    split at h
    ·rename_i e;obtain rfl:=sI h;subst e;subst hk;exact⟨hu,.head _⟩
    ·exact HF h
   ·exact HF h
  ·exact HF h
theorem vX:∀{names:List (Str×NameKind)} {x:Str} {v:PV},(x,NameKind.free)∈names->dB m x=some v->dB (eQ m names) x=some v
 |(n,k)::r,x,v,h,e=>by
  unfold eQ;rcases mem_cons.mp h with q|q
  ·cases q
   refine J (if_pos (by decide)) (J e ?_);simp[dB]
  ·have ih:=vX q e
   split
   ·split
    ·rename_i u hu
     unfold dB
     split
     ·rename_i e';subst e';rw[e] at hu;obtain rfl:=sI hu;rfl
     ·exact ih
    ·exact ih
   ·exact ih
theorem jR:∀{names:List (Str×NameKind)} {acc:List (Str×Addr)} {x:Str} {a:Addr},(x,a)∈fw env names acc->(x,a)∈acc∨((x,NameKind.free)∈names/\a=(env.cells.lookup x).getD 0)
 |[],_,_,_,h=>.inl h
 |(n,k)::r,acc,x,a,h=>by
  unfold fw at h
  split at h
  ·rename_i hk
   have hk:k=.free:=by simpa using hk
   subst hk;rcases jR h with q|⟨q1,q2⟩
   ·rcases mem_cons.mp q with q|q
    ·cases q;exact .inr ⟨.head _,rfl⟩
    ·exact .inl q
   ·exact .inr ⟨.tail _ q1,q2⟩
  ·rcases jR h with q|⟨q1,q2⟩
   ·exact .inl q
   ·exact .inr ⟨.tail _ q1,q2⟩
theorem jS:∀{names:List (Str×NameKind)} {acc:List (Str×Addr)} {x:Str},((x,NameKind.free)∈names∨(acc.lookup x).isSome=true)->((fw env names acc).lookup x).isSome=true
 |[],_,_,h=>by
  rcases h with h|h
  ·exact km h
  ·exact h
 |(n,k)::r,acc,x,h=>by
  unfold fw
  split
  ·refine jS ?_
   rw[lookup_cons]
   by_cases e:x=n
   ·subst e;rw[beq_self_eq_true];exact .inr rfl
   ·refine J (beq_eq_false_iff_ne.mpr e) ?_
    rcases h with h|h
    ·rcases mem_cons.mp h with q|q
     ·cases q;exact absurd rfl e
     ·exact .inl q
    ·exact .inr h
  ·rename_i hk
   refine jS ?_;rcases h with h|h
   ·rcases mem_cons.mp h with q|q
    ·cases q;exact absurd rfl hk
    ·exact .inl q
   ·exact .inr h
theorem gj(h:freeOk scope env=true):closureFor scope env=pure (fw env scope.names []):=by
 unfold closureFor
 have go:∀(names:List (Str×NameKind)) (acc:List (Str×Addr)),names.all (λx=>x.2 !=.free||(env.cells.lookup x.1).isSome)=true->
   (forIn names acc λ(x:Str×NameKind) (cs:List (Str×Addr))=>(if (x.2==NameKind.free)=true then do
    let a<-cellOf env x.1
    pure (ForInStep.yield ((x.1,a)::cs)) else pure (ForInStep.yield cs):Sem _))=pure (fw env names acc):=by
  intro names;induction names with
  |nil=>intro acc _;rfl
  |cons x r ih=>
   intro acc hn;obtain ⟨nm,k⟩:=x;rw[all_cons,Bool.and_eq_true] at hn;rw[forIn_cons];unfold fw
   by_cases hk:(k==NameKind.free)=true
   ·refine J (if_pos hk) (J (if_pos hk) ?_)
    have Zh:k=.free:=by simpa using hk
    subst Zh;have hs:(env.cells.lookup nm).isSome=true:=by simpa using hn.1
    refine bK (Option.isSome_iff_exists.mp hs) λa ha=>?_;refine J ha ?_;unfold cellOf;refine J ha ?_;exact ih _ hn.2
   ·refine J (if_neg hk) (J (if_neg hk) ?_)
    exact ih _ hn.2
 have:=go scope.names [] h;simp only[bind_pure] at this ⊢;exact this
noncomputable def fL(scope:Scope)(env:Env):Bool:=
 freeOk scope env&&scope.names.all (λx=>x.2 !=.cell)&&scope.kind==.function&&scope.names.all λx=>x.2 !=.local||scope.names.lookup x.1==some .local
section
theorem mV{pre:dG}{G:Env->Shared->Prop}(hR:Rp c s V (pre++aZ env m::φ))(hs:fL scope env=true)
  (h:∀C s',TL s.heap s'.heap->Rp c s' V (aZ (ba scope C env) (eQ m scope.names)::(pre++aZ env m::φ))->∀dU,({dU with scope:=relabel scope env}:Env)=ba scope C env->dU.locals=C->G dU s'):
  wpAny (Mo c) A (newFunctionEnv scope env.globals (fw env scope.names []) [] env.qual none .none (some env)) G F0 s:=by
 unfold fL at hs;simp only[Bool.and_eq_true,beq_iff_eq] at hs;refine iA hs λhf hc hk hl=>?_;clear hs;have qF:aZ env m∈pre++aZ env m::φ:=mem_append_right _ mem_cons_self;refine cT (hR.aZ _ qF) λhm0 nt aas Nh=>?_
 have Cj:∀{x a},(x,a)∈fw env scope.names []->env.cells.lookup x=some a:=λ{x a} hx=>by
  rcases jR hx with q|⟨q1,q2⟩
  ·exact km q
  ·have:=all_eq_true.mp hf _ q1
   have hs:(env.cells.lookup x).isSome=true:=by simpa using this
   refine bK (Option.isSome_iff_exists.mp hs) λb hb=>?_;rw[hb] at q2 ⊢;refine J q2 ?_;rfl
 refine wpAny_newFunctionEnv (λx hx=>by have:=all_eq_true.mp hc x hx;simpa using this) (by intro y hy;simp at hy) (λgJ hns E0=>?_) hk;have keep:∀b o,s.heap.get? b=some o->gJ.get? b=some o:=λb o e=>E0.extBut b o (Nat.ne_of_lt (Heap.lt_size e)) (Heap.get?_push_of_some _ e);have t:TL s.heap gJ:=TL.keep keep;have R1:Rp c {s with heap:=gJ,toks:=s.toks+([]:List (Str×Value)).length} V (pre++aZ env m::φ):=hR.keep keep rfl rfl
 have qZ:∀a∈(fw env scope.names []).map (·.2),a∈d8 (aZ env m):=λa ha=>by obtain ⟨⟨x,b⟩,hb,rfl⟩:=mem_map.mp ha;exact mem_cons_of_mem _ (mem_map_of_mem (f:=(·.2)) (mem_lookup (Cj hb)))
 have fr:rT c.prog c.w gJ s.heap.objs.size (.ns false (fw env scope.names []) (eQ m scope.names)):=by
  refine lZ (kQ hns) _ hns (λx hx=>?_) (λx a hx=>?_)
  ·have:dB (eQ m scope.names) x=none:=by
    induction q:dB (eQ m scope.names) x with
    |none=>rfl
    |some v=>
     have:=jS (env:=env) (acc:=[]) (.inl (nP q).2);rw[hx] at this;exact iD this
   refine J this ?_;exact .none
  ·refine ah (Nh x a (Cj (mem_lookup hx))) λv h1 h2=>?_
   refine aj v (h1.keeps keep) ?_
   have Ct:(x,NameKind.free)∈scope.names:=by
    rcases jR (mem_lookup hx) with q|q
    ·exact km q
    ·exact q.1
   induction q:dB m x with
   |none=>
    rw[q] at h2;cases h2;induction q':dB (eQ m scope.names) x with
    |none=>exact .none
    |some p=>rw[(nP q').1] at q;exact fB q
   |some p=>refine J (vX Ct q) (rS q ?_);exact h2.mono t
 refine h s.heap.objs.size _ t (R1.enter (f:=aZ (ba scope s.heap.objs.size env) (eQ m scope.names)) (λa ha=>?_) (λa ha=>?_) (λa ha g hg=>?_) ⟨λq=>?_,nodup_nil⟩ fr) _ rfl rfl
 ·rcases mem_cons.mp ha with rfl|ha
  ·exact aN hR.dK hR.fresh fr.get
  ·exact(R1.aZ _ qF).1 a (qZ a ha)
 ·have e:a=s.heap.objs.size:=mem_singleton.mp ha
  refine J e ?_;exact hR.ij
 ·obtain ⟨⟨x,b⟩,hb,rfl⟩:=mem_map.mp ha
  exact pf hR.apart qF (mem_map_of_mem (f:=(·.2)) (mem_lookup (Cj hb))) g hg
 ·exact hR.ij _ qF (qZ _ q)
noncomputable def tests(ifs:List Expr)(env:Env):Sem Bool:=forIn ifs true λc r=>if r=true then do let ok<-isTrue c env (eval c env);pure (ForInStep.yield ok) else pure (ForInStep.yield r)
abbrev OZ(c:Cx)(A:Around)(φ:dG)(env:Env)(m:Map)(ifs:List Expr)(V:St)(Q:Bool->St->Prop):Prop:=WG c A (aZ env m::φ) RB (tests ifs env) V Q
theorem jy{Q:Bool->St->Prop}(h:Q true V):OZ c A φ env m [] V Q:=λs hR=>wpAny_tests_nil (af (TL.refl _) _ V hR rfl h)
theorem AU{t:Expr}{Q:Bool->St->Prop}(h:WT c A φ env m t V Q):OZ c A φ env m [t] V Q:=λs hR=>wpAny_tests_one (h s hR)
noncomputable def uD(g:Comprehension)(it:Value)(env:Env)(emit:Sem Unit)(back:Sem Fin):Sem Fin:=do
 standAt g.iter.pos
 match<-pyNext it with
 |none=>pure (.done .next)
 |some v=>
  letOwnedTupleGo g.target it v
  assign g.target env v
  let ok<-tests g.ifs env
  if ok=true then do
   emit
   back
  else back
theorem oI{d:Nat}{it acc:Value}{dU:Env}{g:Comprehension}{emit:Sem Unit}{R:Result->Shared->Prop}(heq:compTurn e d it acc dU=uD g it dU emit (again (.compLoop e d it acc dU)))(hq:(Code.compLoop e d it acc dU).quiet=true)(Gu:A.under (.compLoop e d it acc dU)=A)
  (Cv:(Mo c).den (.compLoop e d it acc dU)=(compTurn e d it acc dU).onRaise (λx=>do noteFrame x dU;theTreesLotGoes x)) (I:Nat->Shared->Prop)
  (turn:∀n s,I n s->wpAny (Mo c) A (pyNext it) (λr aM=>match r with
   |none=>R (.ok .next) aM
   |some v=>wpAny (Mo c) A (letOwnedTupleGo g.target it v) (λ_ uH=>wpAny (Mo c) A (assign g.target dU v) (λ_ bY=>wpAny (Mo c) A (tests g.ifs dU) (λok d6=>
     if ok=true then wpAny (Mo c) A emit (λ_ kj=>∃k,k<n/\I k kj) F0 d6 else∃k,k<n/\I k d6) F0 bY) F0 uH) F0 aM) F0 s)
  (n:Nat) (h:I n s):codeAny (Mo c) A (.compLoop e d it acc dU) R s:=by
 refine codeAny_loop hq I (λn s hI=>?_) n h;refine J Cv (J heq (J Gu ?_));refine wpAny_noted ?_;unfold uD;refine wpAny_bind (wpAny_standAt (wpAny_bind (wpAny_mono (turn n s hI) (λr aM gJ=>?_) λ_ _ y=>y.elim)));induction r with
 |none=>exact wpAny_pure gJ
 |some v=>
  refine wpAny_bind (wpAny_mono gJ (λ_ uH Cp=>?_) λ_ _ y=>y.elim);refine wpAny_bind (wpAny_mono Cp (λ_ bY IH=>wpAny_bind (wpAny_mono IH (λok d6 Co=>?_) λ_ _ y=>y.elim)) λ_ _ y=>y.elim);induction ok with
  |false=>exact wpAny_pure ⟨rfl,Co⟩
  |true=>exact wpAny_bind (wpAny_mono Co (λ_ l4 Cn=>wpAny_pure ⟨rfl,Cn⟩) λ_ _ y=>y.elim)
noncomputable def rY(g:Comprehension)(it:Value)(env:Env)(emit back:Sem Fin):Sem Fin:=do
 standAt g.iter.pos
 match<-pyNext it with
 |none=>pure (.done .next)
 |some v=>
  letOwnedTupleGo g.target it v
  assign g.target env v
  let ok<-tests g.ifs env
  if ok=true then emit
  else back
theorem xv{d:Nat}{it acc:Value}{dU:Env}{g:Comprehension}{emit:Sem Fin}{R:Result->Shared->Prop}(heq:compTurn e d it acc dU=rY g it dU emit (again (.compLoop e d it acc dU)))(hq:(Code.compLoop e d it acc dU).quiet=true)(Gu:A.under (.compLoop e d it acc dU)=A)
  (Cv:(Mo c).den (.compLoop e d it acc dU)=(compTurn e d it acc dU).onRaise (λx=>do noteFrame x dU;theTreesLotGoes x)) (I:Nat->Shared->Prop)
  (turn:∀n s,I n s->wpAny (Mo c) A (pyNext it) (λr aM=>match r with
   |none=>R (.ok .next) aM
   |some v=>wpAny (Mo c) A (letOwnedTupleGo g.target it v) (λ_ uH=>wpAny (Mo c) A (assign g.target dU v) (λ_ bY=>wpAny (Mo c) A (tests g.ifs dU) (λok d6=>
     if ok=true then wpAny (Mo c) A emit (λfin kj=>fin=.again (.compLoop e d it acc dU)/\∃k,k<n/\I k kj) F0 d6 else∃k,k<n/\I k d6) F0 bY) F0 uH) F0 aM) F0 s)
  (n:Nat) (h:I n s):codeAny (Mo c) A (.compLoop e d it acc dU) R s:=by
 refine codeAny_loop hq I (λn s hI=>?_) n h;refine J Cv (J heq (J Gu ?_));refine wpAny_noted ?_;unfold rY;refine wpAny_bind (wpAny_standAt (wpAny_bind (wpAny_mono (turn n s hI) (λr aM gJ=>?_) λ_ _ y=>y.elim)));induction r with
 |none=>exact wpAny_pure gJ
 |some v=>
  refine wpAny_bind (wpAny_mono gJ (λ_ uH Cp=>?_) λ_ _ y=>y.elim);refine wpAny_bind (wpAny_mono Cp (λ_ bY IH=>wpAny_bind (wpAny_mono IH (λok d6 Co=>?_) λ_ _ y=>y.elim)) λ_ _ y=>y.elim);induction ok with
  |false=>exact wpAny_pure ⟨rfl,Co⟩
  |true=>exact wpAny_mono Co (λfin l4 Cn=>by obtain ⟨e,Cn⟩:=Cn;subst e;exact⟨rfl,Cn⟩) λ_ _ y=>y.elim
theorem wR{k:As}{G:Value->Shared->Prop}{E:Value->Shared->Prop}(F:O8 s.heap I i k)(h:G (.ref I) s):wpAny (Mo c) A (pyIter (.ref I)) G E s:=by
 induction k with
 |lst l=>exact wpAny_pyIter_listiter F h
 |tup l=>(refine aV F λt items _ _ hi=>?_;clear F);exact wpAny_pyIter_tupleiter hi h
 |str x=>
  refine bK F λt hi=>?_;clear F;induction ha:x.cps.all (·<128)<;>simp only[ha,if_true,Bool.false_eq_true,if_false] at hi
  ·exact wpAny_pyIter_striter_wide hi h
  ·exact wpAny_pyIter_striter_ascii hi h
 |gx lo left=>exact wpAny_pyIter_rangeiter F h
theorem jQ{d:Nat}{acc:Value}{dU:Env}{R:Result->Shared->Prop}{k:As}(F:O8 s.heap I i k)(Gu:A.under (.compStart e d (.ref I) acc dU)=A)
  (Cv:(Mo c).den (.compStart e d (.ref I) acc dU)=(compStart e d (.ref I) acc dU).onRaise (λx=>do noteFrame x dU;standAt theWindowsPlace)) (ha:((clausesOf e)[d]?).elim false (·.is_async !=0)=false) (hq:(Code.compLoop e d (.ref I) acc dU).quiet=true)
  (h:codeAny (Mo c) A (.compLoop e d (.ref I) acc dU) R s):codeAny (Mo c) A (.compStart e d (.ref I) acc dU) R s:=by
 refine codeAny_of_tree ?_;refine J Cv (J Gu ?_);refine wpAny_notedAt ?_;unfold compStart;refine J ha ?_;simp only[Bool.false_eq_true,if_false];refine(?_:wpAny _ _ (ask>>=_) _ _ s);refine wpAny_bind (wpAny_askSetting (wpAny_ite ?_))
 split
 ·first
   |exact wpAny_bind (wpAny_pure (wpAny_pure (And.intro hq h)))
   |exact wpAny_pure (And.intro hq h)
 ·refine wpAny_bind (wpAny_rule ?_)
  split
  ·exact wpAny_bind (wpAny_standAt (wpAny_bind (wR F (wpAny_pure ⟨hq,h⟩))))
  ·first
   |exact wpAny_bind (wR F (wpAny_pure ⟨hq,h⟩))
   |exact wpAny_bind (wpAny_pure (wpAny_bind (wR F (wpAny_pure ⟨hq,h⟩))))
end
section
theorem cq{l:List PV}{vs:Array Value}(hr:dD h l vs.toList):vs.size=l.length:=by exact rS Array.length_toList (J hr.length rfl)
theorem mw{pre:dG}{D:Addr}{acc:List PV}{G:Value->Shared->Prop}(hR:Rp c s V (pre++(D,.obj (.lst acc))::φ))(hv:Vr s.heap p v)(hz:acc.length<=sizeLine)
  (h:∀s',TL s.heap s'.heap->Rp c s' V (pre++(D,.obj (.lst (acc++[p])))::φ)->G .none s'):wpAny (Mo c) A (call (.builtin "list.append") [.ref D,v]) G F0 s:=by
 refine b0 ((hR.aZ (D,.obj (.lst acc)) (mem_append_right _ mem_cons_self)).2) λvs k ho hr=>?_;refine append_at ho (λh' hs DS=>?_) (by refine J (cq hr) ?_;exact hz);obtain ⟨t,R⟩:=hR.mid (g':=(D,.obj (.lst (acc++[p])))) (s':={s with heap:=h'}) rfl rfl rfl hs ⟨_,DS⟩ rfl rfl (λt=>(fN _ _ DS (by simpa using (hr.mono t).append (.cons (hv.mono t) .nil))));exact h _ t R
theorem ub{fr:Fr}(hR:Rp c s V ((C,fr)::φ))(h:∃o cs m,fr=.ns o cs m):rT c.prog c.w s.heap C .uu:=by refine rt h λo cs m au=>?_;clear h;subst au;refine iR (hR.aZ _ (.head _)) λ_ _ mv hn _ _=>?_;exact⟨mv,hn⟩
theorem sM{elt target:Expr}{ifs:List Expr}{pos YL:Pos}{use:Option (Value->Sem Unit)}{G:Value->Shared->Prop}(asg:Map->PV->Map)(hh:A.handled=none)(hR:Rp c s V (aZ env m::φ))(hs:fL scope env=true)
  (kX:∀x,foldedSetIterable iter env x=pure x)
  (h:WE c A φ env m iter V λp σ₁=>∃k l,aO σ₁ p k l/\l.length<=sizeLine/\∃Inv:Nat->List PV->St->Prop,Inv 0 [] σ₁/\(∀i acc σ',Inv i acc σ'->rn σ' k l)/\
   (∀C c0 m' σ' x Q,x∈l->Q (asg m' x) σ'->J1 c A c0 (ba scope C env) target x m' σ' Q)/\(∀m' x y,x∈l->y∈l->asg (asg m' x) y=asg m' y)/\
   (∀C i x c0,l[i]? =some x->(∀f∈aZ env m::φ,f∈c0)->∀acc σ',Inv i acc σ'->OZ c A c0 (ba scope C env) (asg (eQ m scope.names) x) ifs σ' λok ay=>
    if ok=true then WE c A c0 (ba scope C env) (asg (eQ m scope.names) x) elt ay λq aD=>Inv (i+1) (acc++[q]) aD else Inv (i+1) acc ay)/\
   (∀s' acc σ' D C,TL s.heap s'.heap->Inv l.length acc σ'->σ' D=none->Rp c s' (upd σ' D (.lst acc)) (aZ env m::(C,.uu)::φ)->compPost (Mo c) A F0 use G (.ref D) C (.ok .next) s')):
  wpAny (Mo c) A (comprehension (.ListComp elt [⟨target,iter,ifs,0⟩] scope pos) scope env YL (newList []) false (eval iter env) use) G F0 s:=by
 have sD:=hs;unfold fL at sD;simp only[Bool.and_eq_true,beq_iff_eq] at sD;refine iA sD λhf hc hk hl=>?_;clear sD
 refine wpAny_comprehension_free (g:=⟨target,iter,ifs,0⟩) (gs:=[]) rfl kX (gj hf) hk (λx hx e=>by have:=all_eq_true.mp hl x hx;rw[e] at this;simpa using this)
  (h.seq hR λv p σ₁ aM aS aT bo zq=>?_)
 refine mf zq λk l pC Y9 Inv h0 uw YR MZ vw Cu=>?_;clear zq;refine ox pC aT bo λI bY bM cV=>?_;refine wpAny_newList ?_ (Nat.zero_le _)
 have cU:Rp c {bY with heap:=bY.heap.push {cls:=.type "list",data:=.seq ([]:List Value).toArray}} σ₁ ((bY.heap.objs.size,.obj (.lst []))::(I,.it k 0)::aZ env m::φ):=by
  have o1:jV c.prog c.w (bY.heap.push {cls:=.type "list",data:=.seq ([]:List Value).toArray}) bY.heap.objs.size (.lst []):=(fN #[] 0 (Heap.get?_push_size _ rfl) .nil);refine(cV.push _ bY.toks).enter (λa ha=>?_) (λa ha=>?_) (λa ha=>by exact km ha) (jF rfl) o1
  ·have e:a=bY.heap.objs.size:=mem_singleton.mp ha
   refine J e ?_;exact aN cV.dK cV.fresh o1.get
  ·have e:a=bY.heap.objs.size:=mem_singleton.mp ha
   refine J e ?_;exact cV.ij
 have c5:TL s.heap (bY.heap.push {cls:=.type "list",data:=.seq ([]:List Value).toArray}):=(aS.trans bM).trans (TL.push _ _);generalize bY.heap.objs.size=D at cU ⊢;refine mV (pre:=[(D,.obj (.lst [])),(I,.it k 0)]) cU hs λC l4 mA l9 dU he t8=>?_;refine J he (J t8 ?_);refine jQ (k:=k) (i:=0) (l9.aZ (I,.it k 0) (by exact .tail _ (.tail _ (.head _)))).2 rfl rfl rfl rfl ?_
 refine oI (g:=⟨target,iter,ifs,0⟩) (emit:=do let x<-eval elt (ba scope C env);let _<-call (.builtin "list.append") [.ref D,x]) rfl rfl rfl rfl
  (λn s'=>GZ λi acc m' σ'=>DO (n=l.length-i) (i<=l.length) (acc.length<=i) (TL s.heap s'.heap) (Rp c s' σ' (aZ (ba scope C env) m'::(D,.obj (.lst acc))::(I,.it k i)::aZ env m::φ)) (Inv i acc σ') ((m'=eQ m scope.names∨∃y∈l,m'=asg (eQ m scope.names) y))) (λn s' zq=>?_) (l.length-0)
  (j4 0 [] _ σ₁ rfl (Nat.zero_le _) (Nat.zero_le _) (c5.trans mA) l9 h0 (.inl rfl))
 refine j5 zq λi acc m' σ' hn hi JU ht sF hI hm=>?_;clear zq;have ok:=uw i acc σ' hI;induction hx:l[i]? with
 |none=>
  have e:i=l.length:=by have:=List.getElem?_eq_none_iff.mp hx;exact KX hi this
  subst e;refine hE (pre:=[aZ (ba scope C env) m',(D,.obj (.lst acc))]) hh sF ok hx λd6 c5 cU=>?_;refine aA (cU.show (pre:=[aZ (ba scope C env) m'])) λhD gQ=>?_;have fT:=(gQ.weak (ub gQ (nW _ _ _ rfl))).swap rfl;exact Cu d6 acc σ' D C (ht.trans c5) hI hD fT
 |some x=>
  have ja:i<l.length:=by
   rcases Nat.lt_or_ge i l.length with q|q
   ·exact q
   ·rw[List.getElem?_eq_none_iff.mpr q] at hx;exact bL hx
  have xm:x∈l:=mem_of_getElem? hx
  have Y8:asg m' x=asg (eQ m scope.names) x:=by
   rcases hm with e|⟨y,hy,e⟩
   ·exact J e rfl
   ·exact J e (J (MZ _ _ _ hy xm) rfl)
  refine hC (pre:=[aZ (ba scope C env) m',(D,.obj (.lst acc))]) sF ok hx λv d6 c5 cU jB=>?_;refine nu (c:=c) (A:=A) (cU.aZ (I,.it k (i+1)) (by exact mem_append_cons_self)).2 ?_;have sub:∀f∈aZ env m::φ,f∈(D,.obj (.lst acc))::(I,.it k (i+1))::aZ env m::φ:=λf hf=>.tail _ (.tail _ hf);refine wpAny_mono (YR C ((D,.obj (.lst acc))::(I,.it k (i+1))::aZ env m::φ) m' σ' x (λm₂ ay=>m₂=asg (eQ m scope.names) x/\ay=σ') xm ⟨Y8,rfl⟩ d6 v cU jB) (λ_ kj zq=>?_) λ_ _ y=>y.elim;refine aR zq λkC m₂ ay gQ e1 e2=>?_;clear zq;subst e1 e2;have st:=vw C i x ((D,.obj (.lst acc))::(I,.it k (i+1))::aZ env m::φ) hx sub acc ay hI;refine wpAny_mono (st kj gQ) (λb zg zq=>?_) λ_ _ y=>y.elim;refine aR zq λpY b' aD fT tI gG=>?_;clear zq;obtain rfl:b'=b:=tI;have tt:=((ht.trans c5).trans kC).trans pY;induction b' with
  |false=>
   simp only[Bool.false_eq_true,if_false] at gG ⊢;exact(fk _ (by exact HX hn ja) (i+1) acc _ aD rfl ja (Nat.le_succ_of_le JU) tt fT gG (.inr (aj x xm rfl)))
  |true=>
   simp only[if_true] at gG ⊢;refine wpAny_bind (wpAny_mono (gG zg fT) (λy Ej zq=>?_) λ_ _ y=>y.elim);refine aR zq λwM q bB rQ Bt wY=>?_;clear zq;refine wpAny_bind (mw (pre:=[aZ (ba scope C env) (asg (eQ m scope.names) x)]) rQ Bt (Nat.le_trans JU (Nat.le_trans hi Y9)) λKs AS DF=>?_);exact wpAny_pure (fk _ (by exact HX hn ja) (i+1) (acc++[q]) _ bB rfl ja (by simp;exact PL JU) ((tt.trans wM).trans AS) DF wY (.inr (aj x xm rfl)))
inductive G4 (c:Cx) (A:Around) (φ:dG) (env:Env) (m:Map) (scope:Scope) (elt target:Expr) (ifs:List Expr) (asg:Map->PV->Map) (Q:PV->St->Prop) (p:PV) (σ₁:St):Prop
 |mk (k:As) (l:List PV) (h1:aO σ₁ p k l) (h2:l.length<=sizeLine) (Inv:Nat->List PV->St->Prop) (h3:Inv 0 [] σ₁) (h4:∀i acc σ',Inv i acc σ'->rn σ' k l)
  (h5:∀C c0 m' σ' x Q,x∈l->Q (asg m' x) σ'->J1 c A c0 (ba scope C env) target x m' σ' Q) (h6:∀m' x y,x∈l->y∈l->asg (asg m' x) y=asg m' y)
  (h7:∀C i x c0,l[i]? =some x->(∀f∈aZ env m::φ,f∈c0)->∀acc σ',Inv i acc σ'->OZ c A c0 (ba scope C env) (asg (eQ m scope.names) x) ifs σ' λok ay=>
    if ok=true then WE c A c0 (ba scope C env) (asg (eQ m scope.names) x) elt ay λq aD=>Inv (i+1) (acc++[q]) aD else Inv (i+1) acc ay)
  (h8:∀acc σ' D,Inv l.length acc σ'->σ' D=none->Q (.ref D) (upd σ' D (.lst acc)))
def G0(c:Cx)(A:Around)(φ:dG)(env:Env)(m:Map)(scope:Scope)(elt target iter:Expr)(ifs:List Expr)(asg:Map->PV->Map)(V:St)(Q:PV->St->Prop):Prop:=
 WE c A φ env m iter V (G4 c A φ env m scope elt target ifs asg Q)
theorem bF{ifs:List Expr}(asg:Map->PV->Map)(hh:A.handled=none)(hs:fL scope env=true)(h:G0 c A φ env m scope elt target iter ifs asg V Q)
  (kX:∀x,foldedSetIterable iter env x=pure x:=by intro _;rfl):WE c A φ env m (.ListComp elt [⟨target,iter,ifs,0⟩] scope pos) V Q:=λs hR=>by
 refine J (eval_ListComp _ _ _ _) ?_;refine sM asg hh hR hs kX (WG.mono h λp σ₁ ⟨k,l,h1,h2,Inv,h3,h4,h5,h6,h7,h8⟩=>(gT k l h1 h2 Inv h3 h4 h5 h6 h7 (λs' acc σ' D C t hI hD R=>?_)));refine bK ((R.aZ (C,.uu) (.tail _ (.head _))).2) λmv hn=>?_;refine(aj mv hn (λh' E0=>?_));refine aA (R.nG (pre:=[aZ env m]) (g:=(C,.uu)) (s':={s' with heap:=h'}) rfl E0.extBut rfl rfl) λt' R'=>?_;exact(af (t.trans t') _ _ R' (.ref _) (h8 acc σ' D hI hD))
theorem gU{ifs:List Expr}{Bk:Pos}{Q:AF->Map->St->Prop}(asg:Map->PV->Map)(hh:A.handled=none)(hs:fL scope env=true)(hy:setOk env y=true)
  (YT:swapsWith (.ListComp elt [⟨target,iter,ifs,0⟩] scope pos) (some (.Name y py)) Bk.line env=pure true) (h:G0 c A φ env m scope elt target iter ifs asg V λp σ'=>Q .next (bh m y p) σ')
  (kX:∀x,foldedSetIterable iter env x=pure x:=by intro _;rfl):WS c A φ env (.Assign [.Name y py] (.ListComp elt [⟨target,iter,ifs,0⟩] scope pos) Bk) m V Q:=λs hR=>by
 refine J (exec_Assign_Name_used _ _ _ _ YT) ?_;refine wpAny_bind (wpAny_standAt (wpAny_bind ?_));refine(?_:wpAny _ A (do let _<-comprehension (.ListComp elt [⟨target,iter,ifs,0⟩] scope pos) scope env _ (newList []) false (eval iter env) (some (assign (.Name y py) env))) _ _ s)
 refine wpAny_bind (wpAny_mono (sM (use:=some (assign (.Name y py) env)) (G:=λ_ s'=>jr c φ env s.heap Q .next s') asg hh hR hs kX (WG.mono h λp σ₁ ⟨k,l,h1,h2,Inv,h3,h4,h5,h6,h7,h8⟩=>(gT k l h1 h2 Inv h3 h4 h5 h6 h7 (λs' acc σ' D C t hI hD R=>?_))))
  (λ_ s' hq=>wpAny_pure (wpAny_pure hq)) λ_ _ e=>e.elim)
 refine(?_:wpAny _ A (assign (.Name y py) env (.ref D)) _ _ _);refine assign_Name (cN hy R (.ref D) λbY bM cV=>?_);refine bK ((cV.aZ (C,.uu) (.tail _ (.head _))).2) λmv hn=>?_;refine(aj mv hn (λh' E0=>?_));refine aA (cV.nG (pre:=[aZ env (bh m y (.ref D))]) (g:=(C,.uu)) (s':={bY with heap:=h'}) rfl E0.extBut rfl rfl) λt' R'=>?_;exact(bS ((t.trans bM).trans t') _ _ _ R' .next (h8 acc σ' D hI hD))
end
section
theorem ar{α:Type}{l:List α}{x:α}(h:l[i]? =some x):i<l.length:=by
 rcases Nat.lt_or_ge i l.length with q|q
 ·exact q
 ·rw[List.getElem?_eq_none_iff.mpr q] at h;exact bL h
theorem mL{o:Obj}{ao:AO}(hR:Rp c s V φ)(h:jV c.prog c.w (s.heap.push o) s.heap.objs.size ao):Rp c {s with heap:=s.heap.push o} V ((s.heap.objs.size,.obj ao)::φ):=by
 refine(hR.push _ s.toks).enter (λa ha=>?_) (λa ha=>?_) (λa ha=>by exact km ha) (jF rfl) h
 ·have e:a=s.heap.objs.size:=mem_singleton.mp ha
  refine J e ?_;exact aN hR.dK hR.fresh h.get
 ·have e:a=s.heap.objs.size:=mem_singleton.mp ha
  refine J e ?_;exact hR.ij
theorem xj{pre:dG}{D:Addr}{acc:List (Str×PV)}{t:Tok}{G:Unit->Shared->Prop}(hR:Rp c s V (pre++(D,.obj (.dS acc))::φ))(hv:Vr s.heap p v)(hz:acc.length<=sizeLine)
  (h:∀s',TL s.heap s'.heap->Rp c s' V (pre++(D,.obj (.dS (dk acc x p)))::φ)->G () s'):wpAny (Mo c) A (dictSet D (.str x t) v) G F0 s:=by
 refine ah ((hR.aZ (D,.obj (.dS acc)) (mem_append_right _ mem_cons_self)).2) λcm hd hk=>?_;have hl:cm.length=acc.length:=by have:=congrArg length hk.keys;simpa using this.symm
 refine wpAny_dictSet_pairs tW hd (λh' pD hs=>?_) (by refine J hl ?_;exact hz);obtain ⟨t,R⟩:=hR.mid (g':=(D,.obj (.dS (dk acc x p)))) (s':={s with heap:=h',toks:=s.toks+1}) rfl rfl rfl hs (by(refine nX pD λo _ _ e _=>?_;clear pD);exact⟨o,e⟩) rfl rfl (λt=>(aj _ pD ((tT hk x hv).mono t)));exact h _ t R
theorem Cb{l:List (Str×PV)}:(dk l x p).length<=l.length+1:=by unfold dk;split<;>simp
theorem de(m:Map)(t:Str)(x y:PV):bh (bh m t x) t y=bh m t y:=by
 induction m with
 |nil=>simp[bh]
 |cons z r ih=>
  obtain ⟨u,w⟩:=z
  by_cases e:t=u
  ·simp[bh,e]
  ·simp[bh,e,ih]
theorem xr{kx vx:Expr}{t:Str}{px pos:Pos}{Q:PV->St->Prop}(hh:A.handled=none)(hs:fL scope env=true)
  (hT:∀C,setOk (ba scope C env) t=true)
  (h:WE c A φ env m iter V λp σ₁=>∃k l,aO σ₁ p k l/\l.length<=sizeLine/\∃Inv:Nat->List (Str×PV)->St->Prop,Inv 0 [] σ₁/\(∀i acc σ',Inv i acc σ'->rn σ' k l)/\
   (∀C i x c0,l[i]? =some x->(∀f∈aZ env m::φ,f∈c0)->∀acc σ',Inv i acc σ'->
    WE c A c0 (ba scope C env) (bh (eQ m scope.names) t x) kx σ' λz ay=>∃z',z=.str z'/\WE c A c0 (ba scope C env) (bh (eQ m scope.names) t x) vx ay λq aD=>Inv (i+1) (dk acc z' q) aD)/\
   (∀acc σ' D,Inv l.length acc σ'->σ' D=none->Q (.ref D) (upd σ' D (.dS acc))))
  (kX:∀x,foldedSetIterable iter env x=pure x:=by intro _;rfl):WE c A φ env m (.DictComp kx vx [⟨.Name t px,iter,[],0⟩] scope pos) V Q:=λs hR=>by
 refine J (arm_eval_DictComp _ _ _ _ _ _) ?_;have sD:=hs;unfold fL at sD;simp only[Bool.and_eq_true,beq_iff_eq] at sD;refine iA sD λhf hc hk hl=>?_;clear sD;have idem:=λ(m':Map) (x y:PV)=>de m' t x y
 refine wpAny_comprehension_free (use:=none) (g:=⟨.Name t px,iter,[],0⟩) (gs:=[]) rfl kX (gj hf) hk (λx hx e=>by have:=all_eq_true.mp hl x hx;rw[e] at this;simpa using this)
  (h.seq hR λv p σ₁ aM aS aT bo zq=>?_)
 refine pH zq λk l pC Y9 Inv h0 uw vw Cu=>?_;clear zq;refine ox pC aT bo λI bY bM cV=>?_;refine wpAny_newObj_type ?_;have cU:=mL (o:={cls:=.type "dict",data:=.dict #[]}) (ao:=.dS []) cV ⟨[],Heap.DictOf.new _,.nil⟩;have c5:TL s.heap (bY.heap.push {cls:=.type "dict",data:=.dict #[]}):=(aS.trans bM).trans (TL.push _ _);generalize bY.heap.objs.size=D at cU ⊢;refine mV (pre:=[(D,.obj (.dS [])),(I,.it k 0)]) cU hs λC l4 mA l9 dU he t8=>?_;refine J he (J t8 ?_);refine jQ (k:=k) (i:=0) (l9.aZ (I,.it k 0) (by exact .tail _ (.tail _ (.head _)))).2 rfl rfl rfl rfl ?_
 refine oI (g:=⟨.Name t px,iter,[],0⟩) (emit:=do
    let kv<-eval kx (ba scope C env)
    let vv<-holding [kv] (eval vx (ba scope C env))
    standAt {kx.pos with endLine:=vx.pos.endLine,endCol:=vx.pos.endCol}
    holding [kv,vv] (dictSet D kv vv)) rfl rfl rfl rfl
  (λn s'=>GZ λi acc m' σ'=>DO (n=l.length-i) (i<=l.length) (acc.length<=i) (TL s.heap s'.heap) (Rp c s' σ' (aZ (ba scope C env) m'::(D,.obj (.dS acc))::(I,.it k i)::aZ env m::φ)) (Inv i acc σ') ((m'=eQ m scope.names∨∃y,m'=bh (eQ m scope.names) t y))) (λn s' zq=>?_) (l.length-0)
  (j4 0 [] _ σ₁ rfl (Nat.zero_le _) (Nat.zero_le _) (c5.trans mA) l9 h0 (.inl rfl))
 refine j5 zq λi acc m' σ' hn hi JU ht sF hI hm=>?_;clear zq;have ok:=uw i acc σ' hI;induction hx:l[i]? with
 |none=>
  have e:i=l.length:=by have:=List.getElem?_eq_none_iff.mp hx;exact KX hi this
  subst e;refine hE (pre:=[aZ (ba scope C env) m',(D,.obj (.dS acc))]) hh sF ok hx λd6 c5 cU=>?_;refine aA (cU.show (pre:=[aZ (ba scope C env) m'])) λhD gQ=>?_;have fT:=(gQ.weak (ub gQ (nW _ _ _ rfl))).swap rfl;refine bK ((fT.aZ (C,.uu) (.tail _ (.head _))).2) λmv hn=>?_;refine(aj mv hn (λh' E0=>?_));refine aA (fT.nG (pre:=[aZ env m]) (g:=(C,.uu)) (s':={d6 with heap:=h'}) rfl E0.extBut rfl rfl) λt' R'=>?_;exact(af ((ht.trans c5).trans t') _ _ R' (.ref _) (Cu acc σ' D hI hD))
 |some x=>
  have ja:=ar hx
  have Y8:bh m' t x=bh (eQ m scope.names) t x:=by
   rcases hm with e|⟨y,e⟩
   ·exact J e rfl
   ·exact J e (J (idem _ _ _) rfl)
  refine hC (pre:=[aZ (ba scope C env) m',(D,.obj (.dS acc))]) sF ok hx λv d6 c5 cU jB=>?_;refine nu (c:=c) (A:=A) (cU.aZ (I,.it k (i+1)) (by exact mem_append_cons_self)).2 ?_;refine assign_Name (cN (hT C) cU jB λkj kC gQ=>?_);rw[Y8] at gQ;refine wpAny_tests_nil ?_;refine J (if_pos rfl) ?_;refine wpAny_bind (wpAny_mono (vw C i x _ hx (λf hf=>.tail _ (.tail _ hf)) acc σ' hI kj gQ) (λy Ej zq=>?_) λ_ _ y=>y.elim);refine rV zq λwM z ay rQ Bt z' e wY=>?_;clear zq;subst e;refine bK (bA Bt) λ_ au=>?_;subst au;refine wpAny_bind (wpAny_holding (wpAny_mono (wY Ej rQ) (λu Ks zq=>?_) λ_ _ y=>y.elim));refine aR zq λAS q aD DF PA PF=>?_;clear zq;refine wpAny_bind (wpAny_standAt (wpAny_holding (xj (pre:=[aZ (ba scope C env) (bh (eQ m scope.names) t x)]) DF PA (Nat.le_trans JU (Nat.le_trans hi Y9)) λaan Pn aag=>?_)));exact(fk _ (by exact HX hn ja) (i+1) _ _ aD rfl ja (Nat.le_trans Cb (Nat.succ_le_succ JU)) (((((ht.trans c5).trans kC).trans wM).trans AS).trans Pn) aag PF (.inr ⟨x,rfl⟩))
theorem rH{ke:Expr}{t1 t2:Str}{p1 p2:Pos}{Bk:Pos}{Q:AF->Map->St->Prop}(hh:A.handled=none)(hs:fL scope env=true)(hy:setOk env y=true)(Zv:∀C,setOk (ba scope C env) t1=true)(Nn:∀C,setOk (ba scope C env) t2=true)
  (YT:swapsWith (.ListComp elt [⟨.Name t1 p1,iter,[],0⟩,⟨.Name t2 p2,ke,[],0⟩] scope pos) (some (.Name y py)) Bk.line env=pure true) (gL:t1≠t2)
  (h:WE c A φ env m iter V λp σ₁=>∃k l,aO σ₁ p k l/\∃Inv:Nat->List PV->St->Prop,Inv 0 [] σ₁/\(∀i acc σ',Inv i acc σ'->rn σ' k l)/\
   (∀C i x c0 m₁,l[i]? =some x->(∀f∈aZ env m::φ,f∈c0)->dB m₁ t1=some x->(∀z,z≠t1->z≠t2->dB m₁ z=dB (eQ m scope.names) z)->∀acc σ',Inv i acc σ'->
    WE c A c0 (ba scope C env) m₁ ke σ' λp' ay=>∃k2 l2,aO ay p' k2 l2/\∃Inv2:Nat->List PV->St->Prop,Inv2 0 acc ay/\(∀j eV σ',Inv2 j eV σ'->rn σ' k2 l2)/\
     (∀j x2 n8 m₂,l2[j]? =some x2->(∀f∈aZ env m::φ,f∈n8)->dB m₂ t1=some x->dB m₂ t2=some x2->(∀z,z≠t1->z≠t2->dB m₂ z=dB (eQ m scope.names) z)->∀eV σ',Inv2 j eV σ'->eV.length<=sizeLine/\
      WE c A n8 (ba scope C env) m₂ elt σ' λq aD=>Inv2 (j+1) (eV++[q]) aD)/\
     (∀eV σ',Inv2 l2.length eV σ'->Inv (i+1) eV σ'))/\
   (∀acc σ' D,Inv l.length acc σ'->σ' D=none->Q .next (bh m y (.ref D)) (upd σ' D (.lst acc))))
  (kX:∀x,foldedSetIterable iter env x=pure x:=by intro _;rfl) (I1:∀C x,foldedSetIterable ke (ba scope C env) x=pure x:=by intro _ _;rfl):
  WS c A φ env (.Assign [.Name y py] (.ListComp elt [⟨.Name t1 p1,iter,[],0⟩,⟨.Name t2 p2,ke,[],0⟩] scope pos) Bk) m V Q:=λs hR=>by
 refine J (exec_Assign_Name_used _ _ _ _ YT) ?_;refine wpAny_bind (wpAny_standAt (wpAny_bind ?_));refine(?_:wpAny _ A (do let _<-comprehension (.ListComp elt [⟨.Name t1 p1,iter,[],0⟩,⟨.Name t2 p2,ke,[],0⟩] scope pos) scope env _ (newList []) false (eval iter env) (some (assign (.Name y py) env))) _ _ s);have sD:=hs;unfold fL at sD;simp only[Bool.and_eq_true,beq_iff_eq] at sD;refine iA sD λhf hc hk hl=>?_;clear sD;refine wpAny_bind (wpAny_mono (Q:=λ_ s'=>jr c φ env s.heap Q .next s') (E:=F0) ?_ (λ_ s' hq=>wpAny_pure (wpAny_pure hq)) λ_ _ e=>e.elim)
 refine wpAny_comprehension_free (use:=some (assign (.Name y py) env)) (g:=⟨.Name t1 p1,iter,[],0⟩) (gs:=[⟨.Name t2 p2,ke,[],0⟩]) rfl kX (gj hf) hk (λx hx e=>by have:=all_eq_true.mp hl x hx;rw[e] at this;simpa using this)
  (h.seq hR λv p σ₁ aM aS aT bo zq=>?_)
 refine i8 zq λk l pC Inv h0 uw vw Cu=>?_;clear zq;refine ox pC aT bo λI bY bM cV=>?_;refine wpAny_newList ?_ (Nat.zero_le _);have cU:=mL (o:={cls:=.type "list",data:=.seq ([]:List Value).toArray}) (ao:=.lst []) cV (fN #[] 0 (Heap.get?_push_size _ rfl) .nil);have c5:TL s.heap (bY.heap.push {cls:=.type "list",data:=.seq ([]:List Value).toArray}):=(aS.trans bM).trans (TL.push _ _);generalize bY.heap.objs.size=D at cU ⊢;refine mV (pre:=[(D,.obj (.lst [])),(I,.it k 0)]) cU hs λC l4 mA l9 dU he t8=>?_;refine J he (J t8 ?_);refine jQ (k:=k) (i:=0) (l9.aZ (I,.it k 0) (by exact .tail _ (.tail _ (.head _)))).2 rfl rfl rfl rfl ?_
 refine xv (g:=⟨.Name t1 p1,iter,[],0⟩) (emit:=do
    let x<-eval ke (ba scope C env)
    standAt ke.pos
    let x<-foldedSetIterable ke (ba scope C env) x
    let it2<-holding [x] (pyIter x)
    let _<-runOwn (.compStart (.ListComp elt [⟨.Name t1 p1,iter,[],0⟩,⟨.Name t2 p2,ke,[],0⟩] scope pos) 1 it2 (.ref D) (ba scope C env)) (ba scope C env)
    again (.compLoop (.ListComp elt [⟨.Name t1 p1,iter,[],0⟩,⟨.Name t2 p2,ke,[],0⟩] scope pos) 0 (.ref I) (.ref D) (ba scope C env))) rfl rfl rfl rfl
  (λn s'=>GZ λi acc m' σ'=>An6 (n=l.length-i) (i<=l.length) (TL s.heap s'.heap) (Rp c s' σ' (aZ (ba scope C env) m'::(D,.obj (.lst acc))::(I,.it k i)::aZ env m::φ)) (Inv i acc σ') ((∀z,z≠t1->z≠t2->dB m' z=dB (eQ m scope.names) z))) (λn s' zq=>?_) (l.length-0)
  ⟨0,[],_,σ₁,rfl,Nat.zero_le _,c5.trans mA,l9,h0,λ_ _ _=>rfl⟩
 refine wx zq λi acc m' σ' hn hi ht sF hI hm=>?_;clear zq;have ok:=uw i acc σ' hI;induction hx:l[i]? with
 |none=>
  have e:i=l.length:=by have:=List.getElem?_eq_none_iff.mp hx;exact KX hi this
  subst e;refine hE (pre:=[aZ (ba scope C env) m',(D,.obj (.lst acc))]) hh sF ok hx λd6 c5 cU=>?_;refine aA (cU.show (pre:=[aZ (ba scope C env) m'])) λhD gQ=>?_;have fT:=(gQ.weak (ub gQ (nW _ _ _ rfl))).swap rfl;refine(?_:wpAny _ A (assign (.Name y py) env (.ref D)) _ _ _);refine assign_Name (cN hy fT (.ref D) λkj kC rQ=>?_);refine bK ((rQ.aZ (C,.uu) (.tail _ (.head _))).2) λmv hn=>?_;refine(aj mv hn (λh' E0=>?_));refine aA (rQ.nG (pre:=[aZ env (bh m y (.ref D))]) (g:=(C,.uu)) (s':={kj with heap:=h'}) rfl E0.extBut rfl rfl) λt' R'=>?_;exact(bS (((ht.trans c5).trans kC).trans t') _ _ _ R' .next (Cu acc σ' D hI hD))
 |some x=>
  have ja:=ar hx;refine hC (pre:=[aZ (ba scope C env) m',(D,.obj (.lst acc))]) sF ok hx λv d6 c5 cU jB=>?_;refine nu (c:=c) (A:=A) (cU.aZ (I,.it k (i+1)) (by exact mem_append_cons_self)).2 ?_;refine assign_Name (cN (Zv C) cU jB λkj kC gQ=>?_);refine wpAny_tests_nil ?_;refine J (if_pos rfl) ?_;have Gx:∀z,z≠t1->z≠t2->dB (bh m' t1 x) z=dB (eQ m scope.names) z:=λz a b=>by refine J (eO a) ?_;exact hm z a b
  refine wpAny_bind (wpAny_mono (vw C i x _ (bh m' t1 x) hx (λf hf=>.tail _ (.tail _ hf)) (by exact J (d9 _ _ _ _) (J (if_pos rfl) rfl)) Gx acc σ' hI kj gQ) (λu zg zq=>?_) λ_ _ y=>y.elim);refine kz zq λpY p' ay fT tI k2 l2 MM Inv2 h02 Y4 IL Nc=>?_;clear zq;refine wpAny_bind (wpAny_standAt ?_);refine J (I1 C _) ?_;refine wpAny_bind (wpAny_pure ?_);refine wpAny_bind (wpAny_holding (ox MM fT tI λI2 Ej wM rQ=>?_));have GV:=rQ.swap rfl;have tA:=(((ht.trans c5).trans kC).trans pY).trans wM;refine wpAny_bind (wpAny_runOwn ?_);refine jQ (k:=k2) (i:=0) (GV.aZ (I2,.it k2 0) (by exact .tail _ (.head _))).2 rfl rfl rfl rfl ?_
  refine oI (g:=⟨.Name t2 p2,ke,[],0⟩) (emit:=do let x<-eval elt (ba scope C env);let _<-call (.builtin "list.append") [.ref D,x]) rfl rfl rfl rfl
   (λn s'=>GZ λj eV m' σ'=>DO (n=l2.length-j) (j<=l2.length) (TL s.heap s'.heap) (Rp c s' σ' (aZ (ba scope C env) m'::(I2,.it k2 j)::(D,.obj (.lst eV))::(I,.it k (i+1))::aZ env m::φ)) (Inv2 j eV σ') (dB m' t1=some x) ((∀z,z≠t1->z≠t2->dB m' z=dB (eQ m scope.names) z))) (λn s' zq=>?_) (l2.length-0)
   (j4 0 acc _ ay rfl (Nat.zero_le _) tA GV h02 (by exact J (d9 _ _ _ _) (J (if_pos rfl) rfl)) Gx)
  refine j5 zq λj eV m2 σ' hn hj ht sF hI hx1 hm=>?_;clear zq;have ok2:=Y4 j eV σ' hI;induction xh:l2[j]? with
  |none=>
   have e:j=l2.length:=by have:=List.getElem?_eq_none_iff.mp xh;exact KX hj this
   subst e;refine hE (pre:=[aZ (ba scope C env) m2]) hh sF ok2 xh λd6 c5 cU=>?_;exact wpAny_pure (cL rfl _ (by exact HX (by assumption) ja) ⟨i+1,eV,m2,σ',rfl,ja,ht.trans c5,cU,Nc eV σ' hI,hm⟩)
  |some x2=>
   have MX:=ar xh;refine hC (pre:=[aZ (ba scope C env) m2]) sF ok2 xh λv d6 c5 cU jB=>?_;refine nu (c:=c) (A:=A) (cU.aZ (I2,.it k2 (j+1)) (by exact .tail _ (.head _))).2 ?_;refine assign_Name (cN (Nn C) cU jB λkj kC gQ=>?_);refine wpAny_tests_nil ?_;refine J (if_pos rfl) ?_;obtain ⟨hz,wY⟩:=IL j x2 _ (bh m2 t2 x2) xh (λf hf=>.tail _ (.tail _ (.tail _ hf))) (by refine J (eO gL) ?_;exact hx1) (by exact J (d9 _ _ _ _) (J (if_pos rfl) rfl)) (λz a b=>by refine J (eO b) ?_;exact hm z a b) eV σ' hI;refine wpAny_bind (wpAny_mono (wY kj gQ) (λy Ej zq=>?_) λ_ _ y=>y.elim);refine aR zq λwM q bB rQ Bt wY=>?_;clear zq;refine wpAny_bind (mw (pre:=[aZ (ba scope C env) (bh m2 t2 x2),(I2,.it k2 (j+1))]) rQ Bt hz λKs AS DF=>?_);exact wpAny_pure (fk _ (by exact HX hn MX) (j+1) (eV++[q]) _ bB rfl MX ((((ht.trans c5).trans kC).trans wM).trans AS) DF wY (by refine J (eO gL) ?_;exact hx1) (λz a b=>by refine J (eO b) ?_;exact hm z a b))
end
noncomputable def GQ:PV->Option (Option Int)
 |.none=>some none
 |.int i=>some (some i)
 |_=>none
theorem v7{k:Option Int}(r:Vr h p v)(e:GQ p=some k):IsPart v k:=by
 cases r<;>simp[GQ] at e
 ·subst e;exact .none
 ·subst e;exact .int _ _
theorem s6{l:List PV}(r:dD h l vs)(lo hi:Option Int):dD h (sl l lo hi) (sl vs lo hi):=by unfold sl;refine J r.length ?_;exact(r.drop _).take _
theorem Bm{α:Type}(l:List α)(lo hi:Option Int):(sl l lo hi).length<=l.length:=by unfold sl;refine J length_take (J length_drop ?_);exact Yn
theorem pS(n:Nat)(i:Int):clipAt n i<=n:=by have:=clipAt_cast n i;exact Yo this
theorem Ba(lo hi:Option Int)(n:Nat):Builtin.Str.strSliceIndices lo hi 1 n=(range (hi.elim n (clipAt n)-lo.elim 0 (clipAt n))).map (lo.elim 0 (clipAt n)+·):=by refine rS (sliceRange_one _ _) ?_;unfold Builtin.Str.strSliceIndices;induction lo<;>induction hi<;>simp[clipAt_cast]
theorem uK(x:Str)(lo hi:Option Int):(Builtin.Str.strSliceIndices lo hi 1 x.length).filterMap (x.cps[·]?)=sl x.cps.toList lo hi:=by refine J (Ba _ _ _) (J (pick_run _ _ _) ?_);rfl
theorem tv{α:Type}{l:List α}{lo hi:Option Int}(h:(sl l lo hi).length=l.length):sl l lo hi=l:=by
 unfold sl at*;rw[length_take,length_drop] at h;have a:lo.elim 0 (clipAt l.length)<=l.length:=by induction lo with|none=>exact Nat.zero_le _|some i=>exact pS _ _
 have b:hi.elim l.length (clipAt l.length)<=l.length:=by induction hi with|none=>exact Nat.le_refl _|some i=>exact pS _ _
 rcases Nat.eq_zero_or_pos l.length with z|z
 ·have:l=[]:=length_eq_zero_iff.mp z
  subst this;simp
 ·have e:lo.elim 0 (clipAt l.length)=0:=by exact Ym h z
  rw[e] at h ⊢;refine J drop_zero ?_;exact take_of_length_le (by exact Yl h)
section
theorem Dt{l:List PV}(hR:Rp c s V φ)(e:∃vs n,c.H.get? a=some (listOf vs n)/\dD c.H l vs.toList):∃vs:List Value,s.heap.IsList a vs.toArray/\dD s.heap l vs:=by refine b0 e λvs n h1 h2=>?_;clear e;exact(lD vs.toList _ (hR.base _ _ h1) rfl n (by simp) (h2.mono (TL.keep hR.base)))
def JZ(c:Cx)(A:Around)(φ:dG)(env:Env)(m:Map)(e:Option Expr)(V:St)(Q:PV->St->Prop):Prop:=match e with
 |none=>Q .none V
 |some e=>WE c A φ env m e V Q
theorem qN{e:Option Expr}(h:JZ c A φ env m e V Q):WG c A (aZ env m::φ) Vr (evalPart e env) V Q:=by
 induction e with
 |none=>refine J (evalPart_none _) ?_;exact λs hR=>wpAny_pure (af (TL.refl _) _ V hR .none h)
 |some e=>refine J (evalPart_some _ _) ?_;exact h
inductive eZ (c:Cx) (V:St):PV->Option Int->Option Int->(PV->St->Prop)->Prop
 |str {l:LN} {lo hi:Option Int} {Q:PV->St->Prop} (hz:l.length<=sizeLine) (h:Q (.str (S (sl l lo hi))) V):eZ c V (.str (S l)) lo hi Q
 |tup {l:List PV} {lo hi:Option Int} {Q:PV->St->Prop} (hz:l.length<=sizeLine) (h:Q (.tup (sl l lo hi)) V):eZ c V (.tup l) lo hi Q
 |lst {a:Addr} {l:List PV} {lo hi:Option Int} {Q:PV->St->Prop} (e:V a=some (.lst l)) (hz:l.length<=sizeLine) (h:∀b,V b=none->Q (.ref b) (upd V b (.lst (sl l lo hi)))):eZ c V (.ref a) lo hi Q
 |base {a:Addr} {l:List PV} {lo hi:Option Int} {Q:PV->St->Prop} (e:∃vs n,c.H.get? a=some (listOf vs n)/\dD c.H l vs.toList) (hz:l.length<=sizeLine) (h:∀b,V b=none->Q (.ref b) (upd V b (.lst (sl l lo hi)))):eZ c V (.ref a) lo hi Q
theorem oU{k:Option Int}{Q:Option Int->Shared->Prop}(p:IsPart v k)(h:Q k s):wpAny (Mo c) A (Builtin.Slice.slicePartIndex v) Q F0 s:=by
 cases p with
 |none=>exact slicePart_none h
 |int i t=>exact slicePart_int h
theorem wi(lo hi:Option Int)(k:Nat):Builtin.Slice.sliceAdjust lo hi 1 (k:Int)=(((lo.elim 0 (clipAt k):Nat):Int),((hi.elim k (clipAt k):Nat):Int)):=by
 unfold Builtin.Slice.sliceAdjust;have h1:¬((1:Int)<0):=by decide
 simp only[h1,if_false];induction lo<;>induction hi<;>simp only[Option.elim,clipAt_cast,Prod.mk.injEq]<;>(refine⟨?_,?_⟩)<;>(first|rfl|trivial|(split<;>first|exact Qj (by assumption)|exact Qi (by assumption)))
theorem u0(a b:Nat):Builtin.Slice.slicePlaces (a:Int) (b:Int) 1=b-a:=by
 unfold Builtin.Slice.slicePlaces;have h1:(1:Int)>0:=by decide
 simp only[h1,if_true,Int.ediv_one]
 split<;>first|exact Qb|exact Qa (by assumption)
theorem qb{sl:Addr}{vl vu:Value}{lo hi:Option Int}{Q:Int×Int×Nat->Shared->Prop}(hs:s.heap.IsSliceOf sl vl vu .none)(pl:IsPart vl lo)(pu:IsPart vu hi)
  (h:Q (((lo.elim 0 (clipAt k):Nat):Int),1,hi.elim k (clipAt k)-lo.elim 0 (clipAt k)) s):wpAny (Mo c) A (Builtin.Slice.sliceApplied (.ref sl) (pure (k:Int))) Q F0 s:=by
 refine aK (id hs) λos MT yH OT=>?_;unfold Builtin.Slice.sliceApplied Builtin.Slice.sliceFields;refine wpAny_bind (wpAny_bind (wpAny_field MT OT (x:=vl) rfl (wpAny_bind (wpAny_field MT OT (x:=vu) rfl (wpAny_bind (wpAny_field MT OT (x:=.none) rfl (wpAny_pure ?_)))))));refine wpAny_bind (slicePart_none ?_);refine(?_:wpAny _ _ (if ((1:Int)==0)=true then _ else _) _ _ s);refine J (if_neg (by decide)) ?_;refine wpAny_bind (oU pl (wpAny_bind (oU pu (wpAny_bind (wpAny_pure ?_)))));refine(?_:wpAny _ _ (match Builtin.Slice.sliceAdjust lo hi 1 (k:Int) with|(lo,hi)=>pure (lo,(1:Int),Builtin.Slice.slicePlaces lo hi 1)) _ _ s);refine J (wi _ _ _) ?_;refine(?_:wpAny _ _ (pure (((lo.elim 0 (clipAt k):Nat):Int),(1:Int),Builtin.Slice.slicePlaces ((lo.elim 0 (clipAt k):Nat):Int) ((hi.elim k (clipAt k):Nat):Int) 1)) _ _ s);refine J (u0 _ _) ?_;exact wpAny_pure h
theorem BE(xs:Array Value)(a k:Nat):((range k).filterMap λ(j:Nat)=>xs[((a:Int)+(j:Int)*1).toNat]?).toArray=((xs.toList.drop a).take k).toArray:=by
 have e:(λ(j:Nat)=>xs[((a:Int)+(j:Int)*1).toNat]?)=λj=>xs[a+j]?:=by
  funext j
  have:((a:Int)+(j:Int)*1).toNat=a+j:=by exact Yk
  exact J this rfl
 refine J e ?_;have:=pick_run xs a k;rw[filterMap_map] at this;have e2:((λx=>xs[x]?)∘λx=>a+x)=λj=>xs[a+j]?:=rfl;rw[e2] at this;exact J this rfl
theorem oy{t sa:Addr}{items:Array Value}{vl vu:Value}{lo hi:Option Int}{Q:Value->Shared->Prop}(ht:IsTup s.heap t items)(hs:s.heap.IsSliceOf sa vl vu .none)(pl:IsPart vl lo)(pu:IsPart vu hi)
  (h0:sl items.toList lo hi=items.toList->Q (.ref t) s)
  (h:Q (.ref s.heap.objs.size) {s with heap:=s.heap.push {cls:=.type "tuple",data:=.seq (sl items.toList lo hi).toArray}})
  (t5:items.size<=sizeLine):wpAny (Mo c) A (getItem (.ref t) (.ref sa)) Q F0 s:=by
 have EZ:sizeOk (.seq (sl items.toList lo hi).toArray):=by refine(?_:(sl items.toList lo hi).toArray.size<=sizeLine);refine J size_toArray ?_;exact Nat.le_trans (Bm _ _ _) (by simpa using t5)
 refine aK (id hs) λos MT yH OT=>?_;have hTs:s.TypeIs (.ref sa) "slice":=(aj os MT yH);unfold getItem
 try with_reducible refine wpAny_holding ?_
 first|refine wpAny_bind (wpAny_pure ?_)|skip
 refine wpAny_bind (wpAny_sequenceKey ht.typeIs (by decide) ?_)
 refine wpAny_bind (wpAny_callSpecial?_slot (name:=Str.ofString "__getitem__") ht.typeIs slot_tuple_getitem
  (wpAny_call_entry slot_tuple_getitem ht.typeIs entry_tuple_getitem ?_ (args_tuple_getitem _ _)))
 refine(?_:wpAny _ _ (Builtin.Tuple.tupleItemsOf (.ref t)>>=_) _ _ s);refine wpAny_bind (tupleItemsOf_ ht ?_);refine wpAny_bind (wpAny_typeOf hTs ?_);refine J (if_pos (by decide)) ?_;refine wpAny_bind (qb (k:=items.size) hs pl pu ?_);refine(?_:wpAny _ _ (if (((lo.elim 0 (clipAt items.size):Nat):Int)==0&&(1:Int)==1&&(hi.elim items.size (clipAt items.size)-lo.elim 0 (clipAt items.size))==items.size)=true then _ else _) _ _ s)
 split
 ·rename_i hc
  simp only[Bool.and_eq_true,beq_iff_eq] at hc;refine DM hc λh1 _ h2=>?_;clear hc;have e1:lo.elim 0 (clipAt items.size)=0:=by exact Yj h1
  have full:sl items.toList lo hi=items.toList:=by refine tv ?_;unfold sl;rw[length_take,length_drop,Array.length_toList,e1] at*;exact Yi h2
  refine wpAny_bind (m:=Builtin.Tuple.tupleIsExact _) ?_;unfold Builtin.Tuple.tupleIsExact;refine wpAny_bind (wpAny_typeOf ht.typeIs ?_);refine wpAny_pure ?_;refine J (if_pos (by decide)) ?_
  first
   |exact wpAny_bind (wpAny_rule (wpAny_bind (m:=ret _) (wpAny_pure (wpAny_pure (aj _ rfl (wpAny_pure (h0 full)))))))
   |exact wpAny_rule (wpAny_bind (m:=ret _) (wpAny_pure (wpAny_pure ⟨_,rfl,wpAny_pure (h0 full)⟩)))
   |exact wpAny_bind (wpAny_rule (wpAny_pure ⟨_,rfl,wpAny_pure (h0 full)⟩))
 ·refine J (BE _ _ _) ?_
  have e:((items.toList.drop (lo.elim 0 (clipAt items.size))).take (hi.elim items.size (clipAt items.size)-lo.elim 0 (clipAt items.size)))=sl items.toList lo hi:=by unfold sl;exact J Array.length_toList rfl
  refine J e ?_
  first
   |exact wpAny_bind (m:=Builtin.Tuple.tupleExact _) (wpAny_newObj_type (wpAny_pure (aj _ rfl (wpAny_pure h))) EZ)
   |exact wpAny_bind (m:=Builtin.Tuple.tupleExact _) (wpAny_newObj_type (wpAny_bind (wpAny_pure (wpAny_pure ⟨_,rfl,wpAny_pure h⟩))) EZ)
   |exact wpAny_bind (wpAny_bind (m:=Builtin.Tuple.tupleExact _) (wpAny_newObj_type (wpAny_pure (wpAny_pure ⟨_,rfl,wpAny_pure h⟩)) EZ))
   |exact wpAny_bind (wpAny_bind (m:=Builtin.Tuple.tupleExact _) (wpAny_newObj_type (wpAny_pure ⟨_,rfl,wpAny_pure h⟩) EZ))
theorem Fl{lower upper:Option Expr}{p:Pos}
  (h:WE c A φ env m value V λa σ₁=>JZ c A φ env m lower σ₁ λpl ay=>JZ c A φ env m upper ay λpu aD=>∃lo hi,GQ pl=some lo/\GQ pu=some hi/\eZ c aD a lo hi Q):
  WE c A φ env m (.Subscript value (.Slice lower upper none p) pos) V Q:=λs hR=>by
 refine Subscript_ (h.seq hR λva a σ₁ aM aS aT bo bf=>?_);refine wpAny_Slice ((qN bf).seq aT λvl pl ay bY bM cV fe fm=>(qN fm).seq cV λvu pu aD d6 c5 cU jB zq=>?_);refine aV zq λlo hi e1 e2 qm=>?_;clear zq;refine J (evalPart_none _) ?_;refine wpAny_pure ?_;have p1:=v7 (fe.mono c5) e1;have p2:=v7 jB e2;have bo:=bo.mono (bM.trans c5);have EZ:(d6.heap.push {cls:=.type "slice",data:=.fields #[vl,vu,.none]}).IsSliceOf d6.heap.objs.size vl vu .none:=Heap.IsSliceOf.new ..;have R4:=cU.push {cls:=.type "slice",data:=.fields #[vl,vu,.none]} d6.toks;have t4:TL s.heap (d6.heap.push {cls:=.type "slice",data:=.fields #[vl,vu,.none]}):=((aS.trans bM).trans c5).trans (TL.push _ _);cases qm with
 |@str l _ _ _ hz hq=>
  refine bK (bA bo) λ_ au=>?_;subst au
  have hp:∃l' u',vl=partValue l'/\vu=partValue u'/\l'.map (·.1)=lo/\u'.map (·.1)=hi:=by
   cases p1<;>cases p2
   ·exact dX none none rfl rfl rfl rfl
   ·exact dX none (some (_,_)) rfl rfl rfl rfl
   ·exact dX (some (_,_)) none rfl rfl rfl rfl
   ·exact dX (some (_,_)) (some (_,_)) rfl rfl rfl rfl
  refine dF hp λl' u' au wJ zr2 zr3=>?_;clear hp;subst au;subst wJ;subst zr2;subst zr3;refine tail_any (typeIs_str _ _ _) F.slot_str_getitem.lookup (wpAny_getItem_str_slice (l:=l') (u:=u') (st:=none) EZ rfl ?_) rfl;unfold sliceMade slicePicked
  have ep:(Builtin.Str.strSliceIndices (l'.map (·.1)) (u'.map (·.1)) (((none:Option (Int×Tok)).map (·.1)).getD 1) (S l).length).filterMap ((S l).cps[·]?)=sl l (l'.map (·.1)) (u'.map (·.1)):=by have:=uK (S l) (l'.map (·.1)) (u'.map (·.1));simpa[S] using this
  split
  ·rename_i hc
   have hlen:(sl l (l'.map (·.1)) (u'.map (·.1))).length=l.length:=by
    refine rS ep ?_;simp only[Option.map_none,Option.getD_none,beq_self_eq_true,Bool.true_and,beq_iff_eq] at hc;simp only[Option.map_none,Option.getD_none];refine J (uK _ _ _) ?_;have h1:=Ba (l'.map (·.1)) (u'.map (·.1)) (S l).length;rw[h1] at hc;simp only[length_map,length_range] at hc;rw[bI] at hc;unfold sl;refine J length_take (J length_drop ?_);have:(S l).cps.toList=l:=by simp[S]
    refine J this ?_;have c1:(l'.map (·.1)).elim 0 (clipAt l.length)<=l.length:=by induction l'.map (·.1) with|none=>exact Nat.zero_le _|some i=>exact pS _ _
    have c2:(u'.map (·.1)).elim l.length (clipAt l.length)<=l.length:=by induction u'.map (·.1) with|none=>exact Nat.le_refl _|some i=>exact pS _ _
    exact Yh hc c2
   rw[tv hlen] at hq;exact af t4 _ _ R4 (.str _ _) hq
  ·refine J ep ?_
   refine(iQ ?_ t4 _ ⟨_,R4.toks _,.str _ _,hq⟩);exact Nat.le_trans (by refine(?_:(sl l _ _).toArray.size<=_);refine J size_toArray ?_;exact Bm _ _ _) hz
 |@tup l _ _ _ hz hq=>
  cases bo with
  |@tup _ a items nc hr=>
   refine tail_any (nc.push _).typeIs slot_tuple_getitem.lookup (oy (nc.push _) EZ p1 p2 (λe=>?_) ?_ (by refine J (cq hr) ?_;exact hz)) rfl
   ·have:sl l lo hi=l:=by
     refine tv ?_;have h1:=(s6 hr lo hi).length;rw[e] at h1;exact J h1 (J hr.length rfl)
    rw[this] at hq;exact af t4 _ _ R4 (.tup (nc.push _) (hr.mono (TL.push _ _))) hq
   ·have R5:=R4.push {cls:=.type "tuple",data:=.seq (sl items.toList lo hi).toArray} d6.toks
    exact(af (t4.trans (TL.push _ _)) _ _ R5 (.tup (ir _ (Heap.get?_push_size _ rfl) rfl _ rfl) (by simpa using (s6 hr lo hi).mono ((TL.push _ _).trans (TL.push _ _)))) hq)
 |@lst a l _ _ _ e hz hq=>
  obtain rfl:=bj bo;refine ah (isList R4 e) λvs hl hr=>?_;have ez:vs.length=l.length:=hr.length.symm;refine tail_any hl.typeIs slot_list_getitem.lookup (wpAny_getItem_list_slice hl EZ p1 p2 .none (by exact Ne.symm (Option.some_ne_none 0)) ?_ (by refine J size_toArray (J ez ?_);exact hz)) rfl;refine J (slicePick_plain _ _ _) ?_;have e5:((vs.toArray.toList.drop (lo.elim 0 (clipAt vs.toArray.size))).take (hi.elim vs.toArray.size (clipAt vs.toArray.size)-lo.elim 0 (clipAt vs.toArray.size)))=sl vs lo hi:=by unfold sl;rfl
  refine J e5 ?_;exact af (t4.trans (TL.push _ _)) _ _ (pM R4 (s6 hr lo hi)) (.ref _) (hq _ R4.fresh)
 |@base a l _ _ _ e hz hq=>
  obtain rfl:=bj bo;refine ah (Dt R4 e) λvs hl hr=>?_;have ez:vs.length=l.length:=hr.length.symm;refine tail_any hl.typeIs slot_list_getitem.lookup (wpAny_getItem_list_slice hl EZ p1 p2 .none (by exact Ne.symm (Option.some_ne_none 0)) ?_ (by refine J size_toArray (J ez ?_);exact hz)) rfl;refine J (slicePick_plain _ _ _) ?_;have e5:((vs.toArray.toList.drop (lo.elim 0 (clipAt vs.toArray.size))).take (hi.elim vs.toArray.size (clipAt vs.toArray.size)-lo.elim 0 (clipAt vs.toArray.size)))=sl vs lo hi:=by unfold sl;rfl
  refine J e5 ?_;exact af (t4.trans (TL.push _ _)) _ _ (pM R4 (s6 hr lo hi)) (.ref _) (hq _ R4.fresh)
end
section
theorem NI(h:Q (.bool (x !=y)) V):W2 c A φ Vr (compareOp .NotEq) (.str x) (.str y) V Q:=λs va vb hR ha hb=>by (refine bK (bA ha) λ_ au=>?_;subst au);(refine bK (bA hb) λ_ au=>?_;subst au);exact ne_str (af (TL.refl _) _ V hR (.bool _) h)
theorem NJ{x y:Int}(h:Q (.bool (x !=y)) V):W2 c A φ Vr (compareOp .NotEq) (.int x) (.int y) V Q:=λs va vb hR ha hb=>by (refine bK (aX ha) λ_ au=>?_;subst au);(refine bK (aX hb) λ_ au=>?_;subst au);exact ne_int (af (TL.refl _) _ V hR (.bool _) h)
theorem NK{x y:Bool}(h:Q (.bool (x !=y)) V):W2 c A φ Vr (compareOp .NotEq) (.bool x) (.bool y) V Q:=λs va vb hR ha hb=>by obtain rfl:=ng ha;obtain rfl:=ng hb;exact ne_bool (af (TL.refl _) _ V hR (.bool _) h)
theorem GP{a b:PV}(hA:Rm n A)(ha:PV.key a=true)(hb:PV.key b=true)(hd:PV.dep a<=64)(h:Q (.bool (PV.qP a b)) V):W2 c A φ Vr (compareOp .Eq) a b V Q:=λs va vb hR ra rb=>
 ql A ha hb ra rb (by have:=hA.units;refine(?_:_<9900);exact Mm hd this) _ _ _ _ (af (TL.refl _) _ V hR (.bool _) h)
noncomputable def nl:PV->Bool
 |.none=>true
 |.ref _=>true
 |_=>false
open SeqAt in
theorem yY{a b:PV}{da db:PyData}(hA:Rm n A)(h1:Dv V a da)(h2:Dv V b db)(n1:nl a=true)(n2:nl b=true)(hd:da.depth<=64)(h:Q (.bool (!PyData.eqv da db)) V):W2 c A φ Vr (compareOp .NotEq) a b V Q:=λs va vb hR ha hb=>by
 have ko:A.units<cLine:=hA.line;cases h1 with
 |none=>
  obtain rfl:=iG ha;cases h2 with
  |none=>obtain rfl:=iG hb;exact SeqAt.RcNeAt.none_none _ _ _ _ (af (TL.refl _) _ V hR (.bool _) h)
  |lst e h'=>obtain rfl:=bj hb;refine ah (oj hR e) λAK wC gK=>?_;exact SeqAt.RcNeAt.none_list wC ko _ _ _ _ (af (TL.refl _) _ V hR (.bool _) h)
  |bool _|int _|str _|tup _=>exact iD n2
 |@lst a l ds e h'=>
  obtain rfl:=bj ha;refine ah (oj hR e) λvs hl hr=>?_;cases h2 with
  |none=>obtain rfl:=iG hb;exact SeqAt.RcNeAt.list_none hl ko _ _ _ _ (af (TL.refl _) _ V hR (.bool _) h)
  |@lst b l' ds' e' JV=>
   obtain rfl:=bj hb;refine ah (oj hR e') λAK wC gK=>?_;rw[show PyData.eqv (.list ds) (.list ds')=PyData.eqvAll ds ds' by simp only[PyData.eqv]] at h
   by_cases t5:vs.size=AK.size
   ·have:=SeqAt.RcNeAt.lists (e:=pairEq ds ds') hl wC t5 ko (λj h1 h2=>by
     have:=C7 A.in1 (wU hR h' hr) (wU hR JV gK) (by have e9:(PyData.list ds).depth=PyData.depthAll ds+1:=(by unfold PyData.depth;rfl);rw[e9] at hd;have:=hA.units;refine(?_:A.units+1+_<9900);exact Yb hd this) j (by simpa using h1) (by simpa using h2);simpa using this)
    refine this _ _ _ _ (af (TL.refl _) _ V hR (.bool _) ?_);rw[<-eqvAll_same_length (by refine J (lW h') (J (lW JV) (J hr.length (J gK.length ?_)));simpa using t5),lW h',hr.length] at h;simpa using h
   ·rw[eqvAll_other_length (by refine J (lW h') (J (lW JV) (J hr.length (J gK.length ?_)));simpa using t5)] at h
    exact SeqAt.RcNeAt.lists_lengths hl wC (by simpa using t5) ko _ _ _ _ (af (TL.refl _) _ V hR (.bool _) h)
  |bool _|int _|str _|tup _=>exact iD n2
 |bool _|int _|str _|tup _=>exact iD n1
theorem yS{l:List PV}{k:PV}(hk:PV.key k=true)(hl:PV.keys l=true)(r:dD h l vs)(e:Value->Bool)(he:∀y,e y=true↔Vr h k y):vs.any e=l.any λp=>PV.qP p k:=by
 induction l generalizing vs with
 |nil=>cases r;rfl
 |cons p l ih=>
  cases r with
  |cons h1 h2=>
   simp only[PV.keys,Bool.and_eq_true] at hl;simp only[any_cons,ih hl.2 h2]
   congr 1
   induction q:PV.qP p k with
   |true=>have:=PV.ud q;subst this;exact(he _).mpr h1
   |false=>
    cases q':e _ with
    |false=>rfl
    |true=>have:=Vr.inj hl.1 hk h1 ((he _).mp q');subst this;rw[PV.ik] at q;exact rB q
theorem C6{l:List PV}{vs:List Value}{k:PV}(hA:Rm n A)(hk:PV.key k=true)(hl:PV.keys l=true)(hd:PV.jn l<=64)(r:dD s.heap l vs)(hv:Vr s.heap k v)(e:Value->Bool)(he:∀y,e y=true↔Vr s.heap k y):
  ∀y∈vs,SeqAt.EqAt A.in1 s y v (e y):=by
 induction l generalizing vs with
 |nil=>cases r;intro y hy;exact km hy
 |cons p l ih=>
  cases r with
  |cons h1 h2=>
   simp only[PV.keys,Bool.and_eq_true] at hl;simp only[PV.jn] at hd;intro y hy;rcases mem_cons.mp hy with rfl|hy
   ·have rc:=ql (s:=s) A.in1 hl.1 hk h1 hv (by have:=hA.units;refine(?_:A.units+1+_<9900);exact Yg hd this)
    have ee:e y=PV.qP p k:=by
     induction q:PV.qP p k with
     |true=>have:=PV.ud q;subst this;exact(he _).mpr h1
     |false=>
      induction q':e y with
      |false=>rfl
      |true=>have:=Vr.inj hl.1 hk h1 ((he _).mp q');subst this;rw[PV.ik] at q;exact rB q
    refine J ee ?_;refine mS h1 rc λe'=>?_;subst e';have:=Vr.inj hl.1 hk h1 hv;subst this;exact PV.ik _
   ·exact ih hl.2 (by exact Yf hd) h2 y hy
open Classical in
theorem ig{l:List PV}{k:PV}(hA:Rm n A)(hk:PV.key k=true)(hl:PV.keys l=true)(hd:PV.jn l<=64)(h:Q (.bool (l.any λp=>PV.qP p k)) V):W2 c A φ Vr (compareOp .In) k (.tup l) V Q:=λs va vb hR ha hb=>by
 cases hb with
 |@tup _ a items hi hr=>
  refine SeqAt.in_tupleAt (λy=>decide (Vr s.heap k y)) hi (λy hy=>C6 hA hk hl hd hr ha (λy=>decide (Vr s.heap k y)) (λy=>decide_eq_true_iff) y (by simpa using hy)) (af (TL.refl _) _ V hR ?_ h);refine rS (yS hk hl hr (λy=>decide (Vr s.heap k y)) (λy=>decide_eq_true_iff)) (J Array.any_toList ?_);exact .bool _
open Classical in
theorem Ci{l:List PV}{k:PV}(hA:Rm n A)(e:V a=some (.lst l))(hk:PV.key k=true)(hl:PV.keys l=true)(hd:PV.jn l<=64)(h:Q (.bool (l.any λp=>PV.qP p k)) V):W2 c A φ Vr (compareOp .In) k (.ref a) V Q:=λs va vb hR ha hb=>by obtain rfl:=bj hb;refine ah (oj hR e) λvs hi hr=>?_;refine SeqAt.in_listAt (λy=>decide (Vr s.heap k y)) hi (λy hy=>C6 hA hk hl hd hr ha (λy=>decide (Vr s.heap k y)) (λy=>decide_eq_true_iff) y (by simpa using hy)) (af (TL.refl _) _ V hR ?_ h);refine rS (yS hk hl hr (λy=>decide (Vr s.heap k y)) (λy=>decide_eq_true_iff)) (J Array.any_toList ?_);exact .bool _
theorem q9{x y:List PV}(hz:x.length+y.length<=sizeLine)(h:Q (.tup (x++y)) V):W2 c A φ Vr (binaryOp .Add) (.tup x) (.tup y) V Q:=λs va vb hR ha hb=>by
 cases ha with
 |@tup _ ta items hi hr=>
  cases hb with
  |@tup _ tb tV nc gK=>
   obtain ⟨⟨cls,dd,data,sl⟩,ho,hc,k,hd⟩:=id hi;obtain ⟨⟨aat,ZU,data2,Pw⟩,DR,hc2,k2,hd2⟩:=id nc;simp only at hc hd hc2 hd2;subst hc hd hc2 hd2;have z1:=cq hr;have z2:=cq gK
   by_cases hv:items.isEmpty=true
   ·have e0:x=[]:=length_eq_zero_iff.mp (by refine rS z1 ?_;simpa using hv)
    subst e0
    exact concat_meets (aj _ ho rfl) (aj _ DR rfl) noFill_tuple_add seq_tuple_add PySem.F.slot_tuple_add PySem.F.entry_tuple_add (PySem.F.args_tuple_add_2 _ _)
     (tuple_addW0 ta tb items tV k k2 dd ZU sl Pw hv) (lF ho DR (TL.refl _) _ V hR (.tup nc gK) h)
   ·by_cases hw:tV.isEmpty=true
    ·have e0:y=[]:=length_eq_zero_iff.mp (by refine rS z2 ?_;simpa using hw)
     subst e0;rw[append_nil] at h
     exact concat_meets (aj _ ho rfl) (aj _ DR rfl) noFill_tuple_add seq_tuple_add PySem.F.slot_tuple_add PySem.F.entry_tuple_add (PySem.F.args_tuple_add_2 _ _)
      (tuple_addW1 ta tb items tV k k2 dd ZU sl Pw hv hw) (lF ho DR (TL.refl _) _ V hR (.tup hi hr) h)
    ·refine concat_meets (aj _ ho rfl) (aj _ DR rfl) noFill_tuple_add seq_tuple_add PySem.F.slot_tuple_add PySem.F.entry_tuple_add (PySem.F.args_tuple_add_2 _ _)
      (tuple_addW2 ta tb items tV k k2 dd ZU sl Pw hv hw (by refine J z1 (J z2 ?_);exact hz)) (aN ho DR ?_)
     exact(af (TL.push _ _) _ V (hR.push _ _) (.tup (ir _ (Heap.get?_push_size _ rfl) rfl _ rfl) (by refine J Array.toList_append ?_;exact(hr.append gK).mono (TL.push _ _))) h)
theorem Dz{b:Addr}{x y:List PV}(e1:V a=some (.lst x))(e2:V b=some (.lst y))(hz:x.length+y.length<=sizeLine)(h:∀d,V d=none->Q (.ref d) (upd V d (.lst (x++y)))):W2 c A φ Vr (binaryOp .Add) (.ref a) (.ref b) V Q:=λs va vb hR ha hb=>by
 obtain rfl:=bj ha;obtain rfl:=bj hb;refine b0 (kS hR e1) λvs k ho hr=>?_;refine b0 (kS hR e2) λws k2 DR gK=>?_;refine P.add_list ho DR ?_ (by refine J (cq hr) (J (cq gK) ?_);exact hz);have R:=pM (ps:=x++y) (vs:=vs.toList++ws.toList) hR (hr.append gK);have e:(vs.toList++ws.toList).toArray=vs++ws:=by simp
 rw[e] at R;exact af (TL.push _ _) _ _ R (.ref _) (h _ hR.fresh)
theorem Dy{a:Int}(hh:A.handled=none)(Nj:b≠0)(hp:Builtin.divisionGoesByPylong a b=false)(h:Q (.int (a.fdiv b)) V):W2 c A φ Vr (binaryOp .FloorDiv) (.int a) (.int b) V Q:=λs va vb hR ha hb=>by
 (refine bK (aX ha) λ_ au=>?_;subst au);(refine bK (aX hb) λ_ au=>?_;subst au)
 exact floordiv_int_or hh (λe=>absurd e Nj) (λ_=>(af (TL.refl _) _ V (hR.toks _) (.int _ _) h)) (λ_=>.inl hp)
theorem dn{l:List PV}(e:V a=some (.lst l))(hz:l.length<=sizeLine)(h:Q (.tup l) V):aw c A φ (.type "tuple") [.ref a] V Q:=λs vs hR hv=>by refine ah (pX hv) λv au r=>?_;subst au;obtain rfl:=bj r;refine ah (oj hR e) λws hl hr=>?_;refine call_tuple_list hl (λh' hk=>?_) (by refine J (cq hr) ?_;exact hz);have R1:Rp c {s with heap:=h'} V φ:=hR.keep hk rfl rfl;have t1:TL s.heap h':=TL.keep hk;exact af (t1.trans (TL.push _ _)) _ V (R1.push _ s.toks) (.tup (ir _ (Heap.get?_push_size _ rfl) rfl _ rfl) (hr.mono (t1.trans (TL.push _ _)))) h
theorem jx{l:List PV}(h:Q (.tup l) V):aw c A φ (.type "tuple") [.tup l] V Q:=λs vs hR hv=>by
 refine ah (pX hv) λv au r=>?_;subst au;cases r with
 |tup hi hr=>exact call_tuple_tup hi (af (TL.refl _) _ V hR (.tup hi hr) h)
theorem yr{x y:Int}{t u v:Tok}(hR:Rp c s V φ):Rp c {s with heap:=s.heap.push {cls:=.type "range",data:=.fields #[.int x t,.int y u,.int 1 v]},toks:=k} (upd V s.heap.objs.size (.gx x y)) φ:=
 (hR.push _ k).name hR.fresh hR.ij hR.dK (nW _ _ _ (Heap.get?_push_size _ rfl))
theorem iS{y:Int}(h:∀d,V d=none->Q (.ref d) (upd V d (.gx 0 y))):aw c A φ (.type "range") [.int y] V Q:=λs vs hR hv=>by refine ah (pX hv) λv au r=>?_;subst au;refine bK (aX r) λ_ au=>?_;subst au;exact call_range_1 (af (TL.push _ _) _ _ (yr hR) (.ref _) (h _ hR.fresh))
theorem wX{x y:Int}(h:∀d,V d=none->Q (.ref d) (upd V d (.gx x y))):aw c A φ (.type "range") [.int x,.int y] V Q:=λs vs hR hv=>by
 refine aV (pq hv) λv u au r r'=>?_;subst au
 (refine bK (aX r) λ_ au=>?_;subst au);(refine bK (aX r') λ_ au=>?_;subst au)
 exact call_range_2 (af (TL.push _ _) _ _ (yr hR) (.ref _) (h _ hR.fresh))
theorem min2{x y:Int}(hh:A.handled=none)(h:Q (.int (min x y)) V):aw c A φ (.builtin "min") [.int x,.int y] V Q:=λs vs hR hv=>by
 refine aV (pq hv) λv u au r r'=>?_;subst au
 (refine bK (aX r) λ_ au=>?_;subst au);(refine bK (aX r') λ_ au=>?_;subst au)
 refine min_two_ints hh λh' tk hk=>?_;have R1:Rp c {s with heap:=h',toks:=tk} V φ:=hR.keep hk rfl rfl;refine af (TL.keep hk) _ V R1 ?_ h
 split
 ·rename_i q;refine J (Int.min_eq_right (Int.le_of_lt q)) ?_;exact .int _ _
 ·rename_i q;refine J (Int.min_eq_left (Int.not_lt.mp q)) ?_;exact .int _ _
theorem str_int{x:Int}(hb:x.natAbs.log2<1920)(h:Q (.str (toString x)) V):aw c A φ (.type "str") [.int x] V Q:=λs vs hR hv=>by refine ah (pX hv) λv au r=>?_;subst au;refine bK (aX r) λ_ au=>?_;subst au;exact P.str_of_int hb (af (TL.refl _) _ V (hR.toks _) (.str _ _) h)
theorem D8{l:List PV}(r:dD h l vs)(hv:Vr h p v)(k:Nat):dD h (l.set k p) (vs.set k v):=by
 induction r using dD.rec (motive_1:=λ_ _ _=>True) generalizing k with
 |nil=>exact .nil
 |cons h1 h2 _ ih=>induction k using NC with
  |zero=>exact .cons hv h2
  |succ k=>exact .cons h1 (ih k)
 |none|bool|int|str|ref|tup=>trivial
theorem uQ{vs:Array Value}{j0:Nat}{k:Int}{t:Tok}{G:Unit->Shared->Prop}(ho:s.heap.get? a=some (listOf vs j0))(Zj:Builtin.List.listFitsIndex k=true)(hj:seqIndex? k vs.size=some j)(ja:j<vs.size)
  (h:∀h',Heap.SameBut a s.heap h'->(∃n',h'.get? a=some (listOf (vs.setIfInBounds j v) n'))->G () {s with heap:=h'}):wpAny (Mo c) A (setItem (.ref a) (.int k t) v) G F0 s:=by
 have hT:s.TypeIs (.ref a) "list":=(aj _ ho rfl);unfold setItem
 try with_reducible refine wpAny_holding ?_
 first|refine wpAny_bind (wpAny_pure ?_)|skip
 refine wpAny_bind (wpAny_sequenceKey hT (by decide) ?_)
 refine wpAny_bind (wpAny_callSpecial?_slot (name:=Str.ofString "__setitem__") hT slot_list_setitem
  (wpAny_call_entry slot_list_setitem hT entry_list_setitem ?_ (args_list_setitem _ _ _)))
 refine(?_:wpAny _ _ (Builtin.List.listSubscript? (.int k t)>>=_) _ _ s);refine wpAny_bind (wpAny_listSubscript_int Zj ?_);have gE:vs[j]? =some vs[j]:=Array.getElem?_eq_getElem ja
 have fin:∀{P:Fin->Shared->Prop},P (.done (.ret .none)) {s with heap:=s.heap.update a (Obj.mapSeq (·.setIfInBounds j v))}->wpAny (Mo c) A (setSeqItemAt a j v>>=λ_=>ret .none) P F0 s:=λhp=>
  wpAny_bind (wpAny_setSeqItemAt ho rfl (wpAny_pure hp))
 have go:=h _ (Heap.SameBut.update ..) ⟨_,get?_update_seq ho (·.setIfInBounds j v)⟩;induction k with
 |ofNat q=>
  have e:j=q:=by
   unfold seqIndex? at hj;simp only[Int.ofNat_eq_natCast,Int.not_lt.mpr (Int.natCast_nonneg q),if_false] at hj
   split at hj
   ·simpa using hj.symm
   ·exact bL hj
  subst e;refine(?_:wpAny _ _ ((seqItemAt a j>>=λr=>pure (r.map (j,·)))>>=_) _ _ s);refine wpAny_bind (wpAny_bind (wpAny_seqItemAt ho rfl (wpAny_pure ?_)));refine J gE ?_;refine(?_:wpAny _ _ (setSeqItemAt a j v>>=_) _ _ s);refine wpAny_bind (wpAny_setSeqItemAt ho rfl ?_)
  first
   |exact wpAny_bind (wpAny_pure (wpAny_pure (aj .none rfl (wpAny_pure go))))
   |exact wpAny_pure ⟨.none,rfl,wpAny_pure go⟩
 |negSucc q=>
  refine(?_:wpAny _ _ ((Builtin.List.listItems (.ref a)>>=λxs=>pure ((seqIndex? (Int.negSucc q) xs.size).bind λj=>xs[j]?.map (j,·)))>>=_) _ _ s);refine wpAny_bind (wpAny_bind (listItems_at ho rfl (wpAny_pure ?_)));refine J hj ?_;dsimp only[Option.bind_some];refine J gE ?_;refine(?_:wpAny _ _ (setSeqItemAt a j v>>=_) _ _ s);refine wpAny_bind (wpAny_setSeqItemAt ho rfl ?_)
  first
   |exact wpAny_bind (wpAny_pure (wpAny_pure (aj .none rfl (wpAny_pure go))))
   |exact wpAny_pure ⟨.none,rfl,wpAny_pure go⟩
theorem se{l:List PV}{k:Int}{Q:Unit->St->Prop}(e:V a=some (.lst l))(hj:seqIndex? k l.length=some j)(ja:j<l.length)(hk:Builtin.List.listFitsIndex k=true)(h:Q () (upd V a (.lst (l.set j p)))):W3 c A φ RU setItem (.ref a) (.int k) p V Q:=λs va vb vd hR ha hb hv=>by obtain rfl:=bj ha;(refine bK (aX hb) λ_ au=>?_;subst au);refine b0 (kS hR e) λvs j0 ho hr=>?_;have zs:=cq hr;refine uQ (j:=j) ho hk (by refine J zs ?_;exact hj) (by refine J zs ?_;exact ja) λh' hs zq=>?_;refine bK zq λn' DS=>?_;clear zq;have t1:TL s.heap h':=TL.sameBut hs (hR.obj a _ e).2.j7;obtain ⟨t,R⟩:=jH (l':=l.set j p) hR e hs DS (by simpa using D8 hr hv j) s.toks;exact af t () _ R trivial h
theorem Bs{o i:Expr}{pos':Pos}{op:Operator}{pos:Pos}{Q:AF->Map->St->Prop}
  (h:WE c A φ env m o V λa σ₁=>WE c A φ env m i σ₁ λb ay=>W2 c A (aZ env m::φ) Vr getItem a b ay λold aD=>WE c A φ env m value aD λv bB=>W2 c A (aZ env m::φ) Vr (inplaceOp op) old v bB λr cW=>
   W3 c A (aZ env m::φ) RU setItem a b r cW λ_ gv=>Q .next m gv)
  (ha:∀ov iv new,augStore i ov iv new=(do holding [new,ov,iv] (setItem ov iv new);release [new,ov,iv] [];pure .next):=by intro _ _ _;rfl):WS c A φ env (.AugAssign (.Subscript o i pos') op value pos) m V Q:=λs hR=>
 wpAny_AugAssign_Subscript_any (h.seq hR λov a σ₁ aM aS aT bo bf=>bf.seq aT λiv b ay bY bM cV fe fm=>wpAny_mono (fm bY ov iv cV (bo.mono bM) fe) (λold d6 zf=>aR zf λc5 po aD cU jB qm=>qm.seq cU λv pv bB l4 mA l9 Hw Bz=>
  wpAny_mono (Bz l4 old v l9 (jB.mono mA) Hw) (λnew kj zf=>aR zf λkC pn cW gQ PB By=>wpAny_mono (By kj ov iv new gQ (bo.mono (((bM.trans c5).trans mA).trans kC)) (fe.mono ((c5.trans mA).trans kC)) PB) (λ_ zg zf=>
   aR zf λpY _ gv fT _ gG=>(bS (((((aS.trans bM).trans c5).trans mA).trans kC).trans pY) _ _ _ fT .next gG)) λ_ _ y=>y) λ_ _ y=>y) λ_ _ y=>y) ha
theorem KP{l:List PV}(e:V a=some (.lst (l++[p])))(hz:l.length<sizeLine)(h:Q p (upd V a (.lst l))):aw c A φ (.builtin "list.pop") [.ref a] V Q:=λs vs hR hv=>by
 refine ah (pX hv) λv au r=>?_;subst au;obtain rfl:=bj r;refine b0 (kS hR e) λws k ho hr=>?_;have zs:=cq hr;rw[length_append,length_singleton] at zs;obtain ⟨y,e1,e2⟩:=hr.get (i:=l.length) (x:=p) (by exact getElem?_concat_length);refine call_meets PySem.F.slot_list_pop (aj _ ho rfl) PySem.F.entry_list_pop (PySem.F.args_list_pop_1 _) (MeetsSeq.list_pop_last a ws k y (by refine J zs (rS Array.getElem?_toList ?_);simpa using e1) (by refine J zs ?_;exact hz)) ⟨ho,?_⟩;have DS:=get?_update_seq ho (λxs:Array Value=>xs.eraseIdxIfInBounds (ws.size-1));have hs:=Heap.SameBut.update s.heap a (Obj.mapSeq λxs:Array Value=>xs.eraseIdxIfInBounds (ws.size-1))
 have e3:(ws.eraseIdxIfInBounds (ws.size-1)).toList=ws.toList.take l.length:=by
  have hd:=hr.length;refine J zs ?_;refine J (Nat.add_sub_cancel _ _) (?_);unfold Array.eraseIdxIfInBounds;refine J (dif_pos (by exact Ye zs)) ?_;refine J Array.toList_eraseIdx ?_;apply ext_getElem?;intro i;refine J getElem?_eraseIdx (J getElem?_take ?_);have OO:ws.toList.length=l.length+1:=by simpa using hd.symm
  split
  ·rfl
  ·rename_i q
   exact J (getElem?_eq_none (by exact Yc OO q)) rfl
 obtain ⟨t,R⟩:=jH (l':=l) hR e hs DS (by refine J e3 ?_;have:=hr.take l.length;simpa using this) s.toks;exact af t p _ R (e2.mono t) h
theorem C0{b:Addr}{l l2:List PV}(e:V a=some (.lst l))(e2:V b=some (.lst l2))(hz:l.length+l2.length<=100000)(h:Q .none (upd V a (.lst (l++l2)))):aw c A φ (.builtin "list.extend") [.ref a,.ref b] V Q:=λs vs hR hv=>by
 refine aV (pq hv) λv u au r r'=>?_;subst au;obtain rfl:=bj r;obtain rfl:=bj r';refine b0 (kS hR e) λws k ho hr=>?_;refine b0 (kS hR e2) λPh k2 DR hr2=>?_;have z1:=cq hr;have z2:=cq hr2;have zl:sizeLine=2^24:=rfl;refine call_meets PySem.F.slot_list_extend (aj _ ho rfl) PySem.F.entry_list_extend (PySem.F.args_list_extend_2 _ _) (AutoSeq1.list_extend_list_list_0 a ws k b Ph k2 ?_ (by refine J z1 ?_;exact Yd hz zl) (by refine J z1 (J z2 ?_);exact Ya hz zl)) (aN ho DR ?_)
 ·unfold Builtin.List.listTooLong
  simp;intro _;exact XZ hz z1 z2 zl
 ·have DS:=get?_update_seq ho (λxs:Array Value=>xs++Ph)
  have hs:=Heap.SameBut.update s.heap a (Obj.mapSeq λxs:Array Value=>xs++Ph);obtain ⟨t,R⟩:=jH (l':=l++l2) hR e hs DS (by simpa using hr.append hr2) s.toks;exact af t .none _ R .none h
end
section
noncomputable def cY(l y:LN)(hi i:Nat):Bool:=decide (i+y.length<=hi)&&((l.drop i).take y.length==y)
noncomputable def gM(l y:LN)(lo hi:Nat):Option Nat:=(range' lo (hi+1-lo)).find? (cY l y hi)
noncomputable def mQ(l y:LN)(lo hi:Nat):Int:=match gM l y lo hi with
 |some k=>(k:Int)
 |none=>-1
open Builtin Builtin.Str in
theorem ti(l y:LN)(i:Nat):subAt (S l) (S y) i=((l.drop i).take y.length==y):=by
 unfold subAt
 have e:(S l).cps.extract i (i+(S y).length)=((l.drop i).take y.length).toArray:=by apply Array.ext';refine J Array.toList_extract (J (bI _) ?_);refine(?_:(l.toArray.toList.extract i (i+y.length))=_);refine J extract_eq_take_drop ?_;exact J (Nat.add_sub_cancel_left _ _) (rfl)
 refine J e ?_;refine(?_:(((l.drop i).take y.length).toArray==y.toArray)=_);induction h:(l.drop i).take y.length==y with
 |true=>refine J (eq_of_beq h) ?_;exact BEq.rfl
 |false=>
  rw[beq_eq_false_iff_ne] at h ⊢;exact λq=>h (by simpa using q)
open Builtin Builtin.Str in
theorem xA(l y:LN)(hi i:Nat):StrLaws.At (S l) (S y) hi i↔cY l y hi i=true:=by unfold StrLaws.At cY;refine J (ti _ _ _) (J (bI _) ?_);simp
open Builtin Builtin.Str in
theorem tM(l y:LN)(lo hi:Nat):(match occurrences (S l) (S y) lo hi 1 with|k::_=>(k:Int)|[]=>-1)=mQ l y lo hi:=by
 unfold mQ gM;refine J (StrLaws.occ_eq _ _ _ _ _) ?_;rcases StrLaws.occ_first (S l) (S y) hi 1 (Nat.le_refl 1) (range' lo (hi+1-lo)) lo (λi hi=>by have:=mem_range'_1.mp hi;exact XY this) with ⟨h0,hn⟩|⟨pre,a,post,e,h0,ha,hn⟩
 ·refine J h0 ?_
  have:(range' lo (hi+1-lo)).find? (cY l y hi)=none:=by refine rI find?_eq_none ?_;intro i nc q;exact hn i nc ((xA l y hi i).mpr q)
  exact J this rfl
 ·have:(range' lo (hi+1-lo)).find? (cY l y hi)=some a:=by
   refine J e (J find?_append ?_)
   have:pre.find? (cY l y hi)=none:=by refine rI find?_eq_none ?_;intro i nc q;exact hn i nc ((xA l y hi i).mpr q)
   exact J this (J Option.none_or (J find?_cons (J ((xA l y hi a).mp ha) rfl)))
  refine J this ?_;generalize (forIn (range' lo (hi+1-lo)) ((#[]:Array Nat),lo) (StrLaws.occBody (S l) (S y) hi 1)).run.fst=arr at h0;have h1:arr.toList[0]? =some a:=by simpa using h0
  induction hL:arr.toList using LC with
  |nil=>rw[hL] at h1;exact bL h1
  |cons b t=>rw[hL] at h1;replace h1:=(Option.some.injEq _ _).mp h1;exact J h1 rfl
section
open Builtin Builtin.Str in
theorem vI(l y:LN)(i j:Nat)(t u v v':Tok)(hj:j<=l.length):Gives («str.find» ⟨[.str (S l) t,.str (S y) u,.int i v,.int j v'],[]⟩) (.int (mQ l y i j)):=by
 have e1:(max 0 (if ((i:Nat):Int)<0 then ((i:Nat):Int)+((S l).length:Nat) else ((i:Nat):Int))).toNat=i:=by refine J (if_neg (by exact Oy)) ?_;exact XX
 have e2:min (max 0 (if ((j:Nat):Int)<0 then ((j:Nat):Int)+((S l).length:Nat) else ((j:Nat):Int))).toNat (S l).length=j:=by refine J (if_neg (by exact Oy)) (J (bI _) ?_);exact XT hj
 refine(?_:Gives (match occurrences (S l) (S y) (max 0 (if ((i:Nat):Int)<0 then ((i:Nat):Int)+((S l).length:Nat) else ((i:Nat):Int))).toNat (min (max 0 (if ((j:Nat):Int)<0 then ((j:Nat):Int)+((S l).length:Nat) else ((j:Nat):Int))).toNat (S l).length) 1 with|k::_=>retInt k|[]=>(do rule "str.find.not-found";retInt (-1))) _);refine J e1 (J e2 (rS (tM _ _ _ _) ?_));induction occurrences (S l) (S y) i j 1 using LC with
 |nil=>exact .rule (.of_eq rfl)
 |cons k _=>exact .of_eq rfl
theorem Fd{y:LN}(hj:j<=l.length)(h:Q (.int (mQ l y i j)) V):aw c A φ (.builtin "str.find") [.str (S l),.str (S y),.int i,.int j] V Q:=λs vs hR hv=>by
 refine rq (Pk hv) λa1 a2 a3 a4 au r1 r2 r3 r4=>?_;subst au
 (refine bK (bA r1) λ_ au=>?_;subst au);(refine bK (bA r2) λ_ au=>?_;subst au);(refine bK (aX r3) λ_ au=>?_;subst au);(refine bK (aX r4) λ_ au=>?_;subst au)
 exact call_gives PySem.F.slot_str_find (typeIs_str _ _ _) PySem.F.entry_str_find (PySem.F.args_str_find_4 _ _ _ _) (vI l y i j _ _ _ _ hj) (af (TL.refl _) _ V (hR.toks _) (.int _ _) h)
theorem Fe{y:LN}(h:Q (.int (mQ l y i l.length)) V):aw c A φ (.builtin "str.find") [.str (S l),.str (S y),.int i] V Q:=λs vs hR hv=>by
 refine fy (y7 hv) λa1 a2 a3 au r1 r2 r3=>?_;subst au
 (refine bK (bA r1) λ_ au=>?_;subst au);(refine bK (bA r2) λ_ au=>?_;subst au);(refine bK (aX r3) λ_ au=>?_;subst au)
 refine SC.find3 ?_
 have e:Txt.find3 (S l) (S y) (i:Int)=mQ l y i l.length:=by
  unfold Txt.find3 fromIndex;refine J (if_neg (by exact Oy)) (J (bI _) (rS (tM _ _ _ _) ?_));have:(max 0 (i:Int)).toNat=i:=by exact XW
  refine J this ?_;induction Builtin.Str.occurrences (S l) (S y) i l.length 1 using LC<;>rfl
 refine J e ?_;exact af (TL.refl _) _ V (hR.toks _) (.int _ _) h
theorem Ff{y:LN}(h:Q (.int (mQ l y 0 l.length)) V):aw c A φ (.builtin "str.find") [.str (S l),.str (S y)] V Q:=λs vs hR hv=>by
 refine aV (pq hv) λa1 a2 au r1 r2=>?_;subst au
 (refine bK (bA r1) λ_ au=>?_;subst au);(refine bK (bA r2) λ_ au=>?_;subst au)
 refine SC.find ?_
 have e:Txt.find (S l) (S y)=mQ l y 0 l.length:=by unfold Txt.find;refine J (bI _) (rS (tM _ _ _ _) ?_);induction Builtin.Str.occurrences (S l) (S y) 0 l.length 1 using LC<;>rfl
 refine J e ?_;exact af (TL.refl _) _ V (hR.toks _) (.int _ _) h
theorem Bf{y:LN}(h:Q (.bool (l.take y.length==y)) V):aw c A φ (.builtin "str.startswith") [.str (S l),.str (S y)] V Q:=λs vs hR hv=>by
 refine aV (pq hv) λa1 a2 au r1 r2=>?_;subst au
 (refine bK (bA r1) λ_ au=>?_;subst au);(refine bK (bA r2) λ_ au=>?_;subst au)
 refine SC.startswith ?_
 have e:Txt.startswith (S l) (S y)=(l.take y.length==y):=by
  unfold Txt.startswith;refine J (ti _ _ _) (J (bI _) (J (bI _) (J drop_zero ?_)));induction q:l.take y.length==y with
  |false=>exact(Bool.and_false _)
  |true=>
   have:=congrArg length (eq_of_beq q);rw[length_take] at this;refine J (Bool.and_true _) (J decide_eq_true_eq (J (Nat.zero_add _) (?_)));exact PK this
 refine J e ?_;exact af (TL.refl _) _ V hR (.bool _) h
theorem Ji{y:LN}(h:Q (.bool (decide (y.length<=l.length)&&(l.drop (l.length-y.length)==y))) V):aw c A φ (.builtin "str.endswith") [.str (S l),.str (S y)] V Q:=λs vs hR hv=>by
 refine aV (pq hv) λa1 a2 au r1 r2=>?_;subst au
 (refine bK (bA r1) λ_ au=>?_;subst au);(refine bK (bA r2) λ_ au=>?_;subst au)
 refine SC.endswith ?_
 have e:Txt.endswith (S l) (S y)=(decide (y.length<=l.length)&&(l.drop (l.length-y.length)==y)):=by
  unfold Txt.endswith;refine J (ti _ _ _) (J (bI _) (J (bI _) ?_))
  by_cases q:y.length<=l.length
  ·refine J (take_of_length_le (by rw[length_drop];exact XU)) ?_
   exact J (Nat.zero_add _) (rfl)
  ·simp[q]
 refine J e ?_;exact af (TL.refl _) _ V hR (.bool _) h
theorem tP:Meth c A φ V (.str x) "find" (.builtin "str.find") [.str x]:=λs va hR ha pl G h=>by (refine bK (bA ha) λ_ au=>?_;subst au);exact GM.find (h _ (.cons (.str _ _) .nil))
theorem zR:Meth c A φ V (.str x) "startswith" (.builtin "str.startswith") [.str x]:=λs va hR ha pl G h=>by (refine bK (bA ha) λ_ au=>?_;subst au);exact GM.startswith (h _ (.cons (.str _ _) .nil))
theorem EI:Meth c A φ V (.str x) "endswith" (.builtin "str.endswith") [.str x]:=λs va hR ha pl G h=>by (refine bK (bA ha) λ_ au=>?_;subst au);exact GM.endswith (h _ (.cons (.str _ _) .nil))
theorem xx(h:Q (.bool (decide (u∈l))) V):W2 c A φ Vr (compareOp .In) (.str (S [u])) (.str (S l)) V Q:=λs va vb hR ha hb=>by
 (refine bK (bA ha) λ_ au=>?_;subst au);(refine bK (bA hb) λ_ au=>?_;subst au)
 refine P.in_str ?_;have e:=StrLaws.found_one (S l) u;have e2:(S l).cps.toList=l:=by simp[S]
 rw[e2] at e;have e3:(⟨#[u]⟩:Str)=S [u]:=rfl;rw[e3] at e;refine J e ?_;exact af (TL.refl _) _ V hR (.bool _) h
theorem J5{k:Int}(hr:(decide (k< -(2^63:Int))||decide (k≥2^63))=false)(hj:seqIndex? k l.length=some j)(hx:l[j]? =some u)(h:Q (.str (S [u])) V)
  (hs:∀t v,subscripted slice false (Value.str (S l) t) (Value.int k v)=operate [Value.str (S l) t,Value.int k v] (getItem (Value.str (S l) t) (Value.int k v)):=by intro _ _;rfl):
  W2 c A φ Vr (subscriptTail value slice) (.str (S l)) (.int k) V Q:=λs va vb hR ha hb=>by
 (refine bK (bA ha) λ_ au=>?_;subst au);(refine bK (aX hb) λ_ au=>?_;subst au)
 refine tail_any (typeIs_str _ _ _) PySem.F.slot_str_getitem.lookup (PySem.P.getItem_str hr (c:=u) ?_ (af (TL.refl _) _ V (hR.toks _) (.str _ _) h)) (hs _ _);refine J (bI _) (J hj ?_);simpa[S] using hx
theorem Oa(u:Nat)(k:Nat):Txt.mul (S [u]) (k:Int)=S (replicate k u):=by have e:=mul_one_list u (k:Int);have e3:(⟨#[u]⟩:Str)=S [u]:=rfl;rw[e3] at e;have:S (Txt.mul (S [u]) (k:Int)).cps.toList=Txt.mul (S [u]) (k:Int):=wm _;refine rS this (J e ?_);simp
theorem Dw(hk:k<=100000)(h:Q (.str (S (replicate k u))) V):W2 c A φ Vr (binaryOp .Mult) (.str (S [u])) (.int (k:Int)) V Q:=λs va vb hR ha hb=>by
 (refine bK (bA ha) λ_ au=>?_;subst au);(refine bK (aX hb) λ_ au=>?_;subst au)
 refine SB.mul (show MulOk (S [u]) (k:Int) from(aN (by simp;exact XS hk) (λh1 h2=>?_) (λh1 h2=>?_))) λt' k'=>?_
 ·refine J (bI _) ?_
  have:(2^63-1:Int)/(k:Int)≥1:=by refine(Int.le_ediv_iff_mul_le (by exact XR h1)).mpr ?_;exact XQ hk
  simp only[length_singleton];exact XP this
 ·refine J (bI _) ?_
  unfold Builtin.Str.tooLong;have:sizeLine=2^24:=rfl;simp;exact nZ this hk
 ·refine J (Oa _ _) ?_
  exact af (TL.refl _) _ V (hR.toks _) (.str _ _) h
end
end
section
open PySem.NumText
section
theorem int_text{n:Int}(hn:PySem.intText? x=some n)(hl:x.length<=640)(h:Q (.int n) V):aw c A φ (.type "int") [.str x] V Q:=λs vs hR hv=>by refine ah (pX hv) λv au r=>?_;subst au;refine bK (bA r) λ_ au=>?_;subst au;exact KIN.call_text hn hl (af (TL.refl _) _ V (hR.toks _) (.int _ _) h)
noncomputable def shown(i:Int):LN:=(Str.ofString (toString i)).cps.toList
theorem tw(i:Int):Str.ofString (toString i)=S (shown i):=(wm _).symm
theorem je(m:Nat):shown (m:Int)=(Nat.toDigits 10 m).map Char.toNat:=KIN.signs_num m
theorem sd(m:Nat):shown (-((m+1:Nat):Int))=45::(Nat.toDigits 10 (m+1)).map Char.toNat:=by unfold shown;refine J (show (-((m+1:Nat):Int))=Int.negSucc m from rfl) ?_;refine(?_:(Str.ofString ("-"++Nat.repr (m+1))).cps.toList=_);refine J (Str.ofString_eq_toList _) ?_;simp[Nat.toList_repr]
end
end
theorem rO:typeLookup (.type "dict") "__len__"=pure (some (.builtin "dict.__len__")):=by refine J (typeLookup_type _ _) (J builtinLookup_eq_fast ?_);kernel_rfl
section
theorem Av{prog:Program}{w:World}{K:Type}[DecidableEq K]{knd:KeyKind prog w K}{cm:List (K×Value)}(x:h.DictOf knd d cm):∃ep,h.DictAt knd d cm ep:=by refine rt x λo es ep r=>?_;clear x;exact nW ep o es r
set_option maxHeartbeats 4000000 in
theorem nN{K:Type}[DecidableEq K]{knd:KeyKind c.prog c.w K}{cm:List (K×Value)}{G:List Value->Shared->Prop}(hh:A.handled=none)(hd:(d==sysModules)=false)(hm:s.heap.DictOf knd d cm)(hz:cm.length<=sizeLine)
  (h:∀(s':Shared) (vs:List Value),(∀b o,s.heap.get? b=some o->s'.heap.get? b=some o)->s'.os=s.os->s'.gens=s.gens->vs.length=cm.length->(∀(j:Nat) v,vs[j]? =some v->∃k x,cm[j]? =some (k,x)/\knd.is k v=true)->G vs s'):wpAny (Mo c) A (collect (.ref d)) G F0 s:=by
 refine bK (Av hm) λep hm=>?_;have Zl:d<s.heap.objs.size:=by(refine b0 hm λo es ho _=>?_;clear hm);exact Heap.lt_size ho
 unfold collect;refine wpAny_bind (wpAny_runValue (codeAny_builtin PySem.F.entry_proto_collect ?_));refine J (Around.under_plainId PySem.F.plain_proto_collect _) ?_;refine(?_:wpAny _ A.in1 (newList []>>=λl=>again (.builtin "list.__iadd__" ⟨[l,.ref d],[]⟩)) _ _ s);refine wpAny_bind (wpAny_newObj_type ?_);refine wpAny_pure ⟨plainId_quiet PySem.F.plain_list_iadd _,codeAny_builtin PySem.F.entry_list_iadd ?_⟩;refine J (Around.under_plainId PySem.F.plain_list_iadd _) ?_;have Gx:(s.heap.push {cls:=.type "list",data:=.seq ([]:List Value).toArray}).DictAt knd d cm ep:=hm.at' λo e=>Heap.get?_push_of_some _ e;have Zv:=Gx.dictOf.typeIs (s:={s with heap:=s.heap.push {cls:=.type "list",data:=.seq ([]:List Value).toArray}})
 have h1:Builtin.List.listSameRef (.ref s.heap.objs.size) (.ref d)=false:=by refine(?_:(s.heap.objs.size==d)=false);rw[beq_eq_false_iff_ne];exact Nat.ne_of_gt Zl
 refine(?_:wpAny _ A.in1 (Builtin.List.listExtendWith (.ref s.heap.objs.size) (.ref d) (.ref s.heap.objs.size)) _ _ _);unfold Builtin.List.listExtendWith;refine wpAny_bind (wpAny_typeOf Zv ?_);rw[if_neg (by refine J h1 ?_;decide)];refine wpAny_bind (wpAny_pyIter_dict hd Gx ?_);dsimp only;generalize Zz:s.heap.push {cls:=.type "list",data:=.seq ([]:List Value).toArray}=H1 at*;have z1:H1.objs.size=s.heap.objs.size+1:=by exact rS Zz (J (Heap.size_push _ _) rfl)
 have hS1:H1.get? s.heap.objs.size=some {cls:=.type "list",data:=.seq ([]:List Value).toArray}:=by refine rS Zz ?_;exact Heap.get?_push_size _ rfl
 generalize Zy:H1.push {cls:=.type "dict_keyiterator",data:=.fields #[.ref d,.int 0 0,.int cm.length 0,.int ep 0]}=H2;have hI2:H2.IsKeyIter H1.objs.size d 0 cm.length ep:=by refine rS Zy ?_;exact bb _ (Heap.get?_push_size _ rfl) rfl rfl
 have up:∀b o,s.heap.get? b=some o->H2.get? b=some o:=λb o e=>by refine rS Zy (rS Zz ?_);exact Heap.get?_push_of_some _ (Heap.get?_push_of_some _ e)
 have ON:H2.DictAt knd d cm ep:=hm.at' λo e=>up _ o e;have hS2:H2.get? s.heap.objs.size=some {cls:=.type "list",data:=.seq ([]:List Value).toArray}:=by refine rS Zy ?_;exact Heap.get?_push_of_some _ hS1
 refine wpAny_bind (wpAny_holding ?_);have Nn:({s with heap:=H2}:Shared).TypeIs (.ref d) "dict":=ON.dictOf.typeIs;unfold Builtin.List.listLengthHint;refine wpAny_bind (wpAny_specialOf Nn rO ?_)
 first
  |(generalize MZ:("dict.__len__":String)=id0;(fail_if_success (clear MZ id0));wp_delta;refine J (show splitId id0=some ("dict","__len__") from by subst MZ;decide+kernel) ?_;subst MZ)
 refine wpAny_bind (wpAny_isInstance (b:=true) Nn (by refine J (isSubtype_type _ _) ?_;kernel_rfl) ?_);refine(?_:wpAny _ A.in1 (typeOf (Value.ref d)>>=_) _ _ _);refine wpAny_bind (wpAny_typeOf Nn ?_);refine wpAny_pure ?_;refine J (if_pos (by first|rfl|decide)) ?_;refine wpAny_bind (wpAny_rule ?_);unfold Builtin.List.listTouch;have b2:=get?_update_seq hS2 (λxs:Array Value=>xs.push .none);refine wpAny_bind (wpAny_bind (listUpdate_at hS2 rfl ?_ (by refine(?_:(0:Nat)<=_);exact Nat.zero_le _) (by refine(?_:(1:Nat)<=_);refine J sizeLine_eq ?_;decide)));refine listUpdate_at (f:=(·.pop)) b2 rfl ?_ (by refine(?_:(1:Nat)<=_);refine J sizeLine_eq ?_;decide) (by refine(?_:(0:Nat)<=_);exact Nat.zero_le _);have b3:=get?_update_seq b2 (λxs:Array Value=>xs.pop);dsimp only;generalize hH4:(H2.update s.heap.objs.size (Obj.mapSeq λxs=>xs.push .none)).update s.heap.objs.size (Obj.mapSeq λxs=>xs.pop)=H4 at b3 ⊢;have sb:Heap.SameBut s.heap.objs.size H2 H4:=by refine rS hH4 ?_;exact(Heap.SameBut.update ..).trans (Heap.SameBut.update ..)
 have Pm:∀b o,b≠s.heap.objs.size->H2.get? b=some o->H4.get? b=some o:=λb o hb e=>sb.extBut b o hb e;have dI:d≠H1.objs.size:=by refine J z1 ?_;exact Nat.ne_of_lt (Nat.lt_succ_of_lt Zl)
 have dS:d≠s.heap.objs.size:=Nat.ne_of_lt Zl;have SI:s.heap.objs.size≠H1.objs.size:=by refine J z1 ?_;exact Nat.ne_of_lt (Nat.lt_succ_self _)
 have hI4:H4.IsKeyIter H1.objs.size d 0 cm.length ep:=hI2.at λo e=>Pm _ o (Ne.symm SI) e;have hm4:H4.DictAt knd d cm ep:=ON.at' λo e=>Pm _ o dS e;refine wpAny_pure ⟨plainId_quiet PySem.F.plain_extend_loop _,codeAny_extend_loopS (Walks.dictKeys (knd:=knd) (A:=A.in1) hh H1.objs.size d dI cm ep).toS hz _ ?_ _ _ 0 _ #[] _ rfl (Nat.zero_le _) ⟨hI4,hm4⟩ b3 (ItemsOf.nil _) λs' wj c' Y7 hS' Nl=>?_⟩
 ·intro hm
  simp only[mem_cons,not_mem_nil,or_false] at hm;rcases hm with e|e
  ·exact SI e
  ·exact dS e.symm
 refine(?_:wpAny _ A (load s.heap.objs.size>>=_) _ _ s');refine wpAny_bind (wpAny_load hS' (wpAny_pure ?_));refine h s' wj.toList (λb o e=>?_) Y7.os Y7.gens (by refine J Array.length_toList ?_;exact Nl.1) λj v hj=>Nl.2 j v (by refine rS Array.getElem?_toList ?_;exact hj);have hb:=Heap.lt_size e
 exact Y7.heap b o (λhm=>by
  simp only[mem_cons,not_mem_nil,or_false] at hm;rcases hm with e|e
  ·rw[e] at hb;exact Nat.lt_irrefl _ hb
  ·rw[e,z1] at hb;exact Nat.lt_irrefl _ (Nat.lt_of_succ_lt hb)) (Pm b o (Nat.ne_of_lt hb) (up b o e))
theorem uA:∀{ns:List Int} {vs:List Value},dD h (ns.map .int) vs->IntsAre vs ns
 |[],_,r=>by cases r;exact .nil
 |_::_,_,r=>by cases r with|cons h1 h2=>(refine bK (aX h1) λ_ au=>?_;subst au);exact .cons _ _ (uA h2)
theorem vo:∀{ns:List Int} {vs:List Value},IntsAre vs ns->dD h (ns.map .int) vs
 |_,_,.nil=>.nil
 |_,_,.cons _ _ r=>.cons (.int _ _) (vo r)
theorem uz:∀{ns:List Str} {vs:List Value},dD h (ns.map .str) vs->StrsAre vs ns
 |[],_,r=>by cases r;exact .nil
 |_::_,_,r=>by cases r with|cons h1 h2=>(refine bK (bA h1) λ_ au=>?_;subst au);exact .cons _ _ (uz h2)
theorem uJ:∀{ns:List Str} {vs:List Value},StrsAre vs ns->dD h (ns.map .str) vs
 |_,_,.nil=>.nil
 |_,_,.cons _ _ r=>.cons (.str _ _) (uJ r)
theorem kG{x:Value}{ns:List Int}{ss:List Str}{useS:Bool}{G:Value->Shared->Prop}(pE:(if useS then ss.length else ns.length)<64)
  (hc:∀(P:List Value->Shared->Prop),(∀aM vs,TL s.heap aM.heap->Rp c aM V φ->(if useS then StrsAre vs ss else IntsAre vs ns)->P vs aM)->wpAny (Mo c) A.in1 (collect x) P F0 s)
  (h:∀s' d,TL s.heap s'.heap->V d=none->(useS=false->∀ns':List Int,ns'.Perm ns->ns'.Pairwise (·<=·)->Rp c s' (upd V d (.lst (ns'.map .int))) φ->G (.ref d) s')/\
   (useS=true->∀jw:List Str,jw.Perm ss->sortedS jw=true->Rp c s' (upd V d (.lst (jw.map .str))) φ->G (.ref d) s')):wpAny (Mo c) A (call (.builtin "sorted") [x]) G F0 s:=by
 refine Calls.call_function_entry kind_sorted plain_sorted entry_sorted (args_sorted1 _) ?_;unfold Builtin.«sorted»;refine wpAny_bind (m:=checkCount "sorted" 1 1 _) (wpAny_pure ?_);refine wpAny_bind (hc _ λaM vs aS aT hv=>?_);refine wpAny_bind (wpAny_newList ?_ ?_)
 ·have ho:({aM with heap:=aM.heap.push (seqObj "list" vs.toArray 0)}:Shared).heap.get? aM.heap.objs.size=some (seqObj "list" vs.toArray 0):=Heap.get?_push_size _ rfl
  have fin:∀(out:Array Value) (l:List PV),dD aM.heap l out.toList->TL s.heap (sortedHeap (aM.heap.push (seqObj "list" vs.toArray 0)) aM.heap.objs.size vs out)/\
    Rp c {aM with heap:=sortedHeap (aM.heap.push (seqObj "list" vs.toArray 0)) aM.heap.objs.size vs out} (upd V aM.heap.objs.size (.lst l)) φ:=λout l hl=>by
   have keep:∀b o,aM.heap.get? b=some o->(sortedHeap (aM.heap.push (seqObj "list" vs.toArray 0)) aM.heap.objs.size vs out).get? b=some o:=λb o e=>by have hb:=Heap.lt_size e;refine J (sortedHeap_old (Nat.ne_of_lt hb) (by rw[size_push'];exact Nat.lt_succ_of_lt hb)) ?_;exact Heap.get?_push_of_some _ e
   have R2:Rp c {aM with heap:=sortedHeap (aM.heap.push (seqObj "list" vs.toArray 0)) aM.heap.objs.size vs out} V φ:=aT.keep keep rfl rfl;refine bK (sortedHeap_at (out:=out) (vs:=vs) ho) λe he=>?_;exact⟨aS.trans (TL.keep keep),R2.name aT.fresh aT.ij aT.dK (fN out e he (hl.mono (TL.keep keep)))⟩
  induction useS with
  |false=>
   have hv:IntsAre vs ns:=hv;have pE:ns.length<64:=pE;refine wpAny_bind (wpAny_holding (wpAny_call_entry slot_list_sort (aj _ ho rfl) entry_list_sort (list_sort_tree ho hv (by refine J hv.length ?_;exact pE) λout ns' a1 a2 a3=>(aj _ rfl ?_)) (args_list_sort _)));refine aA (fin out (ns'.map .int) (vo a1)) λt R=>?_;exact wpAny_pure (aj _ rfl ((h {aM with heap:=sortedHeap (aM.heap.push (seqObj "list" vs.toArray 0)) aM.heap.objs.size vs out} aM.heap.objs.size t aT.fresh).1 rfl ns' a2 a3 R))
  |true=>
   have hv:StrsAre vs ss:=hv;have pE:ss.length<64:=pE;refine wpAny_bind (wpAny_holding (wpAny_call_entry slot_list_sort (aj _ ho rfl) entry_list_sort (list_sort_treeK strKind_oneLt ho (StrsAre.keysOf hv) (λaam aal rest e=>keyKind_strs (by refine rS e ?_;exact hv)) (by refine J hv.length ?_;exact pE) λst' hp hs=>(aj _ rfl ?_)) (args_list_sort _)));refine aK (sorted_out_str hv hp hs) λjw h1 h2 h3=>?_;obtain ⟨t,R⟩:=fin ((arrOf st').map (·.2)) (jw.map .str) (uJ h1);exact wpAny_pure (aj _ rfl ((h {aM with heap:=sortedHeap (aM.heap.push (seqObj "list" vs.toArray 0)) aM.heap.objs.size vs ((arrOf st').map (·.2))} aM.heap.objs.size t aT.fresh).2 rfl jw h2 h3 R))
 ·have:vs.length<64:=by
   induction useS with
   |false=>have hv:IntsAre vs ns:=hv;have pE:ns.length<64:=pE;refine J hv.length ?_;exact pE
   |true=>have hv:StrsAre vs ss:=hv;have pE:ss.length<64:=pE;refine J hv.length ?_;exact pE
  refine J sizeLine_eq ?_;exact KW this
end
section
theorem Hg{l:List PV}{Q:Bool->St->Prop}(hz:l.length<=sizeLine)(h:Q (!l.isEmpty) V):W1 c A φ RB truthy (.tup l) V Q:=λs va hR hv=>by
 cases hv with
 |@tup _ a items hi hr=>
  have z:=cq hr;refine truthy_tuple hi (by refine J z ?_;exact vp hz) (af (TL.refl _) _ V (hR.toks _) ?_ h);refine(?_:(!l.isEmpty)=!items.isEmpty)
  congr 1
  unfold Array.isEmpty;refine J z ?_;induction l using LC<;>simp
theorem DB{ls:List (List PV)}(hh:A.handled=none)(e:V a=some (.lst (ls.map .tup)))(hz:∀l∈ls,l.length<=sizeLine)(h:Q (.bool (ls.any λl=>!l.isEmpty)) V):aw c A φ (.builtin "any") [.ref a] V Q:=λs vs hR hv=>by
 refine ah (pX hv) λv au r=>?_;subst au;refine call_function_tree PySem.F.kind_any PySem.F.plain_any PySem.F.entry_any (PySem.F.args_any1 _) ?_;unfold Builtin.«any»;refine wpAny_bind (m:=oneArg "any" _) (wpAny_pure ?_);refine wpAny_bind (ox (aO.lst e) hR r λI aM aS aT=>?_);refine wpAny_pure ⟨plainId_quiet PySem.F.plain_any_loop _,?_⟩
 have loop:∀(k i:Nat) (s':Shared),ls.length-i=k->i<=ls.length->TL s.heap s'.heap->Rp c s' V ((I,.it (.lst a) i)::φ)->
   codeAny (Mo c) A (.builtin "any.loop" ⟨[.ref I],[]⟩) (λr s'=>match r with|.ok (.ret v)=>∃b,v=.bool b/\b=((ls.drop i).any λl=>!l.isEmpty)/\TL s.heap s'.heap/\Rp c s' V φ|_=>False) s':=by
  intro k;induction k with
  |zero=>
   intro i s' hk hi t' R';refine codeAny_builtin PySem.F.entry_any_loop ?_;refine J (Around.under_plainId PySem.F.plain_any_loop _) ?_;refine(?_:wpAny _ A.in1 (pyNext (.ref I)>>=_) _ _ s');refine wpAny_bind (wpAny_mono (hE (A:=A.in1) (pre:=[]) hh R' (l:=ls.map .tup) e (by simp;exact Ml hk) (G:=λr bY=>mz (r=none) (TL s'.heap bY.heap) (Rp c bY V φ)) λbY bM cV=>⟨rfl,bM,cV⟩) (λr bY zq=>?_) λ_ _ y=>y.elim);refine fp zq λq1 q2 q3=>?_;clear zq;subst q1;refine wpAny_bind (wpAny_rule (wpAny_pure (dg false rfl ?_ (t'.trans q2) q3)));refine J (drop_of_length_le (by exact Ml hk)) ?_;rfl
  |succ k ih=>
   intro i s' hk hi t' R';have ja:i<ls.length:=by exact XO hk
   have hx:(ls.map PV.tup)[i]? =some (.tup ls[i]):=by simp[ja]
   have hd:ls.drop i=ls[i]::ls.drop (i+1):=drop_eq_getElem_cons ja;refine codeAny_builtin PySem.F.entry_any_loop ?_;refine J (Around.under_plainId PySem.F.plain_any_loop _) ?_;refine(?_:wpAny _ A.in1 (pyNext (.ref I)>>=_) _ _ s');refine wpAny_bind (wpAny_mono (hC (A:=A.in1) (pre:=[]) R' (l:=ls.map .tup) e hx (G:=λr bY=>∃v,rC (r=some v) (TL s'.heap bY.heap) (Rp c bY V ((I,.it (.lst a) (i+1))::φ)) (Vr bY.heap (.tup ls[i]) v)) λv bY bM cV fe=>(fi v rfl bM cV fe)) (λr bY zq=>?_) λ_ _ y=>y.elim);refine cS zq λv q1 bM cV fe=>?_;clear zq;subst q1;dsimp only;refine wpAny_bind (wpAny_holding (wpAny_mono (Hg (c:=c) (A:=A.in1) (Q:=λb σ'=>b=(!ls[i].isEmpty)/\σ'=V) (hz _ (by simp)) ⟨rfl,rfl⟩ bY v cV fe) (λb d6 zq=>?_) λ_ _ y=>y.elim));refine uq zq λc5 b' σ' cU q3 q4 q5=>?_;clear zq;obtain rfl:b'=b:=q3;subst q5;refine wpAny_bind (wpAny_letGo ?_);have tt:=(t'.trans bM).trans c5;induction hb:b' with
   |false=>
    simp only[Bool.false_eq_true,if_false];refine wpAny_pure ⟨plainId_quiet PySem.F.plain_any_loop _,codeAny_mono (ih (i+1) _ (by exact XN hk) ja tt cU) λr l4 x=>?_⟩;refine J hd (J any_cons (rS q4 (J hb (J (Bool.false_or _) ?_))));exact x
   |true=>
    simp only[if_true];refine wpAny_bind (wpAny_rule (wpAny_pure ⟨true,rfl,?_,tt,cU.leave⟩));exact J hd (J any_cons (rS q4 (J hb (J (Bool.true_or _) rfl))))
 refine codeAny_mono (loop _ 0 aM rfl (Nat.zero_le _) aS aT) λr s' x=>?_
 match r,x with
 |.ok (.ret v),⟨b,e1,e2,t,R⟩=>
  subst e1 e2;exact af t _ V R (.bool _) h
theorem D6{cm:List (Int×Value)}(hl:vs.length=cm.length)(h:∀(j:Nat) v,vs[j]? =some v->∃k x,cm[j]? =some (k,x)/\(intKind c.prog c.w).is k v=true):IntsAre vs (cm.map (·.1)):=by
 induction cm generalizing vs with
 |nil=>induction vs using LC with
  |nil=>exact .nil
  |cons=>exact Mr hl
 |cons kv r ih=>
  induction vs using LC with
  |nil=>exact qp hl
  |cons v vs=>
   refine b0 (h 0 v rfl) λk x e hk=>?_;obtain rfl:=sI e;refine bK (Value.isInt_shape hk) λt au=>?_;subst au;exact .cons _ _ (ih (by simpa using hl) λj v hj=>by simpa using h (j+1) v (by simpa using hj))
theorem D5{cm:List (Str×Value)}(hl:vs.length=cm.length)(h:∀(j:Nat) v,vs[j]? =some v->∃k x,cm[j]? =some (k,x)/\(PySem.strKind c.prog c.w).is k v=true):StrsAre vs (cm.map (·.1)):=by
 induction cm generalizing vs with
 |nil=>induction vs using LC with
  |nil=>exact .nil
  |cons=>exact Mr hl
 |cons kv r ih=>
  induction vs using LC with
  |nil=>exact qp hl
  |cons v vs=>
   refine b0 (h 0 v rfl) λk x e hk=>?_;obtain rfl:=sI e;refine bK (Value.isStrOf_shape hk) λt au=>?_;subst au;exact .cons _ _ (ih (by simpa using hl) λj v hj=>by simpa using h (j+1) v (by simpa using hj))
theorem r9(l5:∃o,c.H.get? sysModules=some o)(hh:A.handled=none){l:List (Int×PV)}(e:V d=some (.dI l))(pE:l.length<64)
  (h:∀a (ns:List Int),V a=none->ns.Perm (l.map (·.1))->ns.Pairwise (·<=·)->Q (.ref a) (upd V a (.lst (ns.map .int)))):aw c A φ (.builtin "sorted") [.ref d] V Q:=λs vs hR hv=>by
 refine ah (pX hv) λv au r=>?_;subst au;obtain rfl:=bj r;refine eX (hR.obj d _ e) λ_ cm hd hk=>?_;have mK:=hk.keys;have hl:cm.length=l.length:=by have:=congrArg length mK;simpa using this.symm
 refine kG (ns:=l.map (·.1)) (ss:=[]) (useS:=false) (V:=V) (φ:=φ) (by simpa using pE) (λP hP=>?_) λs' a t ha=>⟨λ_ ns' h1 h2 R=>(af t _ _ R (.ref _) (h a ns' ha h1 h2)),λq=>(nomatch q)⟩;refine nN (A:=A.in1) (knd:=intKind c.prog c.w) hh (hV l5 hR e) hd (by refine J hl (J sizeLine_eq ?_);exact KW pE) λs' vs k1 k2 k3 k4 k5=>hP s' vs (TL.keep k1) (hR.keep k1 k2 k3) ?_;have:=D6 k4 k5;rw[<-mK] at this;exact this
theorem zp(l5:∃o,c.H.get? sysModules=some o)(hh:A.handled=none){l:List (Str×PV)}(e:V d=some (.dS l))(pE:l.length<64)
  (h:∀a (ns:List Str),V a=none->ns.Perm (l.map (·.1))->sortedS ns=true->Q (.ref a) (upd V a (.lst (ns.map .str)))):aw c A φ (.builtin "sorted") [.ref d] V Q:=λs vs hR hv=>by
 refine ah (pX hv) λv au r=>?_;subst au;obtain rfl:=bj r;refine eX (hR.obj d _ e) λ_ cm hd hk=>?_;have mK:=hk.keys;have hl:cm.length=l.length:=by have:=congrArg length mK;simpa using this.symm
 refine kG (ns:=[]) (ss:=l.map (·.1)) (useS:=true) (V:=V) (φ:=φ) (by simpa using pE) (λP hP=>?_) λs' a t ha=>⟨λq=>(nomatch q),λ_ ns' h1 h2 R=>(af t _ _ R (.ref _) (h a ns' ha h1 h2))⟩;refine nN (A:=A.in1) (knd:=PySem.strKind c.prog c.w) hh (hV l5 hR e) hd (by refine J hl (J sizeLine_eq ?_);exact KW pE) λs' vs k1 k2 k3 k4 k5=>hP s' vs (TL.keep k1) (hR.keep k1 k2 k3) ?_;have:=D5 k4 k5;rw[<-mK] at this;exact this
theorem uO{ns:List Int}{ss:List Str}{useS:Bool}(e:V a=some (.lst (if useS then ss.map .str else ns.map .int)))(pE:(if useS then ss.length else ns.length)<64)
  (h:∀d,V d=none->(useS=false->∀ns':List Int,ns'.Perm ns->ns'.Pairwise (·<=·)->Q (.ref d) (upd V d (.lst (ns'.map .int))))/\(useS=true->∀jw:List Str,jw.Perm ss->sortedS jw=true->Q (.ref d) (upd V d (.lst (jw.map .str))))):
  aw c A φ (.builtin "sorted") [.ref a] V Q:=λs vs hR hv=>by
 refine ah (pX hv) λv au r=>?_;subst au;obtain rfl:=bj r;refine ah (isList hR e) λws hl hr=>?_;refine kG (ns:=ns) (ss:=ss) (useS:=useS) (V:=V) (φ:=φ) pE (λP hP=>?_) λs' d t hd=>⟨λq ns' h1 h2 R=>(af t _ _ R (.ref _) ((h d hd).1 q ns' h1 h2)),λq ns' h1 h2 R=>(af t _ _ R (.ref _) ((h d hd).2 q ns' h1 h2))⟩;have zl:ws.length<64:=by refine rS hr.length ?_;induction useS<;>simpa using pE
 refine collect_list hl ?_ (by refine J sizeLine_eq ?_;exact KW zl)
 have keep:∀b o,s.heap.get? b=some o->((s.heap.push (seqObj "list" #[] 0)).update s.heap.objs.size (Obj.mapSeq (·++ws.toArray))).get? b=some o:=λb o e'=>by refine J (Heap.get?_update_other _ _ (Nat.ne_of_gt (Heap.lt_size e'))) ?_;exact Heap.get?_push_of_some _ e'
 refine hP {s with heap:=(s.heap.push (seqObj "list" #[] 0)).update s.heap.objs.size (Obj.mapSeq (·++ws.toArray))} ws (TL.keep keep) (hR.keep keep rfl rfl) ?_;induction useS with
 |false=>exact uA hr
 |true=>exact uz hr
theorem zo{ns:List Int}(e:V a=some (.lst (ns.map .int)))(pE:ns.length<64)(h:∀d (ns':List Int),V d=none->ns'.Perm ns->ns'.Pairwise (·<=·)->Q (.ref d) (upd V d (.lst (ns'.map .int)))):
  aw c A φ (.builtin "sorted") [.ref a] V Q:=uO (useS:=false) (ss:=[]) e pE λd hd=>⟨λ_ ns' h1 h2=>h d ns' hd h1 h2,λq=>(nomatch q)⟩
theorem zm{ss:List Str}(e:V a=some (.lst (ss.map .str)))(pE:ss.length<64)(h:∀d (jw:List Str),V d=none->jw.Perm ss->sortedS jw=true->Q (.ref d) (upd V d (.lst (jw.map .str)))):
  aw c A φ (.builtin "sorted") [.ref a] V Q:=uO (useS:=true) (ns:=[]) e pE λd hd=>⟨λq=>(nomatch q),λ_ ns' h1 h2=>h d ns' hd h1 h2⟩
end
section
inductive Empty:AO->Prop
 |s:Empty (.dS [])
 |i:Empty (.dI [])
 |t:Empty (.dT [])
theorem Empty.Yt(e:Empty o):jV c.prog c.w (h.push {cls:=.type "dict",data:=.dict #[]}) h.objs.size o:=by
 cases e with
 |s=>exact(aj [] (Heap.DictOf.new _) .nil)
 |i=>exact(aj [] (Heap.DictOf.new _) .nil)
 |t=>exact(aj [] (@Heap.DictOfH.new c.prog c.w _ cy (gV c.prog c.w) h) .nil)
theorem lV(o:AO)(ho:Empty o)(h:∀d,V d=none->Q (.ref d) (upd V d o)):WE c A φ env m (.Dict [] [] pos) V Q:=λs hR=>by refine J (eval_Dict_empty _) ?_;refine wpAny_bind (wpAny_standAt (wpAny_newObj_type ?_));exact⟨TL.push _ _,_,_,(hR.push _ s.toks).name hR.fresh hR.ij hR.dK ho.Yt,.ref _,h _ hR.fresh⟩
noncomputable def J0(c:Cx)(A:Around)(φ:dG)(env:Env)(m:Map):List (Option Expr)->List Expr->St->(List (Str×PV)->St->Prop)->Prop
 |[],[],V,Q=>Q [] V
 |some e::ks,v::vs,V,Q=>∃k kk kp,e=.Constant (.str k) kk kp/\WE c A φ env m v V λp σ₁=>J0 c A φ env m ks vs σ₁ λl ay=>Q ((k,p)::l) ay
 |_,_,_,_=>False
theorem GK{Q:List (Str×PV)->St->Prop}(h:Q [] V):J0 c A φ env m [] [] V Q:=h
theorem mU{k:Str}{kk kp}{ks:List (Option Expr)}{v:Expr}{vs:List Expr}{Q:List (Str×PV)->St->Prop}(h:WE c A φ env m v V λp σ₁=>J0 c A φ env m ks vs σ₁ λl ay=>Q ((k,p)::l) ay):
  J0 c A φ env m (some (.Constant (.str k) kk kp)::ks) (v::vs) V Q:=(lY k kk kp rfl h)
inductive PR (h:Heap):List (Str×PV)->List (Value×Value)->Prop
 |nil:PR h [] []
 |cons {k:Str} {t:Tok} {p:PV} {v:Value} {l:List (Str×PV)} {vs:List (Value×Value)} (hv:Vr h p v) (r:PR h l vs):PR h ((k,p)::l) ((.str k t,v)::vs)
theorem PR.FE{l:List (Str×PV)}{vs:List (Value×Value)}(x:PR h l vs):∃cm,Carries (PySem.strKind c.prog c.w) vs cm/\KR h l cm:=by
 induction x with
 |nil=>exact(aj [] trivial .nil)
 |@cons k t p v l vs hv _ ih=>
  refine ah ih λcm h1 h2=>?_;clear ih;exact⟨(k,v)::cm,(aN tW rfl h1),.cons hv h2⟩
theorem EA{ks:List (Option Expr)}{vs:List Expr}{Q:List (Str×PV)->St->Prop}(h:J0 c A φ env m ks vs V Q)(hR:Rp c s V (aZ env m::φ)):
  wpAny (Mo c) A (evalPairs (pairTrees ks vs env pos)) (λOh s'=>TL s.heap s'.heap/\∃l σ',Rp c s' σ' (aZ env m::φ)/\PR s'.heap l Oh/\Q l σ') F0 s:=by
 induction ks generalizing vs V s Q with
 |nil=>
  induction vs using LC with
  |nil=>exact evalPairs_nil (af (TL.refl _) [] V hR .nil h)
  |cons=>exact h.elim
 |cons k ks ih=>
  induction vs using LC with
  |nil=>induction k<;>exact h.elim
  |cons v vs=>
   induction k with
   |none=>exact h.elim
   |some e=>
    obtain ⟨k,kk,kp,rfl,h⟩:=h;refine evalPairs_cons (Constant_str ?_);have sF:Rp c {s with toks:=s.toks+1} V (aZ env m::φ):=hR.toks _;refine wpAny_bind (h.seq sF λva p σ₁ aM aS aT bo bf=>wpAny_bind (wpAny_standAt (wpAny_pure ?_)));exact wpAny_mono (ih bf aT) (λOh s' zf=>aR zf λbM l σ' R' r' q=>(af (TL.trans aS bM) _ σ' R' (.cons (bo.mono bM) r') q)) λ_ _ y=>y
noncomputable def xa(l:List (Str×PV)):List (Str×PV):=l.foldl (λacc kv=>dk acc kv.1 kv.2) []
theorem vj:∀{l:List (Str×PV)} {cm:List (Str×Value)} {acc:List (Str×PV)} {wj:List (Str×Value)},KR h l cm->KR h acc wj->KR h (l.foldl (λacc kv=>dk acc kv.1 kv.2) acc) (merged wj cm)
 |_,_,_,_,.nil,a=>a
 |_,_,_,_,.cons hv r,a=>by unfold merged;rw[foldl_cons,foldl_cons];exact vj r (tT a _ hv)
theorem yV{keys:List (Option Expr)}{values:List Expr}(Nk:keys.all (·.isSome)=true)(hl:keys.length=values.length)(h0:keys≠[])(hlen:keys.length<=15)
  (h:∀c0,(∀f∈φ,f∈c0)->J0 c A c0 env m keys values V λl σ₁=>∀d,σ₁ d=none->Q (.ref d) (upd σ₁ d (.dS (xa l)))):WE c A φ env m (.Dict keys values pos) V Q:=λs hR=>by
 refine wpAny_Dict_walk (knd:=PySem.strKind c.prog c.w) Nk hl h0 hlen ?_;have R1:=(mL (o:={cls:=.type "dict",data:=.dict #[]}) (ao:=.dS []) hR (aj [] (Heap.DictOf.new _) .nil)).swap rfl;generalize s.heap.objs.size=D at R1 ⊢;have t1:TL s.heap (s.heap.push {cls:=.type "dict",data:=.dict #[]}):=TL.push _ _;refine wpAny_mono (EA (h ((D,.obj (.dS []))::φ) λf hf=>.tail _ hf) R1) (λOh aM zq=>?_) λ_ _ y=>y.elim;refine aR zq λbM l σ₁ cV fe q=>?_;clear zq;refine ah (fe.FE (c:=c)) λcm hc hk=>?_;refine ah ((cV.aZ (D,.obj (.dS [])) (.tail _ (.head _))).2) λaaq Zn Zg=>?_;cases Zg;refine(bb cm hc Zn (λh' pD hs=>?_));obtain ⟨c5,cU⟩:=cV.mid (pre:=[aZ env m]) (g':=(D,.obj (.dS (xa l)))) (s':={aM with heap:=h',toks:=aM.toks+Oh.length}) rfl rfl rfl hs (by(refine nX pD λo _ _ e _=>?_;clear pD);exact⟨o,e⟩) rfl rfl (λt=>(aj _ pD (vj (hk.mono t) .nil)));refine aA (cU.show (pre:=[aZ env m])) λhD l9=>?_;exact(af ((t1.trans bM).trans c5) _ _ l9 (.ref _) (q D hD))
end
section
variable {pr:Program} {wo:World} {H:Heap} {bJ:OsState}
theorem Rep.Am(R:Rep pr wo H bJ s V φ){o':AO}{s':Shared}(e:V a=some o)(hs:Heap.ExtBut a s.heap s'.heap)(ho:s'.os=s.os)(hg:s'.gens=s.gens)(h:jV pr wo s'.heap a o'):
  TL s.heap s'.heap/\Rep pr wo H bJ s' (upd V a o') φ:=by
 have A:=R.obj a o e;have t:TL s.heap s'.heap:=λb items zf=>ah zf λob x1 x2=>(aj ob (hs b ob (by rintro rfl;exact A.2.j7 items (aj ob x1 x2)) x1) x2);have same:∀b ob,b≠a->s.heap.get? b=some ob->s'.heap.get? b=s.heap.get? b:=λb ob n q=>(hs b ob n q).trans q.symm;refine⟨t,λb ob q=>?_,ho.trans R.os,hg.trans R.gens,λb ob q=>?_,λf hf=>?_,R.apart⟩
 ·have:b≠a:=λz=>by rw[z,A.1] at q;exact bL q
  exact hs b _ this (R.base b ob q)
 ·by_cases z:b=a
  ·subst z;rw[ae] at q;obtain rfl:=sI q;exact⟨A.1,h⟩
  ·rw[aB z] at q
   refine aA (R.obj b ob q) λh1 h2=>?_;refine bK h2.get λx hx=>?_;exact⟨h1,h2.keep t (same b x z hx)⟩
 ·refine aA (R.aZ f hf) λh1 h3=>?_
  have z:∀b∈d8 f,b≠a:=λb hb z=>by have:=(h1 b hb).2.1;rw[z,e] at this;exact fB this
  refine⟨λb hb=>?_,h3.keep t λb hb=>?_⟩
  ·refine gq (h1 b hb) λa1 a2 ob a3=>?_
   exact(iQ a1 (by refine J (aB (z b hb)) ?_;exact a2) ob (hs b ob (z b hb) a3))
  ·refine gq (h1 b hb) λa1 a2 ob a3=>?_
   exact same b ob (z b hb) a3
end
structure Au (V:St) (f:Addr) (fd:FuncData) (body:List Stmt):Prop where
 o:∃ob,V f=some (.fn ob)/\ob.data=.func fd
 code:∃cA oc vs t,fd.code=.ref cA/\V cA=some (.fn oc)/\oc.data=.fields vs/\vs[1]? =some (.str fd.qualname t)
 body:fd.body=.stmts body
theorem Au.kp(h:Au V f fd body)(k:∀a o,V a=some (.fn o)->σ' a=some (.fn o)):Au σ' f fd body:=by obtain ⟨⟨ob,a,b⟩,⟨cA,oc,vs,t,c1,c2,c3,c4⟩,d⟩:=h;exact⟨(aj ob (k _ _ a) b),(gZ cA oc vs t c1 (k _ _ c2) c3 c4),d⟩
section
theorem Dm(ok:c.Ok){ps:List PV}{marg mm ml:Map}{Lg:Addr}{cs:List (Str×Addr)}{Q:PV->St->Prop}(hA:Rm (n+1) A)(D:Au V f fd body)
  (co:fd.scope.isCoroutine=false) (gen:fd.scope.isGenerator=false) (kind:fd.scope.kind=.function) (qG:fd.scope.names.all (λx=>x.2 !=.cell)=true)
  (OR:(Lg,Fr.ns true cs ml)∈φ) (rL:∀x a,(x,a)∈fd.closure->cs.lookup x=some a) (IV:∀L,ownOf (callEnv fd L f)=false)
  (Gx:∀x,fd.closure.lookup x=none->dB mm x=dB marg x) (ON:∀x a p,fd.closure.lookup x=some a->dB mm x=some p->dB ml x=some p)
  (hb:∀s vs,c.K.In s.heap->dD s.heap ps vs->∃bs,BindsTo s fd ⟨vs,[]⟩ bs/\BR s.heap bs marg) (hl:mH fd.scope.names (marg.map (·.1))=true)
  (h:∀L A',Rm n A'->WX c A' φ (callEnv fd L f) (execs body (callEnv fd L f)) mm V λa _ σ'=>Q (kK a) σ'):aw c A φ (.ref f) ps V Q:=ry.toS λs vs hR hv=>by
 have X:c.K.In s.heap:=ok.X.keeps hR.base;refine ah (hb s vs X hv) λbs Ni Ab=>?_;obtain ⟨⟨ob,of1,of2⟩,⟨cA,oc,cvs,ct,c1,c2,c3,c4⟩,Cy⟩:=D;have ho:=(hR.obj _ _ of1).2.1;have Y5:=(hR.obj _ _ c2).2.1;refine aA (jI hl) λnd t8=>?_;have JM:(bs.map (·.1)).Nodup:=Ab.names▸nd
 refine codeAny_call_def hA.room ho of2 (ok.lim.keeps hR.base) (gZ cA oc cvs ct c1 Y5 c3 c4) Cy Ni (λx hx=>by have:=all_eq_true.mp qG x hx;simpa using this)
  (λx hx=>t8 _ (Ab.names▸mem_map_of_mem hx)) (λgJ hn hk=>?_) co gen kind
 have aS:TL s.heap gJ:=TL.keep hk;refine cT (hR.aZ _ OR) λgm _ _ gc=>?_
 have qZ:∀a∈fd.closure.map (·.2),a∈d8 (Lg,Fr.ns true cs ml):=λa ha=>by obtain ⟨⟨x,b⟩,wD,rfl⟩:=mem_map.mp ha;exact mem_cons_of_mem _ (mem_map_of_mem (f:=(·.2)) (mem_lookup (rL x b wD)))
 have fr:rT c.prog c.w gJ s.heap.objs.size (.ns (ownOf (callEnv fd s.heap.objs.size f)) (callEnv fd s.heap.objs.size f).cells mm):=by
  refine lZ (kQ hn) _ hn (λx hx=>?_) (λx a hx=>?_)
  ·refine J (Gx x hx) (J (mG _ _ JM) ?_);exact((Ab.look x).mono aS).w
  ·have hx:fd.closure.lookup x=some a:=hx
   refine ah (gc x a (rL x a (mem_lookup hx))) λv v1 v2=>?_;refine(aj v (v1.keeps hk) ?_);induction q:dB mm x with
   |none=>exact .none
   |some p=>rw[ON x a p hx q] at v2;exact v2.mono aS
 have aT:Rp c {s with heap:=gJ,toks:=s.toks+bs.length} V (aZ (callEnv fd s.heap.objs.size f) mm::φ):=by
  have R0:Rp c {s with heap:=gJ,toks:=s.toks+bs.length} V φ:=hR.keep (s':={s with heap:=gJ,toks:=s.toks+bs.length}) hk rfl rfl;have eo:mD (aZ (callEnv fd s.heap.objs.size f) mm)=[s.heap.objs.size]:=by unfold mD aZ;refine J (IV _) ?_;rfl
  refine R0.enter (λa ha=>?_) (λa ha=>?_) (λa ha g hg=>?_) ⟨λq=>?_,?_⟩ fr
  ·rcases mem_cons.mp ha with rfl|ha
   ·exact aN hR.dK hR.fresh fr.get
   ·exact(R0.aZ _ OR).1 a (qZ a ha)
  ·rw[eo] at ha;refine J (mem_singleton.mp ha) ?_;exact hR.ij
  ·exact pf hR.apart OR (by obtain ⟨⟨x,b⟩,wD,rfl⟩:=mem_map.mp ha;exact mem_map_of_mem (f:=(·.2)) (mem_lookup (rL x b wD))) g hg
  ·exact hR.ij _ OR (qZ _ q)
  ·refine(?_:((aZ (callEnv fd s.heap.objs.size f) mm).2.owned.map (·.2)).Nodup)
   unfold aZ;refine J (IV _) ?_;exact .nil
 exact wpAny_mono (h s.heap.objs.size _ (hA.deeper _) _ aT) (λfl s' x=>xc (t:=TL.refl _) (m:=mm) (σ':=V) aS x) λ_ _ y=>y.elim
theorem Fn{p pos:Pos}{e:Expr}{es:List Expr}(hl:hX env x=true)(hd:(x==("__debug__":Str))=false)(hv:dB m x=some (.ref f)){ob:Obj}{fd:FuncData}(hf:V f=some (.fn ob))(Ng:ob.data=.func fd)
  (h:WA c A φ env m pos (e::es) V λps σ₁=>σ₁ f=some (.fn ob)/\aw c A (aZ env m::φ) (.ref f) ps σ₁ Q)
  (he:starEach (e::es) env=(false,eval e env)::starEach es env:=by rfl) (hs:(backTo pos (starEach es env)).any (·.1)=false:=by rfl):WE c A φ env m (.Call (.Name x p) (e::es) [] pos) V Q:=λs hR=>
 Call_Name rfl ((jm (A:=A) (φ:=φ) (pos:=p) hl hd hv (Q:=λa σ'=>a=.ref f/\σ'=V) ⟨rfl,rfl⟩).seq hR λv a fC uI t₀ R₀ Hx BA=>by
  refine aA BA λau wJ=>?_;clear BA;subst au;subst wJ;obtain rfl:=bj Hx
  have X:W.FnAt f uI.heap:=by have:=(R₀.obj _ _ hf).2.1;obtain ⟨oc,od,dt,sl⟩:=ob;have:dt=.func fd:=Ng;subst this;exact(nW oc od fd ⟨sl,by assumption⟩)
  refine callWith_F (first:=[]) X ?_ he hs
  exact h.seq R₀ λvs ps σ₁ aM aS aT bo zf=>aA zf λq1 q2=>⟨by have:=(aT.obj _ _ q1).2.1;obtain ⟨oc,od,dt,sl⟩:=ob;have:dt=.func fd:=Ng;subst this;exact(nW oc od fd ⟨sl,by assumption⟩),fo.lift (t₀.trans aS) (q2 aM _ aT bo)⟩)
noncomputable def del(V:St)(a:Addr):St:=λx=>if x=a then none else V x
theorem mT{b:Addr}(h:b≠a):del V a b=V b:=by simp[del,h]
theorem vQ:del V a a=none:=by simp[del]
theorem KC(ok:c.Ok){params:Arguments}{pos:Pos}{Q:AF->Map->St->Prop}(Zn:params.defaults=[])(Zg:params.kw_defaults=[])(ha:annTrees params none env=[])(Ct:freeOk scope env=true)(YW:setOk env name=true)
  (hge:env.globals=mainGlobals) {cA P:Addr} (vC:env.code=.ref cA) (C:CodeHd c.H cA P) (eP:V P=some (.fn (tabObj #[]))) (hB:c.H.BuiltinsAt c.mg P)
  (h:∀σ' f qual doc pm cv rA,(∀a o,V a=some o->a≠P->σ' a=some o)->(∃more,σ' P=some (.fn (tabObj more)))->V f=none->Au (del σ' P) f (fnX name qual params body scope (fw env scope.names []) .none .none doc pm none cv rA) body->Q .next (bh m name (.ref f)) σ'):
  WS c A φ env (.FunctionDef name params body [] none [] scope none name pos) m V Q:=λs hR=>by
 have B:s.heap.BuiltinsAt c.mg P:=by refine dj hB λbm o b1 b2 b3 b4 b5 b6=>?_;clear hB;exact fO bm o b1 b2 b3 b4 (hR.base _ _ b5) b6
 have hP:=(hR.obj _ _ eP).2.1;have hPn:=(hR.obj _ _ eP).1;have hG:=ok.g.keeps hR.base
 have hgP:mainGlobals≠P:=λq=>by refine nX ok.g λo es ep e _=>?_;rw[q,hPn] at e;exact bL e
 refine nestDef_K Zn Zg ha (makeFunction_K (mg:=c.mg) (gj Ct) hge hG vC (C.keeps hR.base) hP trivial rfl hgP B λc' rA doc h' tk hx t5 ja MP htb=>?_);refine um MP λc₂ oc vs t e2 Y5 Ng hv=>?_;clear MP;cases e2;obtain ⟨t1,R1⟩:=hR.Am (s':={s with heap:=h',toks:=tk}) (o':=.fn (tabObj (#[]++#[rawInt pos.line,rawInt pos.col,.ref c']))) eP hx rfl rfl ⟨htb,λitems k q=>by exact sL q⟩;refine bt (hR.above t5) λq1 q2 q3=>?_;have cP:c'≠P:=λq=>by rw[q,eP] at q2;exact fB q2
 have R2:=R1.name (a:=c') (o:=.fn oc) (by refine J (aB cP) ?_;exact q2) q3 q1 ⟨Y5,λitems k q=>by rw[Ng] at q;exact sL q⟩;have R3:=R2.push (fnMade name (qualnameIn env name name) params body scope (fw env scope.names []) doc ((c.mg "__name__").getD .none) c' rA) tk;have fr:=R2.fresh;have R4:=R3.name (a:=h'.objs.size) (o:=.fn (fnMade name (qualnameIn env name name) params body scope (fw env scope.names []) doc ((c.mg "__name__").getD .none) c' rA)) fr (λf hf hm=>R2.ij f hf hm) R2.dK ⟨Heap.get?_push_size _ rfl,λitems k q=>by exact sL q⟩
 have fP:h'.objs.size≠P:=λq=>by have:=Heap.lt_size htb;rw[<-q] at this;exact absurd this (Nat.lt_irrefl _)
 have fc:h'.objs.size≠c':=Nat.ne_of_gt ja
 have Nb:V h'.objs.size=none:=by have:=fr;rw[aB fc,aB fP] at this;exact this
 refine cN YW R4 (.ref _) λbY bM gQ=>(bS ((t1.trans (TL.push _ _)).trans bM) _ _ _ gQ .next ?_);refine h _ h'.objs.size _ _ _ _ _ (λa o e gL=>?_) ⟨_,by refine J (aB (Ne.symm fP)) (J (aB (Ne.symm cP)) ?_);exact ae⟩ Nb ⟨(aj _ (by refine J (mT fP) ?_;exact ae) rfl),(gZ c' oc vs t rfl (by exact J (mT cP) (J (aB (Ne.symm fc)) (J ae rfl))) Ng hv),rfl⟩;rw[aB (by rintro rfl;rw[Nb] at e;exact bL e),aB (by rintro rfl;rw[q2] at e;exact bL e),aB gL];exact e
end
theorem rh:∀{φ:dG} {g:Addr×Fr},Apart φ->g.2.cells=[]->(∀f∈φ,g.1∉d8 f)->Apart (φ++[g])
 |[],g,_,hc,_=>(cj (λ_ _ _ h=>(nomatch h)) (λ_ _ _ h=>(nomatch h)) (jF hc) trivial)
 |f::φ,g,h,hc,hn=>by
  have mg:d8 g=[g.1]:=by unfold d8;refine J hc ?_;rfl
  refine cj (λa ha y hy=>?_) (λa ha y hy=>?_) h.2.2.1 (rh h.2.2.2 hc λy hy=>hn y (.tail _ hy))
  ·rcases mem_append.mp hy with hy|hy
   ·exact h.1 a ha y hy
   ·refine J (mem_singleton.mp hy) (J mg (rI mem_singleton ?_))
    rintro rfl;exact hn f (.head _) (g9 ha)
  ·rcases mem_append.mp hy with hy|hy
   ·exact h.2.1 a ha y hy
   ·refine J (mem_singleton.mp hy) ?_
    rintro rfl;exact hn f (.head _) (mem_cons_of_mem _ ha)
theorem Rep.lay{pr:Program}{wo:World}{H:Heap}{bJ:OsState}(R:Rep pr wo H bJ s V φ)(e:V a=some o):Rep pr wo H bJ s (del V a) (φ++[(a,.obj o)]):=by
 refine aA (R.obj a o e) λh1 h2=>?_
 have hm:∀f∈φ,a∉d8 f:=λf hf q=>by have:=((R.aZ f hf).1 a q).2.1;rw[e] at this;exact fB this
 refine⟨R.base,R.os,R.gens,λb ob q=>?_,λf hf=>?_,rh R.apart rfl hm⟩
 ·by_cases z:b=a
  ·rw[z,vQ] at q;exact bL q
  ·rw[mT z] at q;exact R.obj b ob q
 ·rcases mem_append.mp hf with Nd|Nd
  ·refine⟨λb hb=>?_,(R.aZ f Nd).2⟩
   refine bt ((R.aZ f Nd).1 b hb) λx y z=>?_;exact(aN x (by rw[mT (λ(q:b=a)=>hm f Nd (by refine rS q ?_;exact hb))];exact y) z)
  ·refine J (mem_singleton.mp Nd) ?_
   exact⟨λb hb=>by refine J (mem_singleton.mp hb) ?_;exact(aN h1 vQ h2.get),h2⟩
theorem WX.lay{t:Sem Flow}{Q:AF->Map->St->Prop}(e:V a=some o)
  (h:WX c A (φ++[(a,.obj o)]) env t m (del V a) λr m' σ'=>Q r m' (upd σ' a o)):WX c A φ env t m V Q:=λs hR=>
 wpAny_mono (h s (hR.lay e)) (λ_ _ zf=>eR zf λt r m' σ' R' x q=>by have z:=(Rep.show (pre:=aZ env m'::φ) (φ:=[]) R').2;rw[append_nil] at z;exact(bS t r m' _ z x q)) λ_ _ y=>y
noncomputable abbrev pw:Program:=PySem.Challenge.pw_xm0462_01
noncomputable def fU(i:Nat):Stmt:=pw.main.body.getD i (.Pass ⟨0,0,0,0⟩)
noncomputable def eK(s:Stmt)(j:Nat):Stmt:=match s with
 |.ClassDef _ _ _ b .. =>b.getD j (.Pass ⟨0,0,0,0⟩)
 |.FunctionDef _ _ b .. =>b.getD j (.Pass ⟨0,0,0,0⟩)
 |s=>s
noncomputable def bodyOf:Stmt->List Stmt
 |.FunctionDef _ _ b .. =>b
 |_=>[]
noncomputable def c7:Stmt->Scope
 |.FunctionDef _ _ _ _ _ _ sc .. =>sc
 |_=>default
noncomputable def DA:Stmt->Arguments
 |.FunctionDef _ a .. =>a
 |_=>default
noncomputable def JH(d:Data):Option FuncData:=Data.casesOn d none (λ_=>none) (λ_ _=>none) (λ_ _=>none) (λ_ _ _=>none) (λ_ _=>none) (λ_=>none) (λf=>some f) (λ_=>none) (λ_=>none) none
noncomputable def fdOf(K:Frag)(a:Addr):FuncData:=((K.lookup a).bind λo=>JH o.data).getD default
noncomputable def lj(K:Frag)(a:Addr)(st:Stmt)(dV:Value):FuncData:={fdOf K a with params:=DA st,body:=.stmts (bodyOf st),scope:=c7 st,globals:=mainGlobals,closure:=[],defaults:=dV,kwdefaults:=.none,builtins:=builtinsNs}
def FnAt(K:Frag)(a:Addr)(st:Stmt)(dV:Value):Prop:=
 (∃oc od oe,K.lookup a=some ⟨oc,od,.func (lj K a st dV),oe⟩)/\codeIn K (fdOf K a).code (fdOf K a).qualname=true
theorem FnAt.def{c:Cx}{a:Addr}{st:Stmt}{dV:Value}(h:FnAt c.K a st dV)(h1:(c7 st).isCoroutine=false)(h2:(c7 st).isGenerator=false)(h3:(c7 st).kind=.function):y4 c a (lj c.K a st dV) (bodyOf st):=
 ⟨h.1,h.2,rfl,h1,h2,h3⟩
noncomputable def oZ:List (Str×Addr×Nat):=([("parts_of",158,45),("whole_of_row",165,46),("regular_twin",172,47),("join_bools",179,48),("stays_beside",186,49),("top_of",193,50),("union",198,51),
 ("row_kids",220,55),("row_binds",227,56),("inner_kids",234,57),("reached",241,58),("free_params",258,61),("has_params",265,62),("is_open",273,67),("unit_word",280,68),("digits_back",287,69),("glue",294,70),
 ("hole_pieces",301,71),("cross_holes",306,72),("one_template",313,73),("tpl_kind",320,74),("cut_holes",327,75),("tpl_match",334,76),("text_at",362,79),("take",369,80),("take_to",376,81),("take_least",383,82),
 ("ends_fit",390,83),("cut_template",397,84),("told_pieces",402,86),("tpl_holds",409,87),("literal_for",596,96),("kindfind_hole_text",603,97),("template_pieces",615,99),("_law_stock",624,103),("_law_fill",631,104),
 ("_law_cuts",636,105),("_law_printed",643,106),("_law_row",650,107),("_law_words",655,108),("_law_read",662,109),("_law_seen",667,110),("_law_text",672,111),("_law_holed",677,112),("_law_bare",682,113),("law",687,114)]:List (String×Addr×Nat)).map λe=>(Str.ofString e.1,e.2)
noncomputable def tX:List (Str×Int):=([("Y_KEY",1),("Y_BOOL",2),("Y_STR",3),("Y_NUM",4),("Y_ENUM",5),("Y_UNION",6),("Y_INTER",7),("Y_OBJ",8),("Y_REF",9),("Y_PARAM",10),("Y_ARRAY",11),("Y_TUPLE",12),("Y_SIG",13),("Y_KEYOF",14),
 ("Y_INDEX",15),("Y_COND",16),("Y_MAPPED",17),("Y_TPL",18),("Y_ALIAS",19),("ANY",0),("UNKNOWN",1),("NEVER",2),("UNDEF",4),("NULLT",5),("STRING",6),("NUMBER",7),("FALSE_T",8),("TRUE_T",9),("ERR",13),("FRESH_F",14),("FRESH_T",15),
 ("MAX_UNION",400),("MOST_CROSSED",200),("TOP_NUMBER",9007199254740991),("MOST_ROUNDS",200),("MOST_SHAPES",40)]:List (String×Int)).map λe=>(Str.ofString e.1,e.2)
noncomputable def pe:List (Str×Value):=[("len",.builtin "len"),("range",.type "range"),("tuple",.type "tuple"),("sorted",.builtin "sorted"),("str",.type "str"),("int",.type "int"),("min",.builtin "min"),("any",.builtin "any")]
noncomputable def oC:List (List PV):=[[.int 1,.str "any"],[.int 1,.str "unknown"],[.int 1,.str "never"],[.int 1,.str "void"],[.int 1,.str "undefined"],[.int 1,.str "null"],[.int 1,.str "string"],[.int 1,.str "number"],
 [.int 2,.int 0,.int 0],[.int 2,.int 1,.int 0],[.int 1,.str "object"],[.int 8,.tup [],.tup [],.tup [],.tup [],.tup [],.int 0],[.int 6,.tup [.int 8,.int 9]],[.int 1,.str "error"],[.int 2,.int 0,.int 1],[.int 2,.int 1,.int 1]]
noncomputable def qx:List Str:=["","a","1","-","ab","b","0",""]
noncomputable def pN:List Str:=["","a","1","01","-1","b","10","-","H","aH","H1","HaH","HH","bH-"]
noncomputable def s7:List (Str×PV):=[("FIRST_ROWS",.tup (oC.map .tup)),("MARKED_ROWS",.tup [.int 2,.int 3,.int 4,.int 5,.int 8]),("OPEN_KINDS",.tup [.int 10,.int 14,.int 15,.int 16,.int 17,.int 19]),
 ("_law_texts",.tup (qx.map .str)),("_law_bits",.tup (pN.map .str))]
noncomputable def o8:List (Str×Addr×Nat×Addr):=[("str_type",135,42,128),("num_type",143,43,136),("new_param",151,44,144)]
noncomputable def sN:List (Str×Addr):=([("TypeTable",123),("Cutting",351),("TextHost",587)]:List (String×Addr)).map λe=>(Str.ofString e.1,e.2)
structure DN (K:Frag) (C fI:Addr) (stI:Stmt) (attrs:List Str) (ms:List (Str×Addr×Stmt)):Prop where
 made:makesIn K C=true
 YN:findIn K (.ref C) "__init__"=some (some (.ref fI))
 ID:typeIn K (.ref fI)=some (.type "function")
 IF:FnAt K fI stI .none
 at_:∀a∈attrs,plainGet K C a=true/\takerIn K C a=some none/\findIn K (.ref C) a=some none
 ms:∀e∈ms,plainGet K C e.1=true/\findIn K (.ref C) e.1=some (some (.ref e.2.1))/\typeIn K (.ref e.2.1)=some (.type "function")/\FnAt K e.2.1 e.2.2 .none/\keepIn K (.ref e.2.1)=true
 Jq:hasDictIn K C=true
 over:plainOver K C=true
 Bp:findIn K (.ref C) "__setattr__"=some (some (.builtin "object.__setattr__"))
noncomputable def pI:List Str:=["rows","index","decls","bounds","defaults","names","origins","renamed","shaping","putting"]
noncomputable def uf:List Str:=["texts","types","tail","segment","place","pieces"]
noncomputable def xU:List Str:=["tab","deep","most_rounds","most_deep","lib"]
structure Ft (c:Cx):Prop where
 kid:∃a,nsIn c.K mainGlobals "KID_SPANS"=some (some (.ref a))/\(a==sysModules)=false/\∃cm,c.H.DictOf (PySem.intKind c.prog c.w) a cm/\cm.map (·.1)=[11,14,15,16,17]
 cl:∀e∈sN,nsIn c.K mainGlobals e.1=some (some (.ref e.2))/\keepIn c.K (.ref e.2)=true
 tt:DN c.K 123 106 (eK (fU 41) 0) pI [("put",120,eK (fU 41) 2)]
 cu:DN c.K 351 348 (eK (fU 78) 0) uf []
 th:DN c.K 587 423 (eK (fU 91) 0) xU [("force",430,eK (fU 91) 1),("put_deferred",577,eK (fU 94) 0)]
 ok:c.Ok
 sys:∃o,c.H.get? sysModules=some o
 fn:∀e∈oZ,nsIn c.K mainGlobals e.1=some (some (.ref e.2.1))/\keepIn c.K (.ref e.2.1)=true/\FnAt c.K e.2.1 (fU e.2.2) .none
 int:∀e∈tX,∃t,nsIn c.K mainGlobals e.1=some (some (.int e.2 t))
 bi:∀e∈pe,nsIn c.K mainGlobals e.1=some none
 val:∀e∈s7,∃v,nsIn c.K mainGlobals e.1=some (some v)/\Vr c.H e.2 v
 d1:∃oc od oe k t,c.K.lookup 128=some ⟨oc,od,.seq #[.int 0 t] k,oe⟩
 d2:∃oc od oe k t,c.K.lookup 136=some ⟨oc,od,.seq #[.int 0 t] k,oe⟩
 d3:∃oc od oe k t u,c.K.lookup 144=some ⟨oc,od,.seq #[.int (-1) t,.int (-1) u] k,oe⟩
 ZT:∀e∈o8,nsIn c.K mainGlobals e.1=some (some (.ref e.2.1))/\keepIn c.K (.ref e.2.1)=true/\FnAt c.K e.2.1 (fU e.2.2.1) (.ref e.2.2.2)
section
noncomputable def Ay(env:Env)(x:Str):Bool:=env.scope.kind==.function&&env.kindOf x==some .globalImplicit&&env.globals==mainGlobals&&env.builtins==builtinsNs&&!(x==("__debug__":Str))
theorem jM{x:Str}(h:Ay env x=true):env.scope.kind=.function/\env.kindOf x=some .globalImplicit/\env.globals=mainGlobals/\env.builtins=builtinsNs/\(x==("__debug__":Str))=false:=by unfold Ay at h;simp only[Bool.and_eq_true,beq_iff_eq,Bool.not_eq_true'] at h;exact aQ h.1.1.1.1 h.1.1.1.2 h.1.1.2 h.1.2 h.2
theorem ZP(ft:Ft c){i:Int}(hg:Ay env x=true)(hi:tX.lookup x=some i)(h:Q (.int i) V):WE c A φ env m (.Name x pos) V Q:=by refine cF (jM hg) λh1 h2 h3 h4 h5=>?_;refine bK (ft.int _ (mem_lookup hi)) λt ht=>?_;exact xq ft.ok h1 h2 h3 h5 ht (.int _ _) h
theorem ZO(ft:Ft c)(hg:Ay env x=true)(hi:s7.lookup x=some p)(h:Q p V):WE c A φ env m (.Name x pos) V Q:=by refine cF (jM hg) λh1 h2 h3 h4 h5=>?_;refine ah (ft.val _ (mem_lookup hi)) λv ht hv=>?_;exact xq ft.ok h1 h2 h3 h5 ht hv h
theorem e_f(ft:Ft c){p:Pos}(hg:Ay env x=true)(hf:oZ.lookup x=some (a,k))
  (h:WA c A φ env m pos (e::es) V λps σ₁=>aw c A (aZ env m::φ) (.ref a) ps σ₁ Q)
  (he:starEach (e::es) env=(false,eval e env)::starEach es env:=by rfl) (hs:(backTo pos (starEach es env)).any (·.1)=false:=by rfl):WE c A φ env m (.Call (.Name x p) (e::es) [] pos) V Q:=by
 refine cF (jM hg) λh1 h2 h3 h4 h5=>?_;refine bt (ft.fn _ (mem_lookup hf)) λq1 q2 q3=>?_;exact pR ft.ok h1 h2 h3 h4 h5 (.inl q1) (ic q2) h he hs
theorem FJ(h:pe.lookup x=some v):bootBuiltins x=some v/\x≠("__name__":Str):=by have:=mem_lookup h;simp only[pe,mem_cons,Prod.mk.injEq,not_mem_nil,or_false] at this;rcases this with ⟨rfl,rfl⟩|⟨rfl,rfl⟩|⟨rfl,rfl⟩|⟨rfl,rfl⟩|⟨rfl,rfl⟩|⟨rfl,rfl⟩|⟨rfl,rfl⟩|⟨rfl,rfl⟩<;>exact⟨by decide+kernel,by decide+kernel⟩
theorem Cd(h:∃id,v=.builtin id∨v=.type id):Keeps c v:=by
 obtain ⟨id,rfl|rfl⟩:=h
 ·exact a9
 ·exact Cc
theorem e_b(ft:Ft c){p:Pos}(hg:Ay env x=true)(hf:pe.lookup x=some v)(hv:∃id,v=.builtin id∨v=.type id)
  (h:WA c A φ env m pos (e::es) V λps σ₁=>aw c A (aZ env m::φ) v ps σ₁ Q)
  (he:starEach (e::es) env=(false,eval e env)::starEach es env:=by rfl) (hs:(backTo pos (starEach es env)).any (·.1)=false:=by rfl):WE c A φ env m (.Call (.Name x p) (e::es) [] pos) V Q:=by
 refine cF (jM hg) λh1 h2 h3 h4 h5=>?_;refine aA (FJ hf) λq1 q2=>?_;exact pR ft.ok h1 h2 h3 h4 h5 (.inr (aN (ft.bi _ (mem_lookup hf)) q1 q2)) (Cd hv) h he hs
theorem ZQ(ft:Ft c){p:Pos}{T:Addr}(hg:Ay env x=true)(hf:o8.lookup x=some (a,k,T))
  (h:WA c A φ env m pos (e::es) V λps σ₁=>aw c A (aZ env m::φ) (.ref a) ps σ₁ Q)
  (he:starEach (e::es) env=(false,eval e env)::starEach es env:=by rfl) (hs:(backTo pos (starEach es env)).any (·.1)=false:=by rfl):WE c A φ env m (.Call (.Name x p) (e::es) [] pos) V Q:=by
 refine cF (jM hg) λh1 h2 h3 h4 h5=>?_;refine bt (ft.ZT _ (mem_lookup hf)) λq1 q2 q3=>?_;exact pR ft.ok h1 h2 h3 h4 h5 (.inl q1) (ic q2) h he hs
theorem oG(ft:Ft c)(x:Str){k:Nat}{T:Addr}{Q:PV->St->Prop}(hA:Rm (n+1) A)(hf:o8.lookup x=some (a,k,T))(h1:(c7 (fU k)).isCoroutine=false)(h2:(c7 (fU k)).isGenerator=false)(h3:(c7 (fU k)).kind=.function)
  (h4:(c7 (fU k)).names.all (λx=>x.2 !=.cell)=true)
  (hb:∀(s:Shared) (vs:List Value),c.K.In s.heap->dD s.heap ps vs->∃bs,BindsTo s (lj c.K a (fU k) (.ref T)) ⟨vs,[]⟩ bs/\BR s.heap bs mm) (hl:mH (c7 (fU k)).names (mm.map (·.1))=true)
  (h:∀L A',Rm n A'->WX c A' φ (callEnv (lj c.K a (fU k) (.ref T)) L a) (execs (bodyOf (fU k)) (callEnv (lj c.K a (fU k) (.ref T)) L a)) mm V λr _ σ'=>Q (kK r) σ'):aw c A φ (.ref a) ps V Q:=by
 refine bt (ft.ZT _ (mem_lookup hf)) λq1 q2 q3=>?_;exact Dl ft.ok hA (q3.def h1 h2 h3) rfl h4 hb hl h
theorem ZR(ft:Ft c){p:Pos}(hg:Ay env x=true)(hf:sN.lookup x=some a)
  (h:WA c A φ env m pos (e::es) V λps σ₁=>aw c A (aZ env m::φ) (.ref a) ps σ₁ Q)
  (he:starEach (e::es) env=(false,eval e env)::starEach es env:=by rfl) (hs:(backTo pos (starEach es env)).any (·.1)=false:=by rfl):WE c A φ env m (.Call (.Name x p) (e::es) [] pos) V Q:=by
 refine cF (jM hg) λh1 h2 h3 h4 h5=>?_;refine aA (ft.cl _ (mem_lookup hf)) λq1 q2=>?_;exact pR ft.ok h1 h2 h3 h4 h5 (.inl q1) (ic q2) h he hs
theorem NA(ft:Ft c){p:Pos}(hg:Ay env x=true)(hf:sN.lookup x=some a)
  (h:aw c A (aZ env m::φ) (.ref a) [] V Q):WE c A φ env m (.Call (.Name x p) [] [] pos) V Q:=by
 refine cF (jM hg) λh1 h2 h3 h4 h5=>?_;refine aA (ft.cl _ (mem_lookup hf)) λq1 q2=>?_;exact Dd ft.ok h1 h2 h3 h4 h5 (.inl q1) (ic q2) h
theorem oF(ft:Ft c)(hA:Rm (n+1) A)(hf:FnAt c.K a st .none)(h1:(c7 st).isCoroutine=false)(h2:(c7 st).isGenerator=false)(h3:(c7 st).kind=.function)
  (hb:∀(s:Shared) (vs:List Value),c.K.In s.heap->dD s.heap ps vs->∃bs,bindArgs (lj c.K a st .none) ⟨vs,[]⟩=pure bs/\BR s.heap bs mm) (hl:nQ (lj c.K a st .none) (mm.map (·.1))=true)
  (h:∀L A',Rm n A'->WX c A' φ (callEnvC (lj c.K a st .none) L a) (execs (bodyOf st) (callEnvC (lj c.K a st .none) L a)) mm V λr _ σ'=>Q (kK r) σ'):ry c A φ (.ref a) ps V Q:=
 call_cells ft.ok hA (hf.def h1 h2 h3) rfl hb hl h
noncomputable abbrev Nx(c:Cx)(a:Addr)(k:Nat)(L:Addr):Env:=callEnvC (lj c.K a (fU k) .none) L a
def PD(Q:PV->St->Prop)(r:AF)(_:Map)(V:St):Prop:=Q (kK r) V
theorem enter(ft:Ft c)(x:Str)(hA:Rm (n+1) A)(hf:oZ.lookup x=some (a,k))(h1:(c7 (fU k)).isCoroutine=false)(h2:(c7 (fU k)).isGenerator=false)(h3:(c7 (fU k)).kind=.function)
  (hb:∀(s:Shared) (vs:List Value),c.K.In s.heap->dD s.heap ps vs->∃bs,bindArgs (lj c.K a (fU k) .none) ⟨vs,[]⟩=pure bs/\BR s.heap bs mm) (hl:nQ (lj c.K a (fU k) .none) (mm.map (·.1))=true)
  (h:∀L A',Rm n A'->WX c A' φ (Nx c a k L) (execs (bodyOf (fU k)) (Nx c a k L)) mm V (PD Q)):aw c A φ (.ref a) ps V Q:=by
 refine bt (ft.fn _ (mem_lookup hf)) λq1 q2 q3=>?_;exact(call_cells ft.ok hA (q3.def h1 h2 h3) rfl hb hl h).toS
theorem Ki{i:Int}(h:Q (.int (-i)) V):W1 c A φ Vr (unaryOp .USub) (.int i) V Q:=λs va hR ha=>by (refine bK (aX ha) λ_ au=>?_;subst au);exact neg_int (af (TL.refl _) _ V (hR.toks _) (.int _ _) h)
theorem bD{l:List PV}(e:V a=some (.lst l)):Meth c A φ V (.ref a) "append" (.builtin "list.append") [.ref a]:=λs va hR ha pl G h=>by obtain rfl:=bj ha;exact kR hR e PySem.F.slot_list_append PySem.F.type_list_append (h _ (.cons (.ref _) .nil))
theorem Im{l:List PV}(e:V a=some (.lst l)):Meth c A φ V (.ref a) "pop" (.builtin "list.pop") [.ref a]:=λs va hR ha pl G h=>by obtain rfl:=bj ha;exact kR hR e PySem.F.slot_list_pop PySem.F.type_list_pop (h _ (.cons (.ref _) .nil))
theorem zS{l:List PV}(e:V a=some (.lst l)):Meth c A φ V (.ref a) "extend" (.builtin "list.extend") [.ref a]:=λs va hR ha pl G h=>by obtain rfl:=bj ha;exact kR hR e PySem.F.slot_list_extend PySem.F.type_list_extend (h _ (.cons (.ref _) .nil))
end
section
set_option tactic.hygienic true
structure Ho (P:Prop):Prop where
 h:P
def br(b:Bool)(x y:Prop):Prop:=match b with
 |true=>x
 |false=>y
def bq(b:Bool)(x y:Prop):Prop:=match b with
 |true=>x
 |false=>y
def mo{α:Type}(o:Option α)(f:α->Prop)(n:Prop):Prop:=match o with
 |some a=>f a
 |none=>n
theorem NR{b:Bool}{x y:Prop}(h:bq b x y)(h1:b=true->x->G)(h2:b=false->y->G):G:=by
 induction b with
 |true=>exact h1 rfl h
 |false=>exact h2 rfl h
theorem JW{b:Bool}{x:Prop}(h:bq b x False)(h1:b=true->x->G):G:=NR h h1 λ_ f=>f.elim
theorem Jv{b:Bool}{x:Prop}(h:bq b False x)(h1:b=false->x->G):G:=NR h (λ_ f=>f.elim) h1
theorem zQ{α:Type}{o:Option α}{f:α->Prop}{n:Prop}(h:mo o f n)(h1:∀a,o=some a->f a->G)(h2:o=none->n->G):G:=by
 induction o with
 |some a=>exact h1 a rfl h
 |none=>exact h2 rfl h
theorem YB{α:Type}{o:Option α}{f:α->Prop}(h:mo o f False)(h1:∀a,o=some a->f a->G):G:=zQ h h1 λ_ f=>f.elim
theorem Dp{b:Bool}{x y:Prop}(e:b=true)(h:x):br b x y:=by subst e;exact h
theorem nR{b:Bool}{x y:Prop}(e:b=false)(h:y):br b x y:=by subst e;exact h
theorem bZ{b:Bool}{x y:Prop}(h1:b=true->x)(h2:b=false->y):br b x y:=by
 induction b with
 |true=>exact h1 rfl
 |false=>exact h2 rfl
set_option genInjectivity false in
structure WR where
 e:Map->Expr->St->(PV->St->Prop)->Prop
 t:Map->Expr->St->(Bool->St->Prop)->Prop
 a:Map->List Expr->St->(List PV->St->Prop)->Prop
 s:Map->List Stmt->St->(AF->Map->St->Prop)->Prop
noncomputable def isStar:Expr->Bool
 |.Starred .. =>true
 |_=>false
noncomputable def lP:Expr->Bool
 |.Call _ es _ _=>!es.isEmpty
 |_=>true
noncomputable def qD:Expr->Bool
 |.ListComp .. =>true
 |.SetComp .. =>true
 |.DictComp .. =>true
 |_=>false
section
variable (c:Cx) (A:Around) (φ:dG) (env:Env)
noncomputable abbrev FF(m:Map):dG:=aZ env m::φ
def s8(ψ:dG)(a:PV)(V:St)(Q:Bool->St->Prop):Prop:=match a with
 |.bool b=>Q b V
 |.none=>Q false V
 |a=>Ho (W1 c A ψ RB truthy a V Q)
noncomputable def tL{β:Type}(f:Int->Int->Option β)(a b:PV):Option β:=match a with
 |.int x=>match b with
  |.int y=>f x y
  |_=>none
 |_=>none
noncomputable def BI{β:Type}(f:Str->Str->Option β)(a b:PV):Option β:=match a with
 |.str x=>match b with
  |.str y=>f x y
  |_=>none
 |_=>none
noncomputable def yo{β:Type}(f:Bool->Bool->Option β)(a b:PV):Option β:=match a with
 |.bool x=>match b with
  |.bool y=>f x y
  |_=>none
 |_=>none
noncomputable def ZZ(op:CmpOp)(x y:Bool):Option Bool:=match op with
 |.NotEq=>some (x !=y)
 |_=>none
noncomputable def binI(op:Operator)(x y:Int):Option Int:=match op with
 |.Add=>some (x+y)
 |.Sub=>some (x-y)
 |_=>none
noncomputable def YM(op:Operator)(x y:Int):Option Int:=match op with
 |.Add=>some (x+y)
 |_=>none
noncomputable def ZY(op:CmpOp)(x y:Int):Option Bool:=match op with
 |.Eq=>some (x==y)
 |.Lt=>some (decide (x<y))
 |.LtE=>some (decide (x<=y))
 |.Gt=>some (decide (y<x))
 |.GtE=>some (decide (y<=x))
 |.NotEq=>some (x !=y)
 |_=>none
noncomputable def ZW(op:CmpOp)(x y:Str):Option Bool:=match op with
 |.Eq=>some (x==y)
 |.NotEq=>some (x !=y)
 |_=>none
noncomputable def ZX(op:CmpOp)(a b:PV):Option Bool:=match b.isNone with
 |true=>match op with
  |.Is=>some a.isNone
  |.IsNot=>some (!a.isNone)
  |_=>none
 |false=>none
def Kc(ψ:dG)(op:Operator)(a b:PV)(V:St)(Q:PV->St->Prop):Prop:=mo (tL (binI op) a b) (λz=>Q (.int z) V) (Ho (W2 c A ψ Vr (binaryOp op) a b V Q))
def Eb(ψ:dG)(op:Operator)(a b:PV)(V:St)(Q:PV->St->Prop):Prop:=mo (tL (YM op) a b) (λz=>Q (.int z) V) (Ho (W2 c A ψ Vr (inplaceOp op) a b V Q))
def Kb(ψ:dG)(op:CmpOp)(a b:PV)(V:St)(Q:PV->St->Prop):Prop:=mo (tL (ZY op) a b) (λz=>Q (.bool z) V) (mo (BI (ZW op) a b) (λz=>Q (.bool z) V) (mo (ZX op a b) (λz=>Q (.bool z) V) (mo (yo (ZZ op) a b) (λz=>Q (.bool z) V) (Ho (W2 c A ψ Vr (compareOp op) a b V Q)))))
def Gb(m:Map)(x:Str)(pos:Pos)(V:St)(Q:PV->St->Prop):Prop:=bq (x==("__debug__":Str)) False (bq (hX env x) (mo (dB m x) (λp=>Q p V) (Ho (WE c A φ env m (.Name x pos) V Q)))
 (bq (Ay env x) (mo (tX.lookup x) (λi=>Q (.int i) V) (mo (s7.lookup x) (λp=>Q p V) (Ho (WE c A φ env m (.Name x pos) V Q)))) (Ho (WE c A φ env m (.Name x pos) V Q))))
def NT(ψ:dG)(op:Operator)(Q:PV->St->Prop)(a b:PV)(V:St):Prop:=Kc c A ψ op a b V Q
def NU(ψ:dG)(r:WR)(m:Map)(op:Operator)(x:Expr)(Q:PV->St->Prop)(a:PV)(V:St):Prop:=r.e m x V (NT c A ψ op Q a)
def NF(ψ:dG)(op:CmpOp)(Q:PV->St->Prop)(a b:PV)(V:St):Prop:=Kb c A ψ op a b V Q
def GL(ψ:dG)(r:WR)(m:Map)(op:CmpOp)(x:Expr)(Q:PV->St->Prop)(a:PV)(V:St):Prop:=r.e m x V (NF c A ψ op Q a)
def Yw(Q:PV->St->Prop)(b:Bool)(V:St):Prop:=Q (.bool (!b)) V
def unQ(ψ:dG)(op:UnaryOp)(Q:PV->St->Prop)(a:PV)(V:St):Prop:=match op with
 |.USub=>match a with
  |.int i=>Q (.int (-i)) V
  |_=>False
 |.Not=>s8 c A ψ a V (Yw Q)
 |_=>False
def ifQ(r:WR)(m:Map)(x y:Expr)(Q:PV->St->Prop)(b:Bool)(V:St):Prop:=br b (r.e m x V Q) (r.e m y V Q)
def Jw(r:WR)(m:Map)(op:BoolOp)(l:List Expr)(pos:Pos)(Q:PV->St->Prop)(a:PV)(b:Bool)(V:St):Prop:=match op with
 |.And=>br b (r.e m (.BoolOp .And l pos) V Q) (Q a V)
 |.Or=>br b (Q a V) (r.e m (.BoolOp .Or l pos) V Q)
def Jx(ψ:dG)(r:WR)(m:Map)(op:BoolOp)(l:List Expr)(pos:Pos)(Q:PV->St->Prop)(a:PV)(V:St):Prop:=s8 c A ψ a V (Jw r m op l pos Q a)
def tupQ(Q:PV->St->Prop)(ps:List PV)(V:St):Prop:=bq (Nat.ble ps.length 1000) (Q (.tup ps) V) False
def YF(Q:PV->St->Prop)(ps:List PV)(V:St):Prop:=bq (Nat.ble ps.length 1000) (Ho (∀d,V d=none->Q (.ref d) (upd V d (.lst ps)))) False
def Kt(ψ:dG)(v i:Expr)(Q:PV->St->Prop)(a b:PV)(V:St):Prop:=Ho (W2 c A ψ Vr (subscriptTail v i) a b V Q)
def Ku(ψ:dG)(r:WR)(m:Map)(v i:Expr)(Q:PV->St->Prop)(a:PV)(V:St):Prop:=r.e m i V (Kt c A ψ v i Q a)
def aad(ψ:dG)(x:Str)(Q:PV->St->Prop)(a:PV)(V:St):Prop:=Ho (W1 c A ψ Vr (λo=>getAttr o x true) a V Q)
def NH(ψ:dG)(f:Value)(fs:List PV)(Q:PV->St->Prop)(ps:List PV)(V:St):Prop:=Ho (aw c A ψ f (fs++ps) V Q)
def Ju(ψ:dG)(f:Value)(Q:PV->St->Prop)(ps:List PV)(V:St):Prop:=Ho (aw c A ψ f ps V Q)
def N3(Q:List PV->St->Prop)(a:PV)(as:List PV)(V:St):Prop:=Q (a::as) V
def N4(r:WR)(m:Map)(es:List Expr)(Q:List PV->St->Prop)(a:PV)(V:St):Prop:=r.a m es V (N3 Q a)
def Hf(ψ:dG)(Q:Bool->St->Prop)(d:PV)(V:St):Prop:=s8 c A ψ d V Q
def Yv(Q:Bool->St->Prop)(b:Bool)(V:St):Prop:=Q (!b) V
def NS(r:WR)(m:Map)(op:BoolOp)(l:List Expr)(pos:Pos)(Q:Bool->St->Prop)(b:Bool)(V:St):Prop:=match op with
 |.And=>br b (r.t m (.BoolOp .And l pos) V Q) (Q false V)
 |.Or=>br b (Q true V) (r.t m (.BoolOp .Or l pos) V Q)
def rtQ(m:Map)(Q:AF->Map->St->Prop)(p:PV)(V:St):Prop:=Q (.ret p) m V
def YP(r:WR)(m:Map)(b o:List Stmt)(Q:AF->Map->St->Prop)(v:Bool)(V:St):Prop:=br v (r.s m b V Q) (r.s m o V Q)
def asQ(m:Map)(x:Str)(Q:AF->Map->St->Prop)(q:PV)(V:St):Prop:=Q .next (bh m x q) V
def nxQ(m:Map)(Q:AF->Map->St->Prop)(_:Unit)(V:St):Prop:=Q .next m V
def exQ(m:Map)(Q:AF->Map->St->Prop)(_:PV)(V:St):Prop:=Q .next m V
def N1(ψ:dG)(m:Map)(x:Str)(Q:AF->Map->St->Prop)(p a:PV)(V:St):Prop:=Ho (W2 c A ψ RU (λov v=>setAttr ov x v) a p V (nxQ m Q))
def N2(ψ:dG)(r:WR)(m:Map)(o:Expr)(x:Str)(Q:AF->Map->St->Prop)(p:PV)(V:St):Prop:=r.e m o V (N1 c A ψ m x Q p)
def NY(ψ:dG)(m:Map)(Q:AF->Map->St->Prop)(p a b:PV)(V:St):Prop:=Ho (W3 c A ψ RU setItem a b p V (nxQ m Q))
def NZ(ψ:dG)(r:WR)(m:Map)(i:Expr)(Q:AF->Map->St->Prop)(p a:PV)(V:St):Prop:=r.e m i V (NY c A ψ m Q p a)
def N0(ψ:dG)(r:WR)(m:Map)(o i:Expr)(Q:AF->Map->St->Prop)(p:PV)(V:St):Prop:=r.e m o V (NZ c A ψ r m i Q p)
def aac(ψ:dG)(m:Map)(x:Str)(op:Operator)(Q:AF->Map->St->Prop)(p b:PV)(V:St):Prop:=Eb c A ψ op p b V (asQ m x Q)
def AL(r:WR)(m:Map)(e:Option Expr)(V:St)(Q:PV->St->Prop):Prop:=match e with
 |none=>Q .none V
 |some e=>r.e m e V Q
noncomputable def Hd(env:Env)(x:Str):Option Value:=match Ay env x with
 |true=>match oZ.lookup x with
  |some p=>some (.ref p.1)
  |none=>match o8.lookup x with
   |some p=>some (.ref p.1)
   |none=>match sN.lookup x with
    |some a=>some (.ref a)
    |none=>pe.lookup x
 |false=>none
def AP(r:WR)(m:Map)(x:Str)(p:Pos)(es:List Expr)(pos:Pos)(V:St)(Q:PV->St->Prop):Prop:=match es with
 |[]=>Ho (WE c A φ env m (.Call (.Name x p) es [] pos) V Q)
 |_::_=>mo (Hd env x) (λf=>bq (es.all (λe=>!isStar e)) (r.a m es V (Ju c A (FF φ env m) f Q)) False) (Ho (WE c A φ env m (.Call (.Name x p) es [] pos) V Q))
def Kv(Q:PV->St->Prop)(a pl pu:PV)(V:St):Prop:=mo (GQ pl) (λlo=>mo (GQ pu) (λhi=>Ho (eZ c V a lo hi Q)) False) False
def Kw(r:WR)(m:Map)(hi:Option Expr)(Q:PV->St->Prop)(a pl:PV)(V:St):Prop:=AL r m hi V (Kv c Q a pl)
def Kx(r:WR)(m:Map)(lo hi:Option Expr)(Q:PV->St->Prop)(a:PV)(V:St):Prop:=AL r m lo V (Kw c r m hi Q a)
def Mx(ψ:dG)(r:WR)(m:Map)(es:List Expr)(Q:PV->St->Prop)(σ₁:St)(f:Value)(fs:List PV):Prop:=match es with
 |[]=>Ho (aw c A ψ f fs σ₁ Q)
 |e::es=>r.a m (e::es) σ₁ (NH c A ψ f fs Q)
inductive MethP (ψ:dG) (r:WR) (m:Map) (name:Str) (es:List Expr) (Q:PV->St->Prop) (a:PV) (σ₁:St):Prop
 |mk (f:Value) (fs:List PV) (h1:Meth c A ψ σ₁ a name f fs) (h2:Keeps c f) (h3:Mx c A ψ r m es Q σ₁ f fs)
def Il(ψ:dG)(r:WR)(m:Map)(name:Str)(es:List Expr)(Q:PV->St->Prop)(a:PV)(V:St):Prop:=Ho (MethP c A ψ r m name es Q a V)
def Gd(r:WR)(m:Map)(o:Expr)(name:Str)(apos:Pos)(es:List Expr)(pos:Pos)(V:St)(Q:PV->St->Prop):Prop:=bq (es.all (λe=>!isStar e)&&Nat.blt es.length 20&&apos.endLine==pos.line&&lP o) (r.e m o V (Il c A (FF φ env m) r m name es Q)) False
set_option genInjectivity false in
set_option genCtorIdx false in
inductive CK where
 |name (x:Str) (p:Pos)
 |attr (o:Expr) (x:Str) (p:Pos)
 |no
noncomputable def FG(f:Expr):CK:=match f with
 |.Name x p=>.name x p
 |.Attribute o x p=>.attr o x p
 |_=>.no
noncomputable def tu(e:Expr):Option (Option Expr×Option Expr×Option Expr×Pos):=match e with
 |.Slice lo up st p=>some (lo,up,st,p)
 |_=>none
def vE(r:WR)(m:Map)(e:Expr)(V:St)(Q:PV->St->Prop):Prop:=match e with
 |.Constant k u pos=>match k with
  |.int i=>Q (.int i) V
  |.str x=>Q (.str x) V
  |.bool b=>Q (.bool b) V
  |.none=>Q .none V
  |k=>Ho (WE c A φ env m (.Constant k u pos) V Q)
 |.Name x pos=>Gb c A φ env m x pos V Q
 |.BinOp l op x _=>r.e m l V (NU c A (FF φ env m) r m op x Q)
 |.Compare l ops xs _=>match ops with
  |[op]=>match xs with
   |[x]=>bq (behindInMarks op x) False (r.e m l V (GL c A (FF φ env m) r m op x Q))
   |_=>False
  |_=>False
 |.UnaryOp op x _=>r.e m x V (unQ c A (FF φ env m) op Q)
 |.IfExp t x y _=>r.t m t V (ifQ r m x y Q)
 |.BoolOp op vs pos=>match vs with
  |[]=>False
  |x::vs=>match vs with
   |[]=>r.e m x V Q
   |y::l=>r.e m x V (Jx c A (FF φ env m) r m op (y::l) pos Q)
 |.Tuple es _ _=>r.a m es V (tupQ Q)
 |.List es _=>r.a m es V (YF Q)
 |.Subscript v i _=>mo (tu i) (λp=>mo p.2.2.1 (λ_=>False) (r.e m v V (Kx c r m p.1 p.2.1 Q))) (r.e m v V (Ku c A (FF φ env m) r m v i Q))
 |.Attribute v x _=>bq (lP v) (r.e m v V (aad c A (FF φ env m) x Q)) False
 |.Call f es ks pos=>match ks with
  |[]=>match FG f with
   |.name x p=>AP c A φ env r m x p es pos V Q
   |.attr o name apos=>Gd c A φ env r m o name apos es pos V Q
   |.no=>False
  |_=>False
 |e=>Ho (WE c A φ env m e V Q)
def vT(r:WR)(m:Map)(e:Expr)(V:St)(Q:Bool->St->Prop):Prop:=match e with
 |.UnaryOp op x _=>match op with
  |.Not=>r.t m x V (Yv Q)
  |_=>False
 |.BoolOp op vs pos=>match vs with
  |[]=>match op with
   |.And=>Q true V
   |.Or=>Q false V
  |x::l=>r.t m x V (NS r m op l pos Q)
 |.Compare l ops xs _=>match ops with
  |[op]=>match xs with
   |[x]=>bq (behindInMarks op x) False (r.e m l V (GL c A (FF φ env m) r m op x (Hf c A (FF φ env m) Q)))
   |_=>False
  |_=>False
 |.Name x pos=>r.e m (.Name x pos) V (Hf c A (FF φ env m) Q)
 |.Call f es ks pos=>r.e m (.Call f es ks pos) V (Hf c A (FF φ env m) Q)
 |e=>Ho (WT c A φ env m e V Q)
def vA(r:WR)(m:Map)(es:List Expr)(V:St)(Q:List PV->St->Prop):Prop:=match es with
 |[]=>Q [] V
 |e::es=>bq (isStar e) False (r.e m e V (N4 r m es Q))
set_option genInjectivity false in
set_option genCtorIdx false in
inductive TK where
 |name (x:Str) (p:Pos)
 |attr (o:Expr) (x:Str) (p:Pos)
 |sub (o i:Expr) (p:Pos)
 |no
noncomputable def Kn(e:Expr):TK:=match e with
 |.Name x p=>.name x p
 |.Attribute o x p=>.attr o x p
 |.Subscript o i p=>.sub o i p
 |_=>.no
def Ga(r:WR)(m:Map)(st:Stmt)(V:St)(Q:AF->Map->St->Prop):Prop:=match st with
 |.Return e _=>match e with
  |some e=>r.e m e V (rtQ m Q)
  |none=>False
 |.If t b o _=>r.t m t V (YP r m b o Q)
 |.Assign ts v pos=>match ts with
  |[t]=>match Kn t with
   |.name x _=>bq (setOk env x&&!qD v) (r.e m v V (asQ m x Q)) (Ho (WS c A φ env (.Assign [t] v pos) m V Q))
   |.attr o x _=>bq (qD v) False (r.e m v V (N2 c A (FF φ env m) r m o x Q))
   |.sub o i _=>bq (qD v) False (r.e m v V (N0 c A (FF φ env m) r m o i Q))
   |.no=>Ho (WS c A φ env (.Assign [t] v pos) m V Q)
  |_=>False
 |.AugAssign t op v pos=>match Kn t with
  |.name x _=>bq (hX env x&&setOk env x) (mo (dB m x) (λp=>r.e m v V (aac c A (FF φ env m) m x op Q p)) False) False
  |.attr o x _=>r.e m o V λa σ₁=>Ho (W1 c A (FF φ env m) Vr (λov=>getAttr ov x true) a σ₁ λold ay=>r.e m v ay λb aD=>Eb c A (FF φ env m) op old b aD λq bB=>
    Ho (W2 c A (FF φ env m) RU (λov v=>setAttr ov x v) a q bB λ_ cW=>Q .next m cW))
  |.sub o i _=>mo (tu i) (λ_=>False) (r.e m o V λa σ₁=>r.e m i σ₁ λb ay=>Ho (W2 c A (FF φ env m) Vr getItem a b ay λold aD=>r.e m v aD λd bB=>Eb c A (FF φ env m) op old d bB λq cW=>
    Ho (W3 c A (FF φ env m) RU setItem a b q cW λ_ gv=>Q .next m gv)))
  |.no=>False
 |.Expr e _=>bq (interactive env||qD e) False (r.e m e V (exQ m Q))
 |st=>Ho (WS c A φ env st m V Q)
noncomputable def Kz(r:WR)(rest:List Stmt)(Q:AF->Map->St->Prop):AF->Map->St->Prop:=λa m' σ'=>match a with
 |.next=>r.s m' rest σ' Q
 |a=>Q a m' σ'
def vS(r:WR)(m:Map)(l:List Stmt)(V:St)(Q:AF->Map->St->Prop):Prop:=match l with
 |[]=>Q .next m V
 |st::rest=>Ga c A φ env r m st V (Kz r rest Q)
noncomputable def J8(r:WR):WR:=⟨vE c A φ env r,vT c A φ env r,vA r,vS c A φ env r⟩
noncomputable def v0:WR:=⟨λ_ _ _ _=>False,λ_ _ _ _=>False,λ_ _ _ _=>False,λ_ _ _ _=>False⟩
noncomputable def vR:Nat->WR
 |0=>v0
 |n+1=>J8 c A φ env (vR n)
structure WR.Ok (r:WR):Prop where
 e:∀{m e V Q},r.e m e V Q->WE c A φ env m e V Q
 t:∀{m e V Q},r.t m e V Q->WT c A φ env m e V Q
 a:∀{m es V Q},r.a m es V Q->∀pos,WA c A φ env m pos es V Q
 s:∀{m l V Q},r.s m l V Q->pg c A φ env l m V Q
end
section
theorem g6{a:PV}{Q:Bool->St->Prop}(h:s8 c A ψ a V Q):W1 c A ψ RB truthy a V Q:=by
 induction a using PV.casesOn with
 |bool b=>exact xT h
 |none=>exact Ef h
 |_=>exact h.h
theorem oh{β:Type}{f:Int->Int->Option β}{a b:PV}{z:β}(h:tL f a b=some z):∃x y,a=.int x/\b=.int y/\f x y=some z:=by
 induction a using PV.casesOn<;>first|exact bL h|skip
 induction b using PV.casesOn<;>first|exact bL h|skip
 exact dM _ _ rfl rfl h
theorem zO{β:Type}{f:Str->Str->Option β}{a b:PV}{z:β}(h:BI f a b=some z):∃x y,a=.str x/\b=.str y/\f x y=some z:=by
 induction a using PV.casesOn<;>first|exact bL h|skip
 induction b using PV.casesOn<;>first|exact bL h|skip
 exact dM _ _ rfl rfl h
theorem w9{β:Type}{f:Bool->Bool->Option β}{a b:PV}{z:β}(h:yo f a b=some z):∃x y,a=.bool x/\b=.bool y/\f x y=some z:=by
 induction a using PV.casesOn<;>first|exact bL h|skip
 induction b using PV.casesOn<;>first|exact bL h|skip
 exact dM _ _ rfl rfl h
theorem Ed{op:Operator}{a b:PV}(h:Kc c A ψ op a b V Q):W2 c A ψ Vr (binaryOp op) a b V Q:=by refine zQ h (λz e k=>?_) λ_ h=>h.h;clear h;refine aV (oh e) λx y au wJ e2=>?_;clear e;subst au;subst wJ;induction op<;>first|exact bL e2|exact NW (J (sI e2) k)|exact NV (J (sI e2) k)
theorem tc{op:Operator}{a b:PV}(h:Eb c A ψ op a b V Q):W2 c A ψ Vr (inplaceOp op) a b V Q:=by refine zQ h (λz e k=>?_) λ_ h=>h.h;clear h;refine aV (oh e) λx y au wJ e2=>?_;clear e;subst au;subst wJ;induction op<;>first|exact bL e2|exact ML (J (sI e2) k)
theorem xQ{op:CmpOp}{a b:PV}(h:Kb c A ψ op a b V Q):W2 c A ψ Vr (compareOp op) a b V Q:=by
 refine zQ h (λz e k=>?_) λ_ h1=>zQ h1 (λz e k=>?_) λ_ h2=>zQ h2 (λz e k=>?_) λ_ h3=>zQ h3 (λz e k=>?_) λ_ h=>h.h
 ·clear h
  refine aV (oh e) λx y au wJ e2=>?_;clear e;subst au;subst wJ;induction op<;>first|exact bL e2|exact NP (J (sI e2) k)|exact Z4 (J (sI e2) k)|exact Z9 (J (sI e2) k)|exact aaa (J (sI e2) k)|exact aab (J (sI e2) k)|exact NJ (J (sI e2) k)
 ·clear h1 h
  refine aV (zO e) λx y au wJ e2=>?_;clear e;subst au;subst wJ;induction op<;>first|exact bL e2|exact NO (J (sI e2) k)|exact NI (J (sI e2) k)
 ·clear h2 h1 h
  induction b using PV.casesOn with
  |none=>induction op<;>first|exact bL e|exact NM (J (sI e) k)|exact Dn (J (sI e) k)
  |_=>exact bL e
 ·clear h3 h2 h1 h
  refine aV (w9 e) λx y au wJ e2=>?_;clear e;subst au;subst wJ;induction op<;>first|exact bL e2|exact NK (J (sI e2) k)
theorem AM(ft:Ft c)(h:Gb c A φ env m x pos V Q):WE c A φ env m (.Name x pos) V Q:=
 Jv h λe1 h=>NR h (λe2 h=>zQ h (λ_ e3 h=>jm e2 e1 e3 h) λ_ h=>h.h) λ_ h=>NR h (λe3 h=>zQ h (λ_ e4 h=>ZP ft e3 e4 h) λ_ h=>zQ h (λ_ e5 h=>ZO ft e3 e5 h) λ_ h=>h.h) λ_ h=>h.h
theorem nj(h:isStar e=false)(es:List Expr)(env:Env):starEach (e::es) env=(false,eval e env)::starEach es env:=by induction e using Expr.casesOn<;>first|rfl|exact rB h
theorem qa:∀{es:List Expr} (pos:Pos) (env:Env),es.all (λe=>!isStar e)=true->(backTo pos (starEach es env)).any (·.1)=false
 |[],_,_,_=>rfl
 |e::es,pos,env,h=>by rw[all_cons,Bool.and_eq_true,Bool.not_eq_true'] at h;refine J (nj h.1 _ _) ?_;have:=qa pos env h.2;unfold backTo at this ⊢;refine J map_cons (J any_cons (J this ?_));rfl
theorem r5:∀{es:List Expr} (pos:Pos) (env:Env),es.all (λe=>!isStar e)=true->((backTo pos (starEach es env)).all λx=>!x.1)=true
 |[],_,_,_=>rfl
 |e::es,pos,env,h=>by rw[all_cons,Bool.and_eq_true,Bool.not_eq_true'] at h;refine J (nj h.1 _ _) ?_;have:=r5 pos env h.2;unfold backTo at this ⊢;refine J map_cons (J all_cons (J this ?_));rfl
theorem EH{o:Expr}{apos:Pos}(ho:lP o=true)(hs:es.all (λe=>!isStar e)=true)(hl:es.length<20)(hp:(apos.endLine==pos.line)=true):
  eval ((o.Attribute name apos).Call es [] pos) env=(do
     let ov<-eval o env
     standAt apos.atName
     let N8<-holding [ov] (getMethod ov name (do return (<-importBound o env).getD true))
     match N8 with
      |(f,first)=>callWith pos f first (backTo pos (starEach es env)) []):=by
 have hb:attributeBase o name env (eval o env)=eval o env:=by
  induction o using Expr.casesOn<;>first|rfl|skip
  rename_i f es _ _;induction es using LC with
  |nil=>exact iD ho
  |cons _ _=>induction f using Expr.casesOn<;>rfl
 have hf:methodCallForm (es.length+([]:List Keyword).length) (backTo pos (starEach es env)) (backToKw pos (keywordEach [] env))=true:=by unfold methodCallForm;refine J (r5 pos env hs) ?_;refine(?_:(true&&true&&decide (es.length+0+0<30))=true);refine J (Bool.and_self _) (J (Nat.add_zero _) (J (Bool.true_and _) (J decide_eq_true_eq (?_))));exact m9 hl
 refine(?_:(do
  let ov<-attributeBase o name env (eval o env)
  standAt apos.atName
  methodCall o name apos pos env ov (es.length+([]:List Keyword).length) (backTo pos (starEach es env)) (backToKw pos (keywordEach [] env)))=_)
 refine J hb ?_;unfold methodCall calleeOf methodCallPos;simp only[hf,hp,if_true,Bool.not_true,Bool.false_or]
 rfl
theorem FQ{o:Expr}(ho:lP o=true):eval (o.Attribute name pos) env=(do
     let ov<-eval o env
     standAt pos.atName
     let r<-holding [ov] (getAttr ov name true)
     letTemporaryGo o ov r
     pure r):=by
 induction o using Expr.casesOn<;>first|rfl|skip
 rename_i f es _ _;induction es using LC with
 |nil=>exact iD ho
 |cons _ _=>induction f using Expr.casesOn<;>rfl
theorem pJ{v:Expr}(h:qD v=false)(t:Option Expr)(l:Nat):swapsWith v t l env=pure false:=by induction v using Expr.casesOn<;>first|rfl|exact rB h
theorem Ec(ft:Ft c){p:Pos}{f:Value}(h1:Hd env x=some f)(q:WA c A φ env m pos (e::es) V λps σ₁=>aw c A (FF φ env m) f ps σ₁ Q)(he:starEach (e::es) env=(false,eval e env)::starEach es env)(hs:(backTo pos (starEach es env)).any (·.1)=false):WE c A φ env m (.Call (.Name x p) (e::es) [] pos) V Q:=by
 unfold Hd at h1;induction g1:Ay env x with
 |false=>rw[g1] at h1;exact bL h1
 |true=>
  rw[g1] at h1;induction g2:oZ.lookup x with
  |some p=>rw[g2] at h1;obtain rfl:=sI h1;exact e_f ft g1 g2 q he hs
  |none=>
   rw[g2] at h1;induction g3:o8.lookup x with
   |some p=>rw[g3] at h1;obtain rfl:=sI h1;exact ZQ ft g1 g3 q he hs
   |none=>
    rw[g3] at h1;induction g4:sN.lookup x with
    |some a=>rw[g4] at h1;obtain rfl:=sI h1;exact ZR ft g1 g4 q he hs
    |none=>
     rw[g4] at h1;refine e_b ft g1 h1 ?_ q he hs;have:=mem_lookup (show pe.lookup x=some f from h1);simp only[pe,mem_cons,Prod.mk.injEq,not_mem_nil,or_false] at this;rcases this with ⟨_,rfl⟩|⟨_,rfl⟩|⟨_,rfl⟩|⟨_,rfl⟩|⟨_,rfl⟩|⟨_,rfl⟩|⟨_,rfl⟩|⟨_,rfl⟩<;>exact⟨_,by first|exact .inl rfl|exact .inr rfl⟩
theorem noStar{e:Expr}(h:(e::es).all (λe=>!isStar e)=true):isStar e=false/\es.all (λe=>!isStar e)=true:=by rw[all_cons,Bool.and_eq_true,Bool.not_eq_true'] at h;exact h
theorem y8(ft:Ft c){r:WR}(H:WR.Ok c A φ env r){p:Pos}(h:AP c A φ env r m x p es pos V Q):WE c A φ env m (.Call (.Name x p) es [] pos) V Q:=by
 induction es using LC with
 |nil=>exact h.h
 |cons e es=>exact zQ h (λf h1 h=>JW h λh2 h=>Ec ft h1 ((H.a h pos).mono λps σ₁ x=>x.h) (nj (noStar h2).1 es env) (qa pos env (noStar h2).2)) λ_ h=>h.h
theorem B9{α:Type}{l:List α}(h:Nat.ble l.length 1000=true):l.length<=sizeLine:=by have:=Nat.le_of_ble_eq_true h;have e:sizeLine=2^24:=rfl;exact nZ e this
theorem sr{e:Option Expr}{Q':PV->St->Prop}(h:JZ c A φ env m e V Q)(k:∀b σ',Q b σ'->Q' b σ'):JZ c A φ env m e V Q':=by
 induction e with
 |none=>exact k _ _ h
 |some e=>exact WG.mono h k
theorem uB{r:WR}(H:WR.Ok c A φ env r){e:Option Expr}(h:AL r m e V Q):JZ c A φ env m e V Q:=by
 induction e with
 |none=>exact h
 |some e=>exact H.e h
theorem sZ{β α:Type}{R:Heap->β->α->Prop}{f:Value->Sem α}{a:PV}{Q Q':β->St->Prop}(h:W1 c A ψ R f a V Q)(k:∀b σ',Q b σ'->Q' b σ'):W1 c A ψ R f a V Q':=
 λs va hR hv=>wpAny_mono (h s va hR hv) (λ_ _ zf=>aR zf λt b σ₁ r x q=>(af t b σ₁ r x (k _ _ q))) λ_ _ y=>y
theorem oJ{b:Bool}{x y x' y':Prop}(h:br b x y)(k:x->x')(l:y->y'):if b=true then x' else y':=by
 induction b
 ·exact l h
 ·exact k h
theorem AN(ft:Ft c){r:WR}(H:WR.Ok c A φ env r){o:Expr}{apos:Pos}(h:Gd c A φ env r m o name apos es pos V Q):WE c A φ env m (.Call (.Attribute o name apos) es [] pos) V Q:=by
 refine JW h λhc h=>?_;rw[Bool.and_eq_true,Bool.and_eq_true,Bool.and_eq_true] at hc;refine iA hc λh1 h2 h3 Cs=>?_;clear hc;have heq:=EH (env:=env) (o:=o) (name:=name) (es:=es) Cs h1 (Nat.lt_of_succ_le (Nat.le_of_ble_eq_true h2)) h3;induction es using LC with
 |nil=>exact Fm ft.ok ((H.e h).mono λa σ₁ h=>by obtain ⟨⟨f,fs,q1,q2,q3⟩⟩:=h;exact(dM f fs q1 q2 q3.h)) heq
 |cons e es=>exact Jm ft.ok ((H.e h).mono λa σ₁ h=>by obtain ⟨⟨f,fs,q1,q2,q3⟩⟩:=h;exact(dM f fs q1 q2 ((H.a q3 _).mono λps ay x=>x.h))) heq (nj (noStar h1).1 _ _) (qa _ _ (noStar h1).2)
theorem zu{p}(h:tu e=some p):e=.Slice p.1 p.2.1 p.2.2.1 p.2.2.2:=by induction e using Expr.casesOn<;>first|exact bL h|(obtain rfl:=sI h;rfl)
theorem Ka(ft:Ft c){r:WR}(H:WR.Ok c A φ env r)(h:vE c A φ env r m e V Q):WE c A φ env m e V Q:=by
 induction e using Expr.casesOn with
 |Constant k u pos=>induction k with
  |int i=>exact C8 h
  |str x=>exact Nz h
  |bool b=>exact Jk h
  |none=>exact Jj h
  |_=>exact h.h
 |Name x pos=>exact AM ft h
 |BinOp l op x pos=>exact yW ((H.e h).mono λa σ₁ h=>(H.e h).mono λb ay h=>Ed h)
 |Compare l ops xs pos=>induction ops using LC with
  |nil=>exact h.elim
  |cons op ops=>induction ops using LC with
   |cons _ _=>exact h.elim
   |nil=>induction xs using LC with
    |nil=>exact h.elim
    |cons x xs=>induction xs using LC with
     |cons _ _=>exact h.elim
     |nil=>
      exact Jv h λhm h=>Al ((H.e h).mono λa σ₁ h=>(H.e h).mono λb ay h=>xQ h) hm
 |UnaryOp op x pos=>
  refine Ak ((H.e h).mono λa σ₁ h=>?_);induction op with
  |USub=>induction a using PV.casesOn with
   |int i=>exact Ki h
   |_=>exact h.elim
  |Not=>exact Kh (g6 h)
  |_=>exact h.elim
 |IfExp t x y pos=>exact yU ((H.t h).mono λb σ₁ h=>oJ h H.e H.e)
 |BoolOp op vs pos=>induction vs using LC with
  |nil=>exact h.elim
  |cons x vs=>induction vs using LC with
   |nil=>exact Jl (H.e h)
   |cons y l=>induction op with
    |And=>exact NB ((H.e h).mono λa σ₁ h=>sZ (g6 h) λb ay q=>oJ q H.e id)
    |Or=>exact ZN ((H.e h).mono λa σ₁ h=>sZ (g6 h) λb ay q=>oJ q id H.e)
 |Tuple es k pos=>exact Fj ((H.a h _).mono λps σ₁ h=>JW h λhb h=>⟨B9 hb,h⟩)
 |List es pos=>exact Dc ((H.a h _).mono λps σ₁ h=>JW h λhb h=>su (B9 hb) h.h)
 |Subscript v i pos=>
  refine zQ h (λp hs h=>?_) λhs h=>C9 ((H.e h).mono λa σ₁ h=>(H.e h).mono λb ay h=>h.h);obtain ⟨lo,up,st,pp⟩:=p;refine J (zu hs) ?_;induction st with
  |some _=>exact h.elim
  |none=>exact Fl ((H.e h).mono λa σ₁ h=>sr (uB H h) λpl ay h=>sr (uB H h) λpu aD h=>YB h λ_ e1 h=>YB h λ_ e2 h=>(dM _ _ e1 e2 h.h))
 |Attribute v x pos=>exact JW h λhb h=>Jn ((H.e h).mono λa σ₁ h=>h.h) (FQ hb)
 |Call f es ks pos=>induction ks using LC with
  |cons _ _=>exact h.elim
  |nil=>induction f using Expr.casesOn with
   |Name x p=>exact y8 ft H h
   |Attribute o name apos=>exact AN ft H h
   |_=>exact h.elim
 |_=>exact h.h
theorem J7{r:WR}(H:WR.Ok c A φ env r){Q:Bool->St->Prop}(h:vT c A φ env r m e V Q):WT c A φ env m e V Q:=by
 induction e using Expr.casesOn with
 |UnaryOp op x pos=>induction op with
  |Not=>exact Kq (H.t h)
  |_=>exact h.elim
 |BoolOp op vs pos=>induction vs using LC with
  |nil=>induction op with
   |And=>exact Hl h
   |Or=>exact Ko h
  |cons x l=>induction op with
   |And=>exact Kr ((H.t h).mono λb σ₁ h=>oJ h H.t id)
   |Or=>exact Pr ((H.t h).mono λb σ₁ h=>oJ h id H.t)
 |Compare l ops xs pos=>induction ops using LC with
  |nil=>exact h.elim
  |cons op ops=>induction ops using LC with
   |cons _ _=>exact h.elim
   |nil=>induction xs using LC with
    |nil=>exact h.elim
    |cons x xs=>induction xs using LC with
     |cons _ _=>exact h.elim
     |nil=>
      exact Jv h λhm h=>r0 ((H.e h).mono λa σ₁ h=>(H.e h).mono λb ay h=>λs va vb hR h1 h2=>wpAny_mono (xQ h s va vb hR h1 h2) (λ_ _ zf=>aR zf λt b σ₁ r x q=>(af t b σ₁ r x (g6 q))) λ_ _ y=>y) hm
 |Name x pos=>exact xV ((H.e h).mono λa σ₁ h=>g6 h)
 |Call f es ks pos=>exact xV ((H.e h).mono λa σ₁ h=>g6 h)
 |_=>exact h.h
theorem Ke{r:WR}(H:WR.Ok c A φ env r){Q:List PV->St->Prop}(h:vA r m es V Q)(pos:Pos):WA c A φ env m pos es V Q:=by
 induction es using LC with
 |nil=>exact DC h
 |cons e es=>
  exact Jv h λhs h=>xD ((H.e h).mono λa σ₁ h=>(H.a h pos)) (nj hs _ _)
theorem sY{β α:Type}{R:Heap->β->α->Prop}{f:Value->Value->Sem α}{a b:PV}{Q Q':β->St->Prop}(h:W2 c A ψ R f a b V Q)(k:∀d σ',Q d σ'->Q' d σ'):W2 c A ψ R f a b V Q':=
 λs va vb hR h1 h2=>wpAny_mono (h s va vb hR h1 h2) (λ_ _ zf=>aR zf λt b σ₁ r x q=>(af t b σ₁ r x (k _ _ q))) λ_ _ y=>y
theorem FL{i:Expr}(h:tu i=none):∀ov iv new,augStore i ov iv new=(do holding [new,ov,iv] (setItem ov iv new);release [new,ov,iv] [];pure .next):=by induction i using Expr.casesOn<;>first|(intro _ _ _;rfl)|exact fB h
theorem s9{r:WR}(H:WR.Ok c A φ env r){Q:AF->Map->St->Prop}(h:Ga c A φ env r m st V Q):WS c A φ env st m V Q:=by
 induction st using Stmt.casesOn with
 |Return e pos=>induction e with
  |none=>exact h.elim
  |some e=>exact Br (H.e h)
 |If t b o pos=>exact Pz ((H.t h).mono λb σ₁ h=>oJ h H.s H.s)
 |Assign ts v pos=>induction ts using LC with
  |nil=>exact h.elim
  |cons t ts=>induction ts using LC with
   |cons _ _=>exact h.elim
   |nil=>induction t using Expr.casesOn with
    |Name x p=>
     refine NR h (λhs h=>?_) λ_ h=>h.h;rw[Bool.and_eq_true,Bool.not_eq_true'] at hs;exact qh hs.1 (H.e h) (pJ hs.2 _ _)
    |Attribute o x p=>exact Jv h λhs h=>tH ((H.e h).mono λp σ₁ h=>(H.e h).mono λa ay h=>h.h) (pJ hs _ _)
    |Subscript o i p=>exact Jv h λhs h=>uV ((H.e h).mono λp σ₁ h=>(H.e h).mono λa ay h=>(H.e h).mono λb aD h=>h.h) (pJ hs _ _)
    |_=>exact h.h
 |AugAssign t op v pos=>induction t using Expr.casesOn with
  |Name x p=>
   refine JW h λhs h=>YB h λq hl h=>?_;rw[Bool.and_eq_true] at hs;exact zB hs.1 hs.2 hl ((H.e h).mono λb σ₁ h=>tc h)
  |Attribute o x p=>exact zC ((H.e h).mono λa σ₁ h=>sZ h.h λold ay h=>(H.e h).mono λb aD h=>sY (tc h) λq bB h=>h.h)
  |Subscript o i p=>exact zQ h (λ_ _ f=>f.elim) λhs h=>Bs ((H.e h).mono λa σ₁ h=>(H.e h).mono λb ay h=>sY h.h λold aD h=>(H.e h).mono λd bB h=>sY (tc h) λq cW h=>h.h) (FL hs)
  |_=>exact h.elim
 |Expr e pos=>
  refine Jv h λhs h=>?_;rw[Bool.or_eq_false_iff] at hs;exact Hu (H.e h) hs.1 (pJ hs.2 _ _)
 |_=>exact h.h
theorem J9{r:WR}(H:WR.Ok c A φ env r){l:List Stmt}{Q:AF->Map->St->Prop}(h:vS c A φ env r m l V Q):pg c A φ env l m V Q:=by
 induction l using LC with
 |nil=>exact KA h
 |cons st rest=>
  have h:Ga c A φ env r m st V (Kz r rest Q):=h;refine tG (WX.mono (s9 H h) λa m' σ' h=>?_);induction a with
  |next=>exact H.s h
  |_=>exact h
theorem rX(ft:Ft c)(n:Nat):WR.Ok c A φ env (vR c A φ env n):=by
 induction n with
 |zero=>exact⟨False.elim,False.elim,λh=>h.elim,False.elim⟩
 |succ n H=>exact⟨Ka ft H,J7 H,λh=>Ke H h,J9 H⟩
theorem go(ft:Ft c){l:List Stmt}{Q:AF->Map->St->Prop}(h:(vR c A φ env 100).s m l V Q):pg c A φ env l m V Q:=(rX ft 100).s h
noncomputable def Fv(DV:Map->St->Prop)(Q:AF->Map->St->Prop):AF->Map->St->Prop:=λa m' σ'=>match a with
 |.next=>DV m' σ'
 |a=>Q a m' σ'
theorem cut(ft:Ft c){Q:AF->Map->St->Prop}(DV:Map->St->Prop)(h1:Ga c A φ env (vR c A φ env 100) m st V (Fv DV Q))(h2:∀m' σ',DV m' σ'->(vR c A φ env 100).s m' rest σ' Q):pg c A φ env (st::rest) m V Q:=
 tG (WX.mono (s9 (rX ft 100) h1) λa m' σ' h=>by
  induction a with
  |next=>exact go ft (h2 m' σ' h)
  |_=>exact h)
theorem ZV (ft:Ft c) {st:Stmt} {rest:List Stmt} {Q:AF->Map->St->Prop} (DV:Map->St->Prop) (h1:Ga c A φ env (vR c A φ env 100) m st V λa m' σ'=>match a with
   |.next=>∃mm,DV mm σ'/\Le mm m'
   |a=>Q a m' σ') (h2:∀m' σ',DV m' σ'->(vR c A φ env 100).s m' rest σ' Q):pg c A φ env (st::rest) m V Q:=
 tG (WX.mono (s9 (rX ft 100) h1) λa m' σ' h=>by
  induction a with
  |next=>(refine ah h λmm q1 q2=>?_;clear h);exact WX.less q2 (go ft (h2 mm σ' q1))
  |_=>exact h)
theorem eh(ft:Ft c)(h:(vR c A φ env 100).e m e V Q):WE c A φ env m e V Q:=(rX ft 100).e h
theorem OX(ft:Ft c){Q:Bool->St->Prop}(h:(vR c A φ env 100).t m e V Q):WT c A φ env m e V Q:=(rX ft 100).t h
noncomputable def aaf(Inv:Nat->List PV->St->Prop)(i:Nat)(acc:List PV):PV->St->Prop:=λq aD=>Inv (i+1) (acc++[q]) aD
theorem eU(ft:Ft c){α:Type}{f:α->PV}{l:List α}{k:As}(h1:aO V p k (l.map f))(h2:l.length<=sizeLine)(Inv:Nat->List PV->St->Prop)(h3:Inv 0 [] V)(h4:∀i acc σ',Inv i acc σ'->rn σ' k (l.map f))
  (h7:∀C i v c0,l[i]? =some v->(∀f∈aZ env m::φ,f∈c0)->∀acc σ',Inv i acc σ'->(vR c A c0 (ba scope C env) 100).e (bh (eQ m scope.names) x (f v)) elt σ' (aaf Inv i acc))
  (h8:∀acc σ' D,Inv l.length acc σ'->σ' D=none->Q (.ref D) (upd σ' D (.lst acc))) (hT:∀C,setOk (ba scope C env) x=true:=by intro _;rfl):G4 c A φ env m scope elt (.Name x px) [] (λm v=>bh m x v) Q p V:=
 ⟨k,l.map f,h1,(length_map f).symm▸h2,Inv,h3,h4,λC _ _ _ _ _ _ h=>fM (hT C) h,λm' x y _ _=>de m' _ x y,λC i v c0 hv hs acc σ' hI=>by refine ah (iE hv) λa ha zr=>?_;subst zr;exact jy ((if_pos rfl).mpr (eh ft (h7 C i a c0 ha hs acc σ' hI))),λacc σ' D hI=>h8 acc σ' D ((length_map f)▸hI)⟩
end
end
noncomputable abbrev Row:=List PV
theorem xt(a b:Row):@decide (a=b) (cy a b)=PV.nE a b:=by
 induction h:PV.nE a b with
 |true=>exact @decide_eq_true _ (cy a b) (PV.fJ.mp h)
 |false=>exact @decide_eq_false _ (cy a b) λe=>by rw[PV.fJ.mpr e] at h;exact rB h
noncomputable def idx:List Row->Row->Option Nat
 |[],_=>none
 |a::l,r=>if PV.nE a r then some 0 else (idx l r).map (·+1)
noncomputable def iX:List Row->Nat->List (List PV×PV)
 |[],_=>[]
 |a::l,n=>(a,.int n)::iX l (n+1)
noncomputable abbrev z4(rs:List Row):List (List PV×PV):=iX rs 0
theorem pO:∀(rs:List Row) (r:Row) (n:Nat),@cO _ cy (iX rs n) r=(idx rs r).map λk=>.int ((k+n:Nat):Int)
 |[],_,_=>rfl
 |a::l,r,n=>by
  have ih:=pO l r (n+1);unfold cO at*;simp only[iX,find?_cons,xt,idx] at ih ⊢;induction h:PV.nE a r with
  |true=>simp
  |false=>
   simp only[Bool.false_eq_true,if_false];refine J ih ?_;induction idx l r with
   |none=>rfl
   |some k=>simp;exact K0
theorem IC(rs:List Row)(r:Row):∀n,iX (rs++[r]) n=iX rs n++[(r,.int ((rs.length+n:Nat):Int))]:=by
 induction rs with
 |nil=>intro n;simp[iX]
 |cons a l ih=>intro n;simp only[cons_append,iX,ih];simp;exact K0
theorem IB(rs:List Row):∀n,(iX rs n).length=rs.length:=by
 induction rs with
 |nil=>intro n;rfl
 |cons a l ih=>intro n;exact(λ{a b}=>Nat.succ_inj.mpr) (ih (n+1))
noncomputable def w7(rs:List Row)(r:Row):List Row:=match idx rs r with
 |some _=>rs
 |none=>rs++[r]
noncomputable def putK(rs:List Row)(r:Row):Nat:=match idx rs r with
 |some k=>k
 |none=>rs.length
set_option genInjectivity false in
structure TA where
 x:Addr
 d:Addr
 rows:Addr
 index:Addr
 decls:Addr
 bounds:Addr
 defaults:Addr
 names:Addr
 origins:Addr
 renamed:Addr
noncomputable def TA.map(t:TA):Map:=[("rows",.ref t.rows),("index",.ref t.index),("decls",.ref t.decls),("bounds",.ref t.bounds),("defaults",.ref t.defaults),("names",.ref t.names),("origins",.ref t.origins),("renamed",.ref t.renamed),("shaping",.int 0),("putting",.int 0)]
structure Tab (t:TA) (V:St) (rs:List Row) (bs:List PV):Prop where
 x:V t.x=some (.inst 123 t.d)
 d:V t.d=some (.dh t.map)
 rows:V t.rows=some (.lst (rs.map .tup))
 index:V t.index=some (.dT (z4 rs))
 bounds:V t.bounds=some (.lst bs)
 bne:t.bounds≠t.rows
def Fix(t:TA)(V σ':St):Prop:=∀a o,V a=some o->a≠t.rows->a≠t.index->σ' a=some o
theorem Fix.refl{t:TA}:Fix t V V:=λ_ _ e _ _=>e
theorem Fix.trans{t:TA}{av:St}(x:Fix t V σ')(y:Fix t σ' av):Fix t V av:=λa o e h1 h2=>y a o (x a o e h1 h2) h1 h2
theorem Fix.new{t:TA}(h:V a=none):Fix t V (upd V a o):=λb o' e _ _=>ai h e
section
variable {t:TA} {rs:List Row}
theorem Tab.fixed(T:Tab t V rs bs)(h:∀a o,V a=some o->σ' a=some o):Tab t σ' rs bs:=⟨h _ _ T.x,h _ _ T.d,h _ _ T.rows,h _ _ T.index,h _ _ T.bounds,T.bne⟩
theorem Tab.new(T:Tab t V rs bs)(h:V a=none):Tab t (upd V a o) rs bs:=T.fixed λ_ _ e=>ai h e
theorem Tab.ne(T:Tab t V rs bs):t.x≠t.rows/\t.x≠t.index/\t.d≠t.rows/\t.d≠t.index/\t.rows≠t.index/\t.bounds≠t.index:=by
 refine dZ (λe=>?_) (λe=>?_) (λe=>?_) (λe=>?_) (λe=>?_) (λe=>?_)
 ·have:=T.x;rw[e,T.rows] at this;exact kB this
 ·have:=T.x;rw[e,T.index] at this;exact kB this
 ·have:=T.d;rw[e,T.rows] at this;exact kB this
 ·have:=T.d;rw[e,T.index] at this;exact kB this
 ·have:=T.rows;rw[e,T.index] at this;exact kB this
 ·have:=T.bounds;rw[e,T.index] at this;exact kB this
theorem ni(ft:Ft c)(T:Tab t V rs bs)(hm:x∈pI)(hx:dB t.map x=some p)(h:Q p V):W1 c A φ Vr (λo=>getAttr o x true) (.ref t.x) V Q:=
 pP ft.ok T.x T.d (ft.tt.at_ x hm).1 ft.tt.Jq (ft.tt.at_ x hm).2.2 hx h
theorem di(ft:Ft c)(T:Tab t V rs bs)(h:Q (.ref t.rows) V):W1 c A φ Vr (λo=>getAttr o "rows" true) (.ref t.x) V Q:=ni ft T (by decide) rfl h
theorem y1(ft:Ft c)(T:Tab t V rs bs)(h:Q (.ref t.index) V):W1 c A φ Vr (λo=>getAttr o "index" true) (.ref t.x) V Q:=ni ft T (by decide) rfl h
theorem rj(ft:Ft c)(T:Tab t V rs bs)(h:Q (.ref t.bounds) V):W1 c A φ Vr (λo=>getAttr o "bounds" true) (.ref t.x) V Q:=ni ft T (by decide) rfl h
theorem BB(ft:Ft c)(hA:Rm 2 A)(T:Tab t V rs bs){row:Row}(h1:PV.keys row=true)(h2:PV.jn row<=6)(hz:rs.length<1000000)
  (h:∀σ',Tab t σ' (w7 rs row) bs->Fix t V σ'->(∀a,V a=none->σ' a=none)->Q (.int (putK rs row)) σ'):aw c A φ (.ref 120) [.ref t.x,.tup row] V Q:=by
 have zl:sizeLine=2^24:=rfl;refine(oF ft (hA:Rm (1+1) A) (ft.tt.ms _ (.head _)).2.2.2.1 rfl rfl rfl (pF λ_ _=>rfl) rfl λL A' aG=>go ft ?_).toS;refine⟨y1 ft T ⟨YO ft.sys aG T.index h1 h2 ?_⟩⟩;refine J (pO _ _ _) ?_;induction hi:idx rs row with
 |some k=>
  refine⟨y1 ft T ⟨ZD aG T.index h1 h2 (p:=.int k) (by refine J (pO _ _ _) (J hi ?_);rfl) ?_⟩⟩;have e1:w7 rs row=rs:=by unfold w7;exact J hi rfl
  have e2:putK rs row=k:=by unfold putK;exact J hi rfl
  have:=h V (by refine J e1 ?_;exact T) Fix.refl λ_ e=>e;rw[e2] at this;exact this
 |none=>
  refine⟨di ft T ⟨iJ T.rows (by refine J (length_map _) (?_);exact HY hz zl) ?_⟩⟩;refine⟨di ft T ⟨_,_,bD T.rows,a9,⟨bN T.rows (by refine J (length_map _) (?_);exact HY hz zl) ?_⟩⟩⟩;have e1:w7 rs row=rs++[row]:=by unfold w7;exact J hi rfl
  have e2:putK rs row=rs.length:=by unfold putK;exact J hi rfl
  refine j6 T.ne λn1 n2 n3 n4 n5 n6=>?_;have g1:∀a o,a≠t.rows->V a=some o->upd V t.rows (.lst (rs.map .tup++[.tup row])) a=some o:=λa o gL e=>by refine J (aB gL) ?_;exact e
  refine⟨pP ft.ok (g1 _ _ n1 T.x) (g1 _ _ n3 T.d) (ft.tt.at_ "index" (by decide)).1 ft.tt.Jq (ft.tt.at_ "index" (by decide)).2.2 (name:="index") rfl ?_⟩;refine⟨Px aG (g1 _ _ (Ne.symm n5) T.index) h1 h2 (by refine J (IB _ _) ?_;exact HY hz zl) ?_⟩;have hk:@cO _ cy (z4 rs) row=none:=by refine J (pO _ _ _) (J hi ?_);rfl
  have ek:@dk _ cy (z4 rs) row (.int ((rs.map PV.tup).length:Nat))=z4 (rs++[row]):=by unfold dk;refine J hk (J (show z4 (rs++[row])=iX (rs++[row]) 0 from rfl) (J (IC _ _ _) ?_));simp
  refine J ek ?_;have:=h (upd (upd V t.rows (.lst (rs.map .tup++[.tup row]))) t.index (.dT (z4 (rs++[row])))) ?_ ?_ ?_
  ·rw[e2] at this
   refine(?_:Q (.int ((rs.map PV.tup).length:Nat)) _);refine J (length_map _) ?_;exact this
  ·refine J e1 ?_
   refine⟨?_,?_,?_,ae,?_,T.bne⟩
   ·refine J (aB n2) ?_;exact g1 _ _ n1 T.x
   ·refine J (aB n4) ?_;exact g1 _ _ n3 T.d
   ·refine J (aB n5) (J ae (J map_append ?_));rfl
   ·refine J (aB n6) ?_;exact g1 _ _ T.bne T.bounds
  ·intro a o e q1 q2
   refine J (aB q2) ?_;exact g1 _ _ q1 e
  ·intro a e
   rw[aB (by rintro rfl;rw[T.index] at e;exact fB e),aB (by rintro rfl;rw[T.rows] at e;exact fB e)];exact e
end
inductive RK where
 |key (x:Str)
 |bool (v f:Nat)
 |str (l:LN) (f:Nat)
 |num (i:Int) (f:Nat)
 |obj
 |mj (ks:LN)
 |par (i:Nat)
 |eG (ts:List LN) (ks:LN)
 deriving DecidableEq
theorem Oj{a b:RK}(h:a=b)(e:Nat.beq a.ctorIdx b.ctorIdx=false:=by rfl):G:=MK RK.ctorIdx h e
theorem Ew{a b:RK}(h:some a=some b)(e:Nat.beq a.ctorIdx b.ctorIdx=false:=by rfl):G:=MK RK.ctorIdx (sI h) e
noncomputable abbrev pid(k:Nat):PV:=.int (k:Int)
noncomputable abbrev aC(l:LN):PV:=.str (S l)
noncomputable def RK.row:RK->Row
 |.key x=>[.int 1,.str x]
 |.bool v f=>[.int 2,pid v,pid f]
 |.str l f=>[.int 3,aC l,pid f]
 |.num i f=>[.int 4,.int i,pid f]
 |.obj=>[.int 8,.tup [],.tup [],.tup [],.tup [],.tup [],.int 0]
 |.mj ks=>[.int 6,.tup (ks.map pid)]
 |.par i=>[.int 10,pid i]
 |.eG ts ks=>[.int 18,.tup (ts.map aC),.tup (ks.map pid)]
noncomputable def yi(p:PV):Nat:=match p with
 |.int i=>i.toNat
 |_=>0
noncomputable def pvI(p:PV):Int:=match p with
 |.int i=>i
 |_=>0
noncomputable def Gk(p:PV):Str:=match p with
 |.str x=>x
 |_=>⟨#[]⟩
noncomputable def pvL(p:PV):LN:=(Gk p).cps.toList
noncomputable def PG(p:PV):List PV:=match p with
 |.tup l=>l
 |_=>[]
noncomputable def RK.un(r:Row):RK:=
 cond (Nat.beq (yi (r.getD 0 .none)) 1) (.key (Gk (r.getD 1 .none))) (cond (Nat.beq (yi (r.getD 0 .none)) 2) (.bool (yi (r.getD 1 .none)) (yi (r.getD 2 .none)))
 (cond (Nat.beq (yi (r.getD 0 .none)) 3) (.str (pvL (r.getD 1 .none)) (yi (r.getD 2 .none))) (cond (Nat.beq (yi (r.getD 0 .none)) 4) (.num (pvI (r.getD 1 .none)) (yi (r.getD 2 .none)))
 (cond (Nat.beq (yi (r.getD 0 .none)) 8) .obj (cond (Nat.beq (yi (r.getD 0 .none)) 6) (.mj ((PG (r.getD 1 .none)).map yi))
 (cond (Nat.beq (yi (r.getD 0 .none)) 10) (.par (yi (r.getD 1 .none))) (.eG ((PG (r.getD 1 .none)).map pvL) ((PG (r.getD 2 .none)).map yi))))))))
theorem qt{α:Type}{f:α->PV}{g:PV->α}(h:∀a,g (f a)=a)(l:List α):(l.map f).map g=l:=by rw[map_map];exact(map_congr_left λa _=>h a).trans (map_id l)
theorem RK.AR(a:RK):RK.un a.row=a:=by
 induction a with
 |mj ks=>exact congrArg RK.mj (qt (λ_=>rfl) ks)
 |eG ts ks=>exact congr (congrArg RK.eG (qt (λ_=>rfl) ts)) (qt (λ_=>rfl) ks)
 |_=>rfl
theorem RK.Et{a b:RK}(h:a.row=b.row):a=b:=(RK.AR a).symm.trans ((congrArg RK.un h).trans (RK.AR b))
theorem nv(ks:LN):PV.keys (ks.map pid)=true:=by induction ks with|nil=>rfl|cons a r ih=>trivial
theorem qz(ks:List LN):PV.keys (ks.map aC)=true:=by induction ks with|nil=>rfl|cons a r ih=>trivial
theorem nI(ks:LN):PV.jn (ks.map pid)=0:=by induction ks with|nil=>rfl|cons a r ih=>trivial
theorem vP(ks:List LN):PV.jn (ks.map aC)=0:=by induction ks with|nil=>rfl|cons a r ih=>trivial
theorem RK.keys(r:RK):PV.keys r.row=true:=by induction r<;>simp[RK.row,PV.keys,PV.key,nv,qz]
theorem RK.jn(r:RK):PV.jn r.row<=6:=by induction r<;>simp[RK.row,PV.jn,PV.dep,nI,vP]
noncomputable def vn:List RK->RK->Option Nat
 |[],_=>none
 |a::l,r=>if a=r then some 0 else (vn l r).map (·+1)
noncomputable def cJ(rs:List RK)(r:RK):List RK:=match vn rs r with
 |some _=>rs
 |none=>rs++[r]
noncomputable def dN(rs:List RK)(r:RK):Nat:=match vn rs r with
 |some k=>k
 |none=>rs.length
theorem yG(rs:List RK)(r:RK):idx (rs.map RK.row) r.row=vn rs r:=by
 induction rs with
 |nil=>rfl
 |cons a l ih=>
  simp only[map_cons,idx,vn,ih]
  by_cases e:a=r
  ·rw[if_pos (PV.fJ.mpr (by exact J e rfl)),if_pos e]
  ·exact J (if_neg (λq=>e (RK.Et (PV.fJ.mp q)))) (J (if_neg e) rfl)
theorem BC(rs:List RK)(r:RK):w7 (rs.map RK.row) r.row=(cJ rs r).map RK.row:=by unfold w7 cJ;refine J (yG _ _) ?_;induction vn rs r<;>simp
theorem BD(rs:List RK)(r:RK):putK (rs.map RK.row) r.row=dN rs r:=by unfold putK dN;refine J (yG _ _) ?_;induction vn rs r<;>simp
theorem yC:∀{rs:List RK} {r:RK} {k:Nat},vn rs r=some k->rs[k]? =some r
 |a::l,r,k,h=>by
  unfold vn at h
  split at h
  ·rename_i e;obtain rfl:=sI h;simp[e]
  ·induction q:vn l r with
   |none=>rw[q] at h;exact bL h
   |some j=>rw[q] at h;obtain rfl:=sI h;simpa using yC q
theorem du(rs:List RK)(r:RK):(cJ rs r)[dN rs r]? =some r:=by
 unfold cJ dN;induction h:vn rs r with
 |some k=>exact yC h
 |none=>exact getElem?_concat_length
theorem dq(rs:List RK)(r:RK):rs<+:cJ rs r:=by
 unfold cJ;induction vn rs r with
 |some k=>exact prefix_rfl
 |none=>exact prefix_append _ _
theorem d7(rs:List RK)(r:RK):(cJ rs r).length<=rs.length+1:=by unfold cJ;induction vn rs r<;>simp
section
variable {t:TA} {rs:List RK}
abbrev dc(t:TA)(V:St)(rs:List RK)(bs:List PV):Prop:=Tab t V (rs.map RK.row) bs
abbrev Ar(V σ':St):Prop:=∀a,V a=none->σ' a=none
theorem jf(ft:Ft c)(hA:Rm 2 A)(T:dc t V rs bs)(r:RK)(hz:rs.length<1000000)
  (h:∀σ',dc t σ' (cJ rs r) bs->Fix t V σ'->Ar V σ'->Q (pid (dN rs r)) σ'):aw c A φ (.ref 120) [.ref t.x,.tup r.row] V Q:=
 BB ft hA T r.keys r.jn (by simpa using hz) λσ' T' F N=>by rw[BC] at T';refine J (BD _ _) ?_;exact h σ' T' F N
noncomputable def aF(rs:List RK)(k:Nat):LN:=if k=2 then [] else match rs[k]? with
 |some (.mj ks)=>ks
 |_=>[k]
theorem fa(T:dc t V rs bs){r:RK}(h:rs[k]? =some r)(hz:rs.length<1000000)(hq:Q (.tup r.row) V)
  (hs:∀u,subscripted slice false (Value.ref t.rows) (Value.int (k:Int) u)=operate [Value.ref t.rows,Value.int (k:Int) u] (getItem (Value.ref t.rows) (Value.int (k:Int) u)):=by intro _;rfl):W2 c A φ Vr (subscriptTail value slice) (.ref t.rows) (.int k) V Q:=by
 have:=ar h;exact cG T.rows (by refine J getElem?_map (J getElem?_map (J h ?_));rfl) (by exact Qy hz this) hq hs
noncomputable def RK.no:RK->Int
 |.key _=>1
 |.bool _ _=>2
 |.str _ _=>3
 |.num _ _=>4
 |.obj=>8
 |.mj _=>6
 |.par _=>10
 |.eG _ _=>18
theorem eI{value:Expr}{r:RK}(h:Q (.int r.no) V)(hs:∀t u,subscripted slice false (Value.ref t) (Value.int 0 u)=operate [Value.ref t,Value.int 0 u] (getItem (Value.ref t) (Value.int 0 u)):=by intro _ _;rfl):
  W2 c A φ Vr (subscriptTail value slice) (.tup r.row) (.int 0) V Q:=jb (j:=0) (p:=.int r.no) (by induction r<;>rfl) (by induction r<;>rfl) (by decide) (by decide) h hs
theorem pL(ft:Ft c)(hA:Rm 1 A)(T:dc t V rs bs){r:RK}(hr:rs[k]? =some r)(hz:rs.length<1000000)
  (h:Q (.tup ((aF rs k).map pid)) V):aw c A φ (.ref 158) [.ref t.x,pid k] V Q:=by
 refine enter ft "parts_of" (hA:Rm (0+1) A) rfl rfl rfl rfl (pF λ_ _=>rfl) rfl λL A' aG=>go ft ?_;unfold aF at h;refine bZ (λe=>?_) λe=>?_
 ·have e:((k:Int)==2)=true:=e
  rw[if_pos (by have:=eq_of_beq e;exact Qx this)] at h;exact h
 have e:((k:Int)==2)=false:=e;rw[if_neg (λq=>by subst q;exact rB e),hr] at h;refine⟨di ft T ⟨fa T hr hz ⟨eI ?_⟩⟩⟩;induction r with
 |mj ks=>exact⟨jb (j:=1) rfl rfl (by decide) (by decide) h⟩
 |_=>exact h
end
variable {t:TA} {r:RK} {rs aW:List RK}
section
theorem fX(ft:Ft c)(T:dc t V rs bs):Meth c A φ V (.ref t.x) "put" (.ref 120) [.ref t.x]:=
 let m:=ft.tt.ms _ (.head _)
 tO ft.ok T.x T.d m.1 m.2.1 m.2.2.1 rfl
theorem dJ(ft:Ft c):Keeps c (.ref 120):=ic (ft.tt.ms _ (.head _)).2.2.2.2
theorem AZ(ft:Ft c)(hA:Rm 3 A)(T:dc t V rs bs){f:Nat}(hz:rs.length<1000000)
  (h:∀σ',dc t σ' (cJ rs (.str l f)) bs->Fix t V σ'->Ar V σ'->Q (pid (dN rs (.str l f))) σ'):aw c A φ (.ref 135) [.ref t.x,aC l,pid f] V Q:=by
 refine pT ft.d1 λoc od oe k tk hT=>?_;refine oG ft "str_type" (hA:Rm (2+1) A) rfl rfl rfl rfl rfl (mm:=[("tab",.ref t.x),("text",aC l),("fresh",pid f)]) (λs vs X hv=>?_) rfl λL A' aG=>go ft ?_
 ·refine fy (y7 hv) λa1 a2 a3 au r1 r2 r3=>?_;subst au
  exact aj _ (BindsTo.of_defaults rfl (X _ _ hT) rfl rfl rfl) (.cons r1 (.cons r2 (.cons r3 .nil)))
 ·exact⟨_,_,fX ft T,dJ ft,⟨jf ft aG.le T (.str l f) hz h⟩⟩
theorem wQ(ft:Ft c)(hA:Rm 3 A)(T:dc t V rs bs)(hz:rs.length<1000000)
  (h:∀σ',dc t σ' (cJ rs (.str l 0)) bs->Fix t V σ'->Ar V σ'->Q (pid (dN rs (.str l 0))) σ'):aw c A φ (.ref 135) [.ref t.x,aC l] V Q:=by
 refine pT ft.d1 λoc od oe k tk hT=>?_;refine oG ft "str_type" (hA:Rm (2+1) A) rfl rfl rfl rfl rfl (mm:=[("tab",.ref t.x),("text",aC l),("fresh",pid 0)]) (λs vs X hv=>?_) rfl λL A' aG=>go ft ?_
 ·refine aV (pq hv) λa1 a2 au r1 r2=>?_;subst au
  exact aj _ (BindsTo.of_defaults rfl (X _ _ hT) rfl rfl rfl) (.cons r1 (.cons r2 (.cons (.int 0 tk) .nil)))
 ·exact⟨_,_,fX ft T,dJ ft,⟨jf ft aG.le T (.str l 0) hz h⟩⟩
theorem BM(ft:Ft c)(hA:Rm 3 A)(T:dc t V rs bs){i:Int}{f:Nat}(hz:rs.length<1000000)
  (h:∀σ',dc t σ' (cJ rs (.num i f)) bs->Fix t V σ'->Ar V σ'->Q (pid (dN rs (.num i f))) σ'):aw c A φ (.ref 143) [.ref t.x,.int i,pid f] V Q:=by
 refine pT ft.d2 λoc od oe k tk hT=>?_;refine oG ft "num_type" (hA:Rm (2+1) A) rfl rfl rfl rfl rfl (mm:=[("tab",.ref t.x),("n",.int i),("fresh",pid f)]) (λs vs X hv=>?_) rfl λL A' aG=>go ft ?_
 ·refine fy (y7 hv) λa1 a2 a3 au r1 r2 r3=>?_;subst au
  exact aj _ (BindsTo.of_defaults rfl (X _ _ hT) rfl rfl rfl) (.cons r1 (.cons r2 (.cons r3 .nil)))
 ·exact⟨_,_,fX ft T,dJ ft,⟨jf ft aG.le T (.num i f) hz h⟩⟩
theorem BN(ft:Ft c)(hA:Rm 3 A)(T:dc t V rs bs){i:Int}(hz:rs.length<1000000)
  (h:∀σ',dc t σ' (cJ rs (.num i 0)) bs->Fix t V σ'->Ar V σ'->Q (pid (dN rs (.num i 0))) σ'):aw c A φ (.ref 143) [.ref t.x,.int i] V Q:=by
 refine pT ft.d2 λoc od oe k tk hT=>?_;refine oG ft "num_type" (hA:Rm (2+1) A) rfl rfl rfl rfl rfl (mm:=[("tab",.ref t.x),("n",.int i),("fresh",pid 0)]) (λs vs X hv=>?_) rfl λL A' aG=>go ft ?_
 ·refine aV (pq hv) λa1 a2 au r1 r2=>?_;subst au
  exact aj _ (BindsTo.of_defaults rfl (X _ _ hT) rfl rfl rfl) (.cons r1 (.cons r2 (.cons (.int 0 tk) .nil)))
 ·exact⟨_,_,fX ft T,dJ ft,⟨jf ft aG.le T (.num i 0) hz h⟩⟩
noncomputable def dC:RK->Int
 |.str _ _=>6
 |.eG _ _=>6
 |.num _ _=>7
 |_=>-1
theorem sX(ft:Ft c)(hA:Rm 1 A)(h:Q (.int (dC r)) V):aw c A φ (.ref 165) [.tup r.row] V Q:=by refine enter ft "whole_of_row" (hA:Rm (0+1) A) rfl rfl rfl rfl (Dq λ_=>rfl) rfl λL A' aG=>go ft ?_;refine⟨eI ?_⟩;induction r<;>exact h
end
section
variable {l:List (Int×PV)}
noncomputable def bV(l:List (Int×PV))(k:Int):Bool:=(cO l k).isSome
noncomputable def ki(l:List (Int×PV)):Int:=if bV l 0 then 0 else if bV l 13 then 13 else if bV l 1 then 1 else-1
theorem Kj(ft:Ft c)(hA:Rm 1 A)(e:V d=some (.dI l))(h:Q (.int (ki l)) V):aw c A φ (.ref 193) [.ref d] V Q:=by
 refine enter ft "top_of" (hA:Rm (0+1) A) rfl rfl rfl rfl (Dq λ_=>rfl) rfl λL A' aG=>go ft ⟨bP aG.handled (by rfl) (eh ft ?_)⟩;refine⟨_,_,aO.tup _,λi m' σ'=>m'=[(("got":Str),PV.ref d)]/\V=σ'/\(0<i->bV l 0=false)/\(1<i->bV l 13=false)/\(2<i->bV l 1=false),(aQ rfl rfl (λh=>absurd h (by decide)) (λh=>absurd h (by decide)) (λh=>absurd h (by decide))),λ_ _ _ _=>rfl,λi v c0 hv cw mm σ' zq=>go ft ?_,λmm σ' zq=>go ft ?_⟩
 ·refine cF zq λe1 e2 h0 h1 h2=>?_;clear zq
  subst e1 e2
  have key:∃k:Int,v=.int k/\(bV l k=true->ki l=k)/\(bV l k=false->(0<i+1->bV l 0=false)/\(1<i+1->bV l 13=false)/\(2<i+1->bV l 1=false)):=by
   match i,hv with
   |0,hv=>obtain rfl:=sI hv;exact(bb 0 rfl (λq=>by unfold ki;refine J (show bV l 0=true from q) ?_;rfl) (λq=>(aN (λ_=>q) (λz=>absurd z (by decide)) (λz=>absurd z (by decide)))))
   |1,hv=>obtain rfl:=sI hv;exact(bb 13 rfl (λq=>by unfold ki;refine J (h0 (by decide)) (J (show bV l 13=true from q) ?_);rfl) (λq=>(aN (λ_=>h0 (by decide)) (λ_=>q) (λz=>absurd z (by decide)))))
   |2,hv=>obtain rfl:=sI hv;exact(bb 1 rfl (λq=>by unfold ki;refine J (h0 (by decide)) (J (h1 (by decide)) (J (show bV l 1=true from q) ?_));rfl) (λq=>(aN (λ_=>h0 (by decide)) (λ_=>h1 (by decide)) (λ_=>q))))
   |i+3,hv=>exact bL hv
  refine aK key λk e1 e2 e3=>?_;clear key;subst e1;refine⟨EW ft.sys e (bZ (λhk=>?_) λhk=>(jt _ rfl rfl (e3 hk) (Le.new rfl)))⟩;rw[e2 hk] at h;exact h
 ·refine cF zq λe1 e2 h0 h1 h2=>?_;clear zq
  subst e1 e2;unfold ki at h;rw[h0 (by decide),h1 (by decide),h2 (by decide)] at h;exact h
theorem IA(ft:Ft c)(hA:Rm 1 A)(e:V d=some (.dI l))(h8:bV l 8=false)(yJ:bV l 14=false)(h:Q .none V):aw c A φ (.ref 179) [.ref d] V Q:=by refine enter ft "join_bools" (hA:Rm (0+1) A) rfl rfl rfl rfl (Dq λ_=>rfl) rfl λL A' aG=>go ft ?_;exact⟨EW ft.sys e (nR h8 ⟨EW ft.sys e (nR yJ h)⟩)⟩
noncomputable def RK.fresh:RK->Bool
 |.bool _ f=>f==1
 |.str _ f=>f==1
 |.num _ f=>f==1
 |_=>false
theorem He(ft:Ft c)(hA:Rm 1 A)(T:dc t V rs bs)(hr:rs[k]? =some r)(hf:r.fresh=false)(hz:rs.length<1000000)(h:Q (.int (-1)) V):aw c A φ (.ref 172) [.ref t.x,pid k] V Q:=by
 refine enter ft "regular_twin" (hA:Rm (0+1) A) rfl rfl rfl rfl (pF λ_ _=>rfl) rfl λL A' aG=>go ft ?_;refine⟨di ft T ⟨fa T hr hz ⟨eI ⟨ig aG rfl rfl (by decide) ?_⟩⟩⟩⟩
 have OS:∀f:Nat,(f==1)=false->(((f:Nat):Int)==1)=false:=λf q=>by rw[beq_eq_false_iff_ne] at q ⊢;exact Qw q
 induction r with
 |key _|mj _|par _|eG _ _=>exact h
 |bool v f|str v f|num v f=>exact⟨jb (k:=-1) (j:=2) (p:=pid f) rfl rfl (by decide) (by decide) (nR (OS f hf) h)⟩
 |obj=>exact⟨jb (k:=-1) (j:=6) (p:=.int 0) rfl rfl (by decide) (by decide) h⟩
theorem El(ft:Ft c)(hA:Rm 2 A)(T:dc t V rs bs)(e:V d=some (.dI l))(hr:rs[k]? =some r)(hf:r.fresh=false)(hn:bV l (-1)=false)(hz:rs.length<1000000)
  (h:Q (.bool (!bV l (dC r))) V):aw c A φ (.ref 186) [.ref t.x,.ref d,pid k] V Q:=by
 refine enter ft "stays_beside" (hA:Rm (1+1) A) rfl rfl rfl rfl (wI λ_ _ _=>rfl) rfl λL A' aG=>go ft ?_;exact⟨He ft aG T hr hf hz ⟨EW ft.sys e (nR hn ⟨di ft T ⟨fa T hr hz ⟨sX ft aG ⟨yq ft.sys e h⟩⟩⟩⟩)⟩⟩
end
noncomputable def aU(l:List (Int×PV))(ks:LN):List (Int×PV):=ks.foldl (λ(acc:List (Int×PV)) (k:Nat)=>dk acc (k:Int) (.int 1)) l
theorem mO(l:List (Int×PV))(a b:LN):aU l (a++b)=aU (aU l a) b:=by unfold aU;exact J foldl_append rfl
noncomputable def bO(rs:List RK)(ks:LN):LN:=ks.flatMap (aF rs)
section
variable {l:List (Int×PV)}
theorem zX{l:List (Int×PV)}{x:Int}{p:PV}:(dk l x p).length<=l.length+1:=by unfold dk;split<;>simp
theorem mN:∀(ks:LN) (l:List (Int×PV)),(aU l ks).length<=l.length+ks.length
 |[],_=>Nat.le_refl _
 |k::r,l=>by unfold aU;refine J foldl_cons ?_;have:=mN r (dk l (k:Int) (.int 1));have h2:=@zX l (k:Int) (.int 1);unfold aU at this;simp only[length_cons];exact Qv this h2
theorem oY:∀(ks:LN) (l:List (Int×PV)),l.length<=(aU l ks).length
 |[],_=>Nat.le_refl _
 |k::r,l=>by
  unfold aU;refine J foldl_cons ?_;have:=oY r (dk l (k:Int) (.int 1));have h2:l.length<=(dk l (k:Int) (.int 1)).length:=by unfold dk;split<;>simp
  unfold aU at this;exact K4 this h2
theorem vJ(h:ks[i]? =some k)(j:Nat):(aU (aU [] (bO rs (ks.take i))) ((aF rs k).take j)).length<=(aU [] (bO rs ks)).length:=by
 have e:bO rs ks=(bO rs (ks.take i)++(aF rs k).take j)++((aF rs k).drop j++bO rs (ks.drop (i+1))):=by
  have ja:=ar h
  have e1:ks=ks.take i++k::ks.drop (i+1):=by
   have:ks[i]=k:=by rw[getElem?_eq_getElem ja] at h;exact sI h
   exact rS this (rS (drop_eq_getElem_cons ja) (J (take_append_drop _ _) rfl))
  conv=>lhs;rw[e1]
  unfold bO;refine J flatMap_append (J flatMap_cons ?_);simp only[append_assoc]
  congr 1
  exact rS (append_assoc _ _ _) (J (take_append_drop _ _) rfl)
 refine J e (J (mO (l:=[]) (a:=bO rs (ks.take i)++(aF rs k).take j) _) (J (mO (l:=[]) (a:=bO rs (ks.take i)) _) ?_));exact oY _ _
theorem vk{l:List (Int×PV)}{x y:Int}(h:bV l y=true):bV (dk l x p) y=true:=by
 unfold bV cO dk at*
 split
 ·refine J find?_map ?_
  simp only[Option.isSome_map] at h ⊢;rw[find?_isSome] at h ⊢;refine ah h λz h1 h2=>?_;clear h;refine(aj z h1 ?_);simp only[Function.comp] at h2 ⊢
  split<;>exact h2
 ·refine J find?_append ?_
  simp only[Option.isSome_map] at h ⊢;exact J Option.isSome_or (J h (J (Bool.true_or _) rfl))
theorem lJ{o':AO}:upd (upd V a o) a o'=upd V a o':=by funext x;unfold upd;split<;>rfl
def Aq(rs:List RK)(G:List (Int×PV))(aW:List RK)(v:Nat):Prop:=
 (0<=ki G/\(v:Int)=ki G/\aW=rs)∨(ki G<0/\∃ns:List Int,ns.Perm (G.map (·.1))/\ns.Pairwise (·<=·)/\∃kept:LN,kept.map (λk:Nat=>(k:Int))=ns.filter (λi=>match rs[i.toNat]? with|some r=>!bV G (dC r)|none=>false)/\
  ((kept=[]/\v=2/\aW=rs)∨(kept=[v]/\aW=rs)∨(2<=kept.length/\v=dN rs (.mj kept)/\aW=cJ rs (.mj kept))))
theorem xR(ft:Ft c)(hA:Rm 4 A)(T:dc t V rs bs){ks:LN}(e:V a=some (.lst (ks.map pid)))(mK:∀k∈ks,∃r,rs[k]? =some r)(hz:rs.length<1000000)(hg:(aU [] (bO rs ks)).length<64)(h8:bV (aU [] (bO rs ks)) 8=false)(yJ:bV (aU [] (bO rs ks)) 14=false)(hn:bV (aU [] (bO rs ks)) (-1)=false)
  (IY:∀x∈(aU [] (bO rs ks)).map (·.1),∃k:Nat,x=(k:Int)/\∃r,rs[k]? =some r/\r.fresh=false) {Q:PV->St->Prop}
  (h:∀σ' aW v,dc t σ' aW bs->Fix t V σ'->Aq rs (aU [] (bO rs ks)) aW v->Q (pid v) σ'):aw c A φ (.ref 198) [.ref t.x,.ref a] V Q:=by
 refine enter ft "union" (hA:Rm (3+1) A) rfl rfl rfl rfl (pF λ_ _=>rfl) rfl λL A' aG=>go ft ⟨lV (.dI []) .i λd hd=>?_⟩;have ead:a≠d:=by rintro rfl;rw[hd] at e;exact bL e
 have kd:∀l' x o,V x=some o->upd V d (.dI l') x=some o:=λl' x o q=>ai hd q;refine⟨bP aG.handled (by rfl) (eh ft ?_)⟩;refine⟨_,_,aO.lst (kd _ _ _ e),λi m' σ'=>m'=[(("tab":Str),PV.ref t.x),("parts",.ref a),("got",.ref d)]/\σ'=upd V d (.dI (aU [] (bO rs (ks.take i)))),⟨rfl,rfl⟩,λi m' σ' zq=>by(refine aA zq λ_ q=>?_;clear zq);refine J q ?_;exact kd _ _ _ e,λi v c0 hv cw mm σ' zf=>aA zf λe1 e2=>go ft ⟨bP aG.handled (by rfl) (eh ft ?_)⟩,λmm σ' zq=>go ft ?_⟩
 ·subst e1 e2
  refine ah (iE hv) λk hk zr=>?_;clear hv;subst zr;refine bK (mK k (mem_of_getElem? hk)) λr hr=>?_;refine⟨pL ft aG.le (T.fixed (kd _)) hr hz ?_⟩;refine⟨_,_,aO.tup _,λj m' σ'=>m'=bh [(("tab":Str),PV.ref t.x),("parts",.ref a),("got",.ref d)] "t" (pid k)/\σ'=upd V d (.dI (aU (aU [] (bO rs (ks.take i))) ((aF rs k).take j))),⟨rfl,by simp[aU]⟩,λ_ _ _ _=>rfl,λj v n8 hv nB mm σ' zq=>go ft ?_,λmm σ' zq=>go ft ?_⟩
  ·refine aA zq λe1 e2=>?_;clear zq
   subst e1 e2;rw[getElem?_map] at hv;induction hq:(aF rs k)[j]? with
   |none=>rw[hq] at hv;exact bL hv
   |some q=>
    rw[hq] at hv;obtain rfl:=sI hv;refine⟨Hs ae ?_ ?_⟩
    ·have:=vJ (rs:=rs) hk j
     refine J sizeLine_eq ?_;exact Qu hg this
    ·refine cK _ rfl ?_ (Le.new rfl)
     refine J lJ (J take_add_one (J hq ?_));unfold aU;simp
  ·refine aA zq λe1 e2=>?_;clear zq
   subst e1 e2;refine(cK _ rfl ?_ (Le.new rfl));refine J take_add_one (J hk ?_);unfold bO;simp[mO]
 refine aA zq λe1 e2=>?_;clear zq;subst e1 e2;have e0:ks.take (ks.map pid).length=ks:=by exact J (length_map _) (J take_length (rfl))
 refine J e0 ?_;generalize hG:aU [] (bO rs ks)=G at hg h8 yJ hn IY h ⊢;refine⟨Kj ft aG.le ae (bZ (λht=>?_) λht=>⟨IA ft aG.le ae h8 yJ ⟨gU (λm v=>bh m "t" v) aG.handled (by rfl) (by rfl) (by rfl) (eh ft ⟨r9 ft.sys aG.handled ae hg λb ns hb hp hs=>?_⟩)⟩⟩)⟩
 ·have ht:0<=ki G:=of_decide_eq_true ht
  have:=h (upd V d (.dI G)) rs (ki G).toNat (T.new hd) (Fix.new hd) (.inl (aN ht (Int.toNat_of_nonneg ht) rfl));rw[show pid (ki G).toNat=.int (ki G) from congrArg PV.int (Int.toNat_of_nonneg ht)] at this;exact this
 have ht:¬0<=ki G:=of_decide_eq_false ht;have hlen:ns.length=G.length:=by have:=hp.length_eq;simpa using this
 have hbd:d≠b:=by rintro rfl;rw[ae] at hb;exact fB hb
 have Gy:∀x o,upd V d (.dI G) x=some o->upd (upd V d (.dI G)) b (.lst (ns.map .int)) x=some o:=λx o q=>ai hb q
 refine⟨_,_,aO.lst ae,by refine J (length_map _) (J sizeLine_eq ?_);exact Qt hg hlen,λi acc σ'=>σ'=upd (upd V d (.dI G)) b (.lst (ns.map .int))/\acc=((ns.take i).filter (λi=>match rs[i.toNat]? with|some r=>!bV G (dC r)|none=>false)).map .int,
  ⟨rfl,rfl⟩,λi acc σ' zq=>by(refine aA zq λq _=>?_;clear zq);refine J q ?_;exact ae,λC c0 m' σ' x Q' _ hq=>fM (by rfl) hq,λm' x y _ _=>de m' _ x y,λC i x c0 hx cw acc σ' zq=>?_,λacc σ' D zq hD=>?_⟩
 ·refine aA zq λe1 e2=>?_;clear zq
  subst e1 e2;refine ah (iE hx) λx' hi zr=>?_;clear hx;subst zr;refine DK (IY x' (hp.mem_iff.mp (mem_of_getElem? hi))) λk au r hr hf=>?_;subst au;refine AU (OX ft ⟨El ft aG.le ((T.new hd).fixed Gy) (Gy _ _ ae) hr hf hn hz ?_⟩);have tk:ns.take (i+1)=ns.take i++[(k:Int)]:=by refine J take_add_one (J hi ?_);rfl
  have cond:(match rs[((k:Nat):Int).toNat]? with|some r=>!bV G (dC r)|none=>false)=!bV G (dC r):=by exact J (Int.toNat_natCast _) (J hr rfl)
  refine(?_:(if (!bV G (dC r))=true then _ else _));induction wD:(!bV G (dC r)) with
  |true=>
   refine(if_pos rfl).mpr (eh ft ⟨rfl,?_⟩);refine J tk (J (filter_append _ _) (J filter_cons (J cond (J wD ?_))));simp
  |false=>
   refine(if_neg Bool.false_ne_true).mpr ⟨rfl,?_⟩;refine J tk (J (filter_append _ _) (J filter_cons (J cond (J wD ?_))));simp
 refine aA zq λe1 e2=>?_;clear zq;subst e1 e2;refine J (length_map _) (J take_length ?_);generalize hK:ns.filter (λi=>match rs[i.toNat]? with|some r=>!bV G (dC r)|none=>false)=kp;have zl:kp.length<64:=by have:=length_filter_le (λi:Int=>match rs[i.toNat]? with|some r=>!bV G (dC r)|none=>false) ns;rw[hK] at this;exact Qs hg hlen this
 have IX:∀x∈kp,∃k:Nat,x=(k:Int):=λx hx=>by rw[<-hK] at hx;refine ah (IY x (hp.mem_iff.mp (mem_filter.mp hx).1)) λk q _=>?_;exact⟨k,q⟩
 obtain ⟨kept,MY⟩:∃kept:LN,kept.map (λk:Nat=>(k:Int))=kp:=⟨kp.map Int.toNat,by
  refine J map_map ?_
  conv=>rhs;rw[<-map_id kp]
  apply map_congr_left;intro x hx;refine bK (IX x hx) λk au=>?_;subst au;simp⟩
 subst MY;refine J map_map ?_;have T3:dc t (upd (upd (upd V d (.dI G)) b (.lst (ns.map .int))) D (.lst (kept.map (PV.int∘λk:Nat=>(k:Int))))) rs bs:=((T.new hd).new hb).new hD;have F3:Fix t V (upd (upd (upd V d (.dI G)) b (.lst (ns.map .int))) D (.lst (kept.map (PV.int∘λk:Nat=>(k:Int))))):=(Fix.new hd).trans ((Fix.new hb).trans (Fix.new hD));have zk:kept.length<64:=by simpa using zl
 have res:∀aW v,((kept=[]/\v=2/\aW=rs)∨(kept=[v]/\aW=rs)∨(2<=kept.length/\v=dN rs (.mj kept)/\aW=cJ rs (.mj kept)))->Aq rs G aW v:=λaW v q=>.inr (cL (by exact Qr ht) ns hp ⟨hs,kept,hK.symm,q⟩);have zs:(kept.map (PV.int∘λk:Nat=>(k:Int))).length<=sizeLine:=by refine J sizeLine_eq (J (length_map _) (?_));exact KW zk
 refine⟨xS ae zs ?_⟩
 match kept,T3,F3,zs,zk,res with
 |[],T3,F3,zs,zk,res=>exact h _ rs 2 T3 F3 (res _ _ (.inl (aN rfl rfl rfl)))
 |[k1],T3,F3,zs,zk,res=>exact⟨iJ ae zs ⟨cG (k:=0) ae rfl (by decide) (h _ rs k1 T3 F3 (res _ _ (.inr (.inl ⟨rfl,rfl⟩))))⟩⟩
 |k1::k2::r2,T3,F3,zs,zk,res=>
  refine⟨iJ ae zs ⟨iJ ae zs (nR (decide_eq_false (by simp at zk ⊢;exact Qq zk)) ?_)⟩⟩;exact⟨_,_,fX ft T3,dJ ft,⟨dn ae zs ⟨jf ft aG.le T3 (.mj (k1::k2::r2)) hz λσ' T' F' _=>h σ' _ _ T' (F3.trans F') (res _ _ (.inr (.inr (aN (by simp) rfl rfl))))⟩⟩⟩
end
section
noncomputable def oR(r:RK)(k:Nat):PV:=match r with
 |.str l _=>aC l
 |.num i _=>aC (shown i)
 |.bool v _=>if v=1 then .str "true" else .str "false"
 |_=>if k=5 then .str "null" else if k=4 then .str "undefined" else .none
theorem td(ft:Ft c)(hA:Rm 1 A)(T:dc t V rs bs)(hr:rs[k]? =some r)(hz:rs.length<1000000)(hn:∀i f,r=.num i f->i.natAbs.log2<1920)(h:Q (oR r k) V):aw c A φ (.ref 280) [.ref t.x,pid k] V Q:=by
 refine enter ft "unit_word" (hA:Rm (0+1) A) rfl rfl rfl rfl (pF λ_ _=>rfl) rfl λL A' aG=>go ft ⟨di ft T ⟨fa T hr hz ⟨eI ?_⟩⟩⟩
 have last:(Q (if k=5 then .str "null" else if k=4 then .str "undefined" else .none) V)->br ((k:Int)==5) (Q (.str "null") V) (br ((k:Int)==4) (Q (.str "undefined") V) (Q .none V)):=λh=>by
  by_cases e:k=5
  ·subst e;exact h
  ·rw[if_neg e] at h
   refine nR (by rw[beq_eq_false_iff_ne];exact Qp e) ?_
   by_cases e:k=4
   ·subst e;exact h
   ·rw[if_neg e] at h
    exact nR (by rw[beq_eq_false_iff_ne];exact Qo e) h
 induction r with
 |str l f=>exact⟨jb (j:=1) rfl rfl (by decide) (by decide) h⟩
 |num i f=>exact⟨eI ⟨jb (j:=1) rfl rfl (by decide) (by decide) ⟨str_int (hn i f rfl) (by unfold oR at h;refine J (tw _) ?_;exact h)⟩⟩⟩
 |bool v f=>
  refine⟨eI ⟨eI ⟨eI ⟨jb (j:=1) rfl rfl (by decide) (by decide) ?_⟩⟩⟩⟩;simp only[oR] at h;refine bZ (λe=>?_) λe=>?_
  ·have e:((v:Int)==1)=true:=e
   rw[if_pos (by have:=eq_of_beq e;exact Qn this)] at h;exact h
  ·have e:((v:Int)==1)=false:=e
   rw[if_neg (λq=>by subst q;exact rB e)] at h;exact h
 |_=>exact⟨eI ⟨eI ⟨eI (last h)⟩⟩⟩
theorem HR(ft:Ft c)(hA:Rm 1 A)(T:dc t V rs bs)(hr:rs[k]? =some (.par i))(hz:rs.length<1000000)(h:Q (.bool true) V):aw c A φ (.ref 273) [.ref t.x,pid k] V Q:=
 enter ft "is_open" (hA:Rm (0+1) A) rfl rfl rfl rfl (pF λ_ _=>rfl) rfl λL A' aG=>go ft ⟨di ft T ⟨fa T hr hz ⟨eI ⟨ig aG rfl rfl (by decide) h⟩⟩⟩⟩
end
theorem qc{α:Type}(l:List α)(x:α):sl (l++[x]) none (some (-1))=l:=by have e:=clipAt_neg (l++[x]).length 1 (by decide);simp only[sl,Option.elim,drop_zero,Nat.sub_zero];refine J (show (-1:Int)=-((1:Nat):Int) from rfl) (J e ?_);simp
theorem xZ{α:Type}(l:List α)(x:α):sl (x::l) (some 1) none=l:=by have e:=clipAt_nat (x::l).length 1;simp only[sl,Option.elim];refine J (show (1:Int)=((1:Nat):Int) from rfl) (J e ?_);exact take_length
section
theorem I5(ft:Ft c)(hA:Rm 1 A){a b:List LN}{x y:LN}(hz:a.length+b.length<=100000)(hl:x.length+y.length<=100000)(h:Q (.tup ((a++(x++y)::b).map aC)) V):aw c A φ (.ref 294) [.tup ((a++[x]).map aC),.tup ((y::b).map aC)] V Q:=by refine enter ft "glue" (hA:Rm (0+1) A) rfl rfl rfl rfl (pF λ_ _=>rfl) rfl λL A' aG=>?_;refine go ft ?_;refine⟨.tup (by simp[sizeLine_eq];exact KZ hz) ?_⟩;refine J map_append (J (show List.map aC [x]=[aC x] from rfl) (J (qc _ _) ?_));refine⟨jb (k:=-1) (j:=a.length) (p:=aC x) (by have:=seqIndex_neg (k:=1) (n:=(a.map aC++[aC x]).length) (by decide) (by simp);simpa using this) (by simp) (by decide) (by decide) ?_⟩;refine⟨jb (k:=0) (j:=0) (p:=aC y) (by simp[seqIndex?]) rfl (by decide) (by decide) ?_⟩;refine⟨lC (by refine J (bI _) (J (bI _) (J sizeLine_eq ?_));exact Qm hl) ?_⟩;refine J (iO _ _) ?_;refine⟨q9 (by simp[sizeLine_eq];exact KZ hz) ?_⟩;refine⟨.tup (by simp[sizeLine_eq];exact Ql hz) ?_⟩;refine J (show List.map aC (y::b)=aC y::b.map aC from rfl) (J (xZ _ _) ?_);refine⟨q9 (by simp[sizeLine_eq];exact Qk hz) ?_⟩;refine(?_:Q _ V);rw[map_append,map_cons] at h;simpa[kK] using h
end
section
open PySem.NumText
noncomputable def aH(l:LN):LN:=match l with
 |45::r=>r
 |l=>l
noncomputable def nH(u:Nat):Bool:=Nat.ble 48 u&&Nat.ble u 57
noncomputable def c6(l:LN):Bool:=!(aH l).isEmpty&&Nat.ble (aH l).length 16&&(aH l).all nH&&Nat.ble (digitsVal (aH l)) 9007199254740991&&(shown (digitsVal (aH l):Int)==aH l)&&(Nat.ble 1 (digitsVal (aH l))||aH l==l)
theorem mX(l:LN)(h:l.take 1=[45]):l=45::aH l:=by
 induction l using LC with
 |nil=>exact lnc h
 |cons a r=>cases h;rfl
theorem nS(l:LN)(h:l.take 1≠[45]):aH l=l:=by
 induction l using LC with
 |nil=>rfl
 |cons a r=>
  unfold aH
  split
  ·rename_i e;cases e;exact absurd rfl h
  ·rfl
theorem xC(h:l.all nH=true):AllDigits l:=λu hu=>by have:=all_eq_true.mp h u hu;unfold nH at this;rw[Bool.and_eq_true] at this;exact⟨Nat.le_of_ble_eq_true this.1,Nat.le_of_ble_eq_true this.2⟩
theorem jO:∀{n:Nat} {l:LN},l.length=n->AllDigits l->digitsVal l<10^n
 |0,l,hl,_=>by induction l using LC with|nil=>decide|cons _ _=>exact Mr hl
 |n+1,l,hl,h=>by
  have gL:l≠[]:=by rintro rfl;exact qp hl
  have e:=dropLast_concat_getLast gL;have h1:l.dropLast.length=n:=by refine J length_dropLast (J hl ?_);rfl
  rw[<-e] at h ⊢;have ih:=jO h1 λd hd=>h d (mem_append_left _ hd);have hc:=h _ (mem_append_right _ (mem_singleton.mpr rfl));refine J (digitsVal_snoc _ _) (J (Nat.pow_succ _ _) ?_);exact VB ih hc
theorem yx(h:n<10^16):n.log2<=54:=by
 rcases Nat.eq_zero_or_pos n with rfl|hp
 ·simp
 ·exact Nat.le_of_lt_succ ((Nat.log2_lt (by exact LS hp)).mpr (Nat.lt_of_lt_of_le h (by decide)))
section
theorem xy(ft:Ft c)(hA:Rm 1 A)(hz:l.length<=100000)(h:Q (.bool (c6 l)) V):aw c A φ (.ref 287) [aC l] V Q:=by
 refine enter ft "digits_back" (hA:Rm (0+1) A) rfl rfl rfl rfl (Dq λ_=>rfl) rfl λL A' aG=>?_;refine cut ft (λm' σ'=>m'=[(("text":Str),aC l),("body",aC (aH l))]/\V=σ') ?_ λm' σ' zq=>?_
 ·refine⟨.str (by simp[sizeLine_eq];exact cz hz) ?_⟩
  have e1:sl l none (some 1)=l.take 1:=by unfold sl;simp only[Option.elim,drop_zero,Nat.sub_zero];refine J (show (1:Int)=((1:Nat):Int) from rfl) (J (clipAt_nat _ _) ?_);exact(take_eq_take_min ..).symm
  refine J e1 ?_;refine bZ (λe=>⟨.str (by simp[sizeLine_eq];exact cz hz) ?_⟩) λe=>?_
  ·have q:l=45::aH l:=mX l (by
    have:(S (l.take 1)==S [45])=true:=e;rw[cH] at this;exact eq_of_beq this)
   have e2:sl l (some 1) none=aH l:=(congrArg (λx=>sl x (some 1) none) q).trans (xZ _ _);refine J e2 ?_;exact⟨rfl,rfl⟩
  ·have q:aH l=l:=nS l λe'=>by
    have:(S (l.take 1)==S [45])=false:=e;rw[cH,e'] at this;exact rB this
   refine J q ?_;exact⟨rfl,rfl⟩
 refine aA zq λe1 e2=>?_;clear zq;subst e1 e2;have hbl:(aH l).length<=100000:=by unfold aH;split<;>(first|(simp only[length_cons] at hz;exact VA hz)|exact hz)
 refine bZ (λe=>?_) λe=>?_
 ·have e:(S (aH l)==S [])=true:=e
  rw[cH] at e;have e0:c6 l=false:=by unfold c6;refine J (eq_of_beq e) ?_;rfl
  rw[e0] at h;exact h
 have e:(S (aH l)==S [])=false:=e;rw[cH] at e;refine⟨Gr (by refine J (bI _) (J sizeLine_eq ?_);exact cz hbl) ?_⟩;refine J (bI _) ?_;refine bZ (λe2=>?_) λe2=>?_
 ·have e2:decide ((16:Int)<((aH l).length:Int))=true:=e2
  have e0:c6 l=false:=by
   unfold c6
   have:Nat.ble (aH l).length 16=false:=by
    induction q:Nat.ble (aH l).length 16 with
    |false=>rfl
    |true=>have:=Nat.le_of_ble_eq_true q;have:=of_decide_eq_true e2;exact False.elim (Vz (by assumption) this)
   refine J this ?_;exact J (Bool.and_false _) (J (Bool.false_and _) (rfl))
  rw[e0] at h;exact h
 have e2:decide ((16:Int)<((aH l).length:Int))=false:=e2;have hlen:(aH l).length<=16:=by have:=of_decide_eq_false e2;exact Vy this
 refine⟨bP aG.handled (by rfl) (eh ft ?_)⟩;refine⟨_,_,aO.str _,λi m' σ'=>mz (m'=[(("text":Str),aC l),("body",aC (aH l))]) (V=σ') (((aH l).take i).all nH=true),⟨rfl,rfl,rfl⟩,λ_ _ _ _=>rfl,λi v c0 hv cw mm σ' zq=>go ft ?_,λmm σ' zq=>go ft ?_⟩
 ·refine fp zq λe1 e2 e3=>?_;clear zq
  subst e1 e2
  have sC:∃u,(aH l)[i]? =some u/\v=.str (S [u]):=by have hv:((aH l).map λu=>PV.str ⟨#[u]⟩)[i]? =some v:=hv;refine ah (iE hv) λu q zr=>?_;clear hv;subst zr;exact aj u q rfl
  refine ah sC λu hu au=>?_;clear sC;subst au
  have no:nH u=false->c6 l=false:=λq=>by
   unfold c6
   have:(aH l).all nH=false:=by refine rI all_eq_false ?_;exact(aj u (mem_of_getElem? hu) (by refine J q ?_;decide))
   refine J this ?_;exact J (Bool.and_false _) (J (Bool.false_and _) (rfl))
  refine⟨NL ?_⟩;refine bZ (λe=>?_) λe=>?_
  ·have e:=of_decide_eq_true e
   have e:[u]<[48]:=e;have e:u<48:=by simpa[cons_lt_cons_iff] using e
   rw[no (by unfold nH;refine rI Bool.and_eq_false_iff ?_;left;induction q:Nat.ble 48 u with|false=>rfl|true=>have:=Nat.le_of_ble_eq_true q;exact False.elim (Vx e this))] at h;exact h
  ·refine⟨NN ?_⟩
   refine bZ (λe'=>?_) λe'=>?_
   ·have e':=of_decide_eq_true e'
    have e':[57]<[u]:=e';have e':57<u:=by simpa[cons_lt_cons_iff] using e'
    rw[no (by unfold nH;refine rI Bool.and_eq_false_iff ?_;right;induction q:Nat.ble u 57 with|false=>rfl|true=>have:=Nat.le_of_ble_eq_true q;exact False.elim (Vw e' this))] at h;exact h
   ·refine gf _ rfl rfl ?_ (Le.new rfl)
    have e:=of_decide_eq_false e;have e':=of_decide_eq_false e';have e:¬[u]<[48]:=e;have e':¬[57]<[u]:=e';have e:¬u<48:=by simpa[cons_lt_cons_iff] using e
    have e':¬57<u:=by simpa[cons_lt_cons_iff] using e'
    refine J take_add_one (J hu (J all_append (J e3 ?_)));simp only[Option.toList_some,all_cons,all_nil,Bool.and_true,Bool.true_and];unfold nH;refine J (Nat.ble_eq_true_of_le (by exact Vv e)) (J (Nat.ble_eq_true_of_le (by exact Vu e')) ?_);rfl
 ·refine fp zq λe1 e2 e3=>?_;clear zq
  subst e1 e2
  have e3:(aH l).all nH=true:=by
   have e3:((aH l).take ((aH l).map λu=>PV.str ⟨#[u]⟩).length).all nH=true:=e3
   rwa [length_map,take_length] at e3
  have gL:aH l≠[]:=by intro q;rw[q] at e;exact rB e
  refine⟨int_text (n:=(digitsVal (aH l):Int)) (intText_digits (x:=S (aH l)) (xC e3) gL (by refine J (bI _) ?_;exact cz hlen)) (by refine J (bI _) ?_;exact cz hlen) ?_⟩
  have hd:digitsVal (aH l)<10^16:=by have:=jO rfl (xC e3);exact Nat.lt_of_lt_of_le this (Nat.pow_le_pow_right (by decide) hlen)
  have DT:Nat.ble (aH l).length 16=true:=Nat.ble_eq_true_of_le hlen;have Nj:(aH l).isEmpty=false:=by induction q:aH l using LC with|nil=>exact absurd q gL|cons a r=>rfl
  refine bZ (λe=>?_) λe=>?_
  ·have e:=of_decide_eq_true e
   have e0:c6 l=false:=by
    unfold c6
    have:Nat.ble (digitsVal (aH l)) 9007199254740991=false:=by
     induction q:Nat.ble (digitsVal (aH l)) 9007199254740991 with
     |false=>rfl
     |true=>have:=Nat.le_of_ble_eq_true q;have e:(9007199254740991:Int)<(digitsVal (aH l):Int):=e;omega
    refine J this ?_;exact J (Bool.and_false _) (J (Bool.false_and _) (rfl))
   rw[e0] at h;exact h
  have e:=of_decide_eq_false e;have e:¬(9007199254740991:Int)<(digitsVal (aH l):Int):=e;have Zp:Nat.ble (digitsVal (aH l)) 9007199254740991=true:=Nat.ble_eq_true_of_le (by omega);refine⟨str_int (by refine J (Int.natAbs_natCast _) ?_;exact Nat.lt_of_le_of_lt (yx hd) (by decide)) ?_⟩;refine J (tw _) ?_;refine bZ (λe'=>?_) λe'=>?_
  ·have e':(S (shown (digitsVal (aH l))) !=S (aH l))=true:=e'
   rw[bne,cH] at e'
   have e0:c6 l=false:=by unfold c6;rw[Bool.not_eq_true'] at e';refine J e' ?_;exact J (Bool.and_false _) (J (Bool.false_and _) (rfl))
   rw[e0] at h;exact h
  have e':(S (shown (digitsVal (aH l))) !=S (aH l))=false:=e';rw[bne,cH,Bool.not_eq_false'] at e'
  have hl:∀b,(Nat.ble 1 (digitsVal (aH l))||aH l==l)=b->c6 l=b:=λb q=>by unfold c6;refine J Nj (J DT (J e3 (J Zp (J e' (J q ?_)))));rfl
  refine bZ (λz=>?_) λz=>?_
  ·have z:=of_decide_eq_true z
   have z:(0:Int)<(digitsVal (aH l):Int):=z;rw[hl true (by refine J (Nat.ble_eq_true_of_le (by exact Vt (by assumption))) ?_;rfl)] at h;refine(?_:Q (.bool (decide ((0:Int)<(digitsVal (aH l):Int)))) _);refine J (decide_eq_true z) ?_;exact h
  ·have z:=of_decide_eq_false z
   have z:¬(0:Int)<(digitsVal (aH l):Int):=z
   have z0:Nat.ble 1 (digitsVal (aH l))=false:=by
    induction q:Nat.ble 1 (digitsVal (aH l)) with
    |false=>rfl
    |true=>have:=Nat.le_of_ble_eq_true q;exact False.elim (Vs (by assumption) this)
   refine(?_:Q (.bool (S (aH l)==S l)) _);refine J (cH _ _) ?_;rw[hl (aH l==l) (by refine J z0 ?_;rfl)] at h;exact h
end
end
noncomputable def GY(m':Map):Map->Prop
 |[]=>True
 |p::r=>dB m' p.1=some p.2/\GY m' r
theorem yy:∀{m:Map} {y:Str} {p:PV},dB m y=some p->(y,p)∈m
 |(k,v)::r,y,p,h=>by
  unfold dB at h
  split at h
  ·rename_i e;obtain rfl:=sI h;refine J e ?_;exact .head _
  ·exact .tail _ (yy h)
theorem Le.all{m':Map}(h:GY m' m):Le m m':=λy p e=>by
 have:=yy e;clear e;induction m with
 |nil=>exact km this
 |cons q r ih=>
  rcases mem_cons.mp this with e|hm
  ·rw[<-e] at h;exact h.1
  ·exact ih h.2 hm
theorem kJ{v:PV}(h:((range ((n:Int)-0).toNat).map λj:Nat=>PV.int (0+(j:Int)))[i]? =some v):i<n/\v=.int (i:Int):=by
 have e:((n:Int)-0).toNat=n:=by exact Ib
 rw[e,getElem?_map] at h
 have hi:i<n:=by have:=ar (show ((range n).map λj:Nat=>PV.int (0+(j:Int)))[i]? =some v by refine J getElem?_map ?_;exact h);simpa using this
 rw[getElem?_range hi] at h;obtain rfl:=sI h;exact⟨hi,congrArg PV.int (Int.zero_add _)⟩
abbrev Kp(V σ':St):Prop:=∀a o,V a=some o->σ' a=some o
theorem c9(h:Kp V σ')(e:σ' a=none):V a=none:=by
 induction q:V a with
 |none=>rfl
 |some o=>rw[h _ _ q] at e;exact fB e
theorem Kp.new(h:V a=none):Kp V (upd V a o):=λ_ _ e=>ai h e
theorem Kp.fix(h:Kp V σ'):Fix t V σ':=λa o e _ _=>h a o e
theorem Kp.upd(h:Kp V σ')(hd:V d=none):Kp V (upd σ' d o):=λa o' e=>by rw[aB (by rintro rfl;rw[hd] at e;exact bL e)];exact h a o' e
noncomputable def Km(t:TA):Map:=[("tab",.ref t.x),("deep",.int 0),("most_rounds",.int 200),("most_deep",.int 40),("lib",.none)]
structure xE (t:TA) (hx hd:Addr) (V:St):Prop where
 x:V hx=some (.inst 587 hd)
 d:V hd=some (.dh (Km t))
section
variable {hx hd:Addr}
theorem bw{value slice:Expr}{l:List PV}(k:Nat)(hx:l[k]? =some p)(h:Q p V)(hk:k<2^40:=by decide)
  (hs:∀(t:Addr) (u:Tok),subscripted slice false (Value.ref t) (Value.int (k:Int) u)=operate [Value.ref t,Value.int (k:Int) u] (getItem (Value.ref t) (Value.int (k:Int) u)):=by intro _ _;rfl):W2 c A φ Vr (subscriptTail value slice) (.tup l) (.int (k:Int)) V Q:=
 jb (j:=k) (tB (ar hx)) hx (by exact Vq) (by exact Vp hk) h hs
theorem xE.keep(h:xE t hx hd V)(k:Kp V σ'):xE t hx hd σ':=⟨k _ _ h.x,k _ _ h.d⟩
theorem xE.fix{rs:List Row}(h:xE t hx hd V)(T:Tab t V rs bs)(k:Fix t V σ'):xE t hx hd σ':=by
 refine⟨k _ _ h.x ?_ ?_,k _ _ h.d ?_ ?_⟩
 ·rintro rfl;have:=h.x;rw[T.rows] at this;exact kB this
 ·rintro rfl;have:=h.x;rw[T.index] at this;exact kB this
 ·rintro rfl;have:=h.d;rw[T.rows] at this;exact kB this
 ·rintro rfl;have:=h.d;rw[T.index] at this;exact kB this
theorem nU(ft:Ft c)(H:xE t hx hd V)(h:Q (.ref t.x) V):W1 c A φ Vr (λo=>getAttr o "tab" true) (.ref hx) V Q:=
 pP ft.ok H.x H.d (ft.th.at_ "tab" (by decide)).1 ft.th.Jq (ft.th.at_ "tab" (by decide)).2.2 rfl h
theorem vf(ft:Ft c)(H:xE t hx hd V):Meth c A φ V (.ref hx) "force" (.ref 430) [.ref hx]:=
 let m:=ft.th.ms _ (.head _)
 tO ft.ok H.x H.d m.1 m.2.1 m.2.2.1 rfl
theorem qA(ft:Ft c):Keeps c (.ref 430):=ic (ft.th.ms _ (.head _)).2.2.2.2
theorem yP(ft:Ft c)(hA:Rm 1 A)(h:Q p V):aw c A φ (.ref 430) [.ref hx,p] V Q:=
 (oF ft (hA:Rm (0+1) A) (ft.th.ms _ (.head _)).2.2.2.1 rfl rfl rfl (pF λ_ _=>rfl) rfl λL A' aG=>go ft h).toS
theorem yv(ft:Ft c)(H:xE t hx hd V):Meth c A φ V (.ref hx) "put_deferred" (.ref 577) [.ref hx]:=
 let m:=ft.th.ms _ (.tail _ (.head _))
 tO ft.ok H.x H.d m.1 m.2.1 m.2.2.1 rfl
theorem sA(ft:Ft c):Keeps c (.ref 577):=ic (ft.th.ms _ (.tail _ (.head _))).2.2.2.2
noncomputable abbrev Pc:=List LN×LN
noncomputable abbrev dx(p:Pc):PV:=.tup [.tup (p.1.map aC),.tup (p.2.map pid)]
noncomputable def bQ(rs:List RK)(k:Nat):Pc:=match rs[k]? with
 |some (.str l _)=>([l],[])
 |some (.num i _)=>([shown i],[])
 |some (.eG ts ks)=>(ts,ks)
 |_=>([[],[]],[k])
noncomputable def Gp(k:Nat):RK->Prop
 |.str _ _=>True
 |.eG _ _=>16<=k
 |.par _=>16<=k
 |.num i _=>i.natAbs.log2<1920
 |.key _=>k=6∨k=7
 |_=>False
def OC(rs:List RK)(k:Nat):Prop:=∃r,rs[k]? =some r/\Gp k r
theorem IW(ft:Ft c)(hA:Rm 2 A)(T:dc t V rs bs)(H:xE t hx hd V)(hz:rs.length<1000000){k:Nat}(hr:rs[k]? =some r)(hp:∀p∈aF rs k,OC rs p)(hl:(aF rs k).length<=1000)
  (h:∀d,V d=none->Q (.ref d) (upd V d (.lst ((aF rs k).map λp=>dx (bQ rs p))))):aw c A φ (.ref 301) [.ref hx,pid k] V Q:=by
 have zl:sizeLine=2^24:=rfl;refine enter ft "hole_pieces" (hA:Rm (1+1) A) rfl rfl rfl rfl (pF λ_ _=>rfl) rfl λL A' aG=>go ft ⟨nU ft H ⟨λd hd=>⟨bP aG.handled (by rfl) (eh ft ⟨pL ft aG.le (T.new hd) hr hz ?_⟩)⟩⟩⟩;refine⟨_,_,aO.tup _,λi m' σ'=>m'=[(("host":Str),PV.ref hx),("t",pid k),("tab",.ref t.x),("pieces",.ref d)]/\σ'=upd V d (.lst (((aF rs k).take i).map λp=>dx (bQ rs p))),⟨rfl,rfl⟩,λ_ _ _ _=>rfl,λi v c0 hv cw mm σ' zq=>go ft ?_,λmm σ' zq=>go ft ?_⟩
 ·refine aA zq λe1 e2=>?_;clear zq
  subst e1 e2;refine ah (iE hv) λp hk zr=>?_;clear hv;subst zr;refine ah (hp p (mem_of_getElem? hk)) λq hq uw=>?_;have T':=T.new (o:=.lst (((aF rs k).take i).map λp=>dx (bQ rs p))) hd
  have fin:∀x,dx (bQ rs p)=x->upd (upd V d (.lst (((aF rs k).take i).map λp=>dx (bQ rs p)))) d (.lst (((aF rs k).take i).map (λp=>dx (bQ rs p))++[x]))=upd V d (.lst (((aF rs k).take (i+1)).map λp=>dx (bQ rs p))):=λx e=>by refine J lJ (J take_add_one (J hk (J map_append (rS e ?_))));rfl
  have zt:(((aF rs k).take i).map λp=>dx (bQ rs p)).length<=sizeLine:=by refine J (length_map _) (J length_take ?_);exact Vo hl zl
  have Gu:(16<=p)->(if p=5 then PV.str "null" else if p=4 then .str "undefined" else .none)=.none:=λh=>by exact J (if_neg (by exact Vn h)) (J (if_neg (by exact Vm h)) rfl)
  refine⟨td ft aG T' hq hz (λi f e=>by subst e;exact uw) ⟨di ft T' ⟨fa T' hq hz ?_⟩⟩⟩
  have pk:bQ rs p=match (some q:Option RK) with
   |some (.str l _)=>([l],[])
   |some (.num i _)=>([shown i],[])
   |some (.eG ts ks)=>(ts,ks)
   |_=>([[],[]],[p]):=by refine rS hq ?_;rfl
  induction q with
  |str l f=>exact⟨_,_,bD ae,a9,⟨bN ae zt (cK _ rfl (fin _ (congrArg dx pk)) (Le.all (aQ rfl rfl rfl rfl trivial)))⟩⟩
  |num j f=>exact⟨_,_,bD ae,a9,⟨bN ae zt (cK _ rfl (fin _ (congrArg dx pk)) (Le.all (aQ rfl rfl rfl rfl trivial)))⟩⟩
  |eG ts ks=>
   have eu:oR (.eG ts ks) p=.none:=Gu uw;refine J eu ?_;exact⟨eI ⟨_,_,bD ae,a9,⟨jb (j:=1) rfl rfl (by decide) (by decide) ⟨jb (j:=2) rfl rfl (by decide) (by decide) ⟨bN ae zt (cK _ rfl (fin _ (congrArg dx pk)) (Le.all (aQ rfl rfl rfl rfl trivial)))⟩⟩⟩⟩⟩
  |par j=>
   have eu:oR (.par j) p=.none:=Gu uw;refine J eu ?_
   refine⟨eI ⟨ig aG rfl rfl (by decide) (bZ (λe=>?_) λe=>⟨HR ft aG.le T' hq hz ?_⟩)⟩⟩<;>
    exact⟨_,_,bD ae,a9,⟨bN ae zt (cK _ rfl (fin _ (congrArg dx pk)) (Le.all (aQ rfl rfl rfl rfl trivial)))⟩⟩
  |key x=>
   rcases uw with e|e<;>subst e<;>
    exact⟨eI ⟨ig aG rfl rfl (by decide) ⟨_,_,bD ae,a9,⟨bN ae zt (cK _ rfl (fin _ (congrArg dx pk)) (Le.all (aQ rfl rfl rfl rfl trivial)))⟩⟩⟩⟩
  |_=>cases uw
 ·refine aA zq λe1 e2=>?_;clear zq
  subst e1 e2;refine J (length_map _) (J take_length ?_);exact h d hd
end
noncomputable def cg:List LN->List LN->List LN
 |[],b=>b
 |[x],[]=>[x]
 |[x],y::b=>(x++y)::b
 |x::x'::a,b=>x::cg (x'::a) b
theorem df(a:List LN)(x y:LN)(b:List LN):cg (a++[x]) (y::b)=a++(x++y)::b:=by
 induction a with
 |nil=>rfl
 |cons z a ih=>
  induction a using LC with
  |nil=>rfl
  |cons z' a=>exact congrArg (z::·) ih
noncomputable def wt(ts:List LN):Nat:=(ts.map λl=>l.length+1).sum
theorem G8(a b:List LN):wt (a++b)=wt a+wt b:=by simp[wt]
theorem sV(a:List LN):a.length<=wt a:=by
 induction a with
 |nil=>exact Nat.le_refl _
 |cons x a ih=>simp only[wt,map_cons,sum_cons,length_cons] at*;exact UD ih
theorem dR{u:List LN}(h:u≠[]):∃a x,u=a++[x]:=(DH u.dropLast (u.getLast h) ((dropLast_concat_getLast h).symm))
theorem qH{u v:List LN}(hu:u≠[])(hv:v≠[]):cg u v≠[]/\wt (cg u v)<=wt u+wt v:=by
 refine me (dR hu) λa x au=>?_;subst au;induction v using LC with
 |nil=>exact absurd rfl hv
 |cons y b=>
  refine J (df _ _ _ _) ?_;refine⟨by simp,?_⟩;simp only[wt,map_append,sum_append,map_cons,sum_cons,map_nil,sum_nil,length_append];exact UB
section
variable {hx hd:Addr}
theorem yM(ft:Ft c)(hA:Rm 1 A){u v:List LN}(hu:u≠[])(hv:v≠[])(hz:wt u+wt v<=50000)(h:Q (.tup ((cg u v).map aC)) V):aw c A φ (.ref 294) [.tup (u.map aC),.tup (v.map aC)] V Q:=by
 refine me (dR hu) λa x au=>?_;subst au;induction v using LC with
 |nil=>exact absurd rfl hv
 |cons y b=>
  rw[df] at h;have h1:=sV a;have h2:=sV b;simp only[wt,map_append,sum_append,map_cons,sum_cons,map_nil,sum_nil] at hz h1 h2;exact I5 ft hA (by exact UC h1 h2 hz) (by exact UA hz) h
noncomputable def iT(rs:List RK)(k:Nat):List Pc:=(aF rs k).map (bQ rs)
structure OE (rs:List RK) (k:Nat):Prop where
 at_:∃r,rs[k]? =some r
 one:1<=(aF rs k).length
 two:(aF rs k).length<=2
 ps:∀p∈aF rs k,OC rs p/\(bQ rs p).1≠[]/\wt (bQ rs p).1<=10/\(bQ rs p).2.length<=1
noncomputable def dP(ps:List Pc)(after:LN)(o:Pc):List Pc:=ps.map λp=>(cg (cg o.1 p.1) [after],o.2++p.2)
noncomputable def cR:List Pc->List (List Pc)->List LN->List Pc
 |js,ps::kL,a::ts=>cR (js.flatMap (dP ps a)) kL ts
 |js,_,_=>js
theorem pa:∀(kL:List (List Pc)) (ts:List LN) (js:List Pc) (ps:List Pc) (a:LN),kL.length=ts.length->cR js (kL++[ps]) (ts++[a])=(cR js kL ts).flatMap (dP ps a)
 |[],[],js,ps,a,_=>rfl
 |p::kL,b::ts,js,ps,a,h=>by dsimp only[cons_append,cR];exact pa kL ts _ ps a (by simpa using h)
 |[],_::_,_,_,_,h=>by exact qp h
 |_::_,[],_,_,_,h=>by exact Mr h
theorem lq:∀(kL:List (List Pc)) (ts:List LN) (js:List Pc) (W N M:Nat),(∀ps∈kL,ps.length<=2/\∀p∈ps,p.1≠[]/\wt p.1<=10/\p.2.length<=1)->(∀a∈ts,a.length<=100)->
  (∀o∈js,o.1≠[]/\wt o.1<=W/\o.2.length<=M)->js.length<=N->(∀o∈cR js kL ts,o.1≠[]/\wt o.1<=W+111*kL.length/\o.2.length<=M+kL.length)/\(cR js kL ts).length<=N*2^kL.length
 |[],ts,js,W,N,M,_,_,hj,hn=>by induction ts using LC<;>exact⟨hj,by unfold cR;simpa using hn⟩
 |ps::kL,[],js,W,N,M,_,_,hj,hn=>by refine⟨λo ho=>?_,Nat.le_trans hn (Nat.le_mul_of_pos_right _ (Nat.pow_pos (by decide)))⟩;refine bt (hj o ho) λh1 h2 h3=>?_;exact(aN h1 (by exact Uz h2) (by exact Uy h3))
 |ps::kL,a::ts,js,W,N,M,hp,ht,hj,hn=>by
  have hp0:=hp ps (.head _);have ha:=ht a (.head _)
  have:=lq kL ts (js.flatMap (dP ps a)) (W+111) (N*2) (M+1) (λq hq=>hp q (.tail _ hq)) (λq hq=>ht q (.tail _ hq)) (λo ho=>by
   refine ah (mem_flatMap.mp ho) λo' h1 h2=>?_;refine ah (mem_map.mp h2) λp h3 au=>?_;subst au;refine bt (hj o' h1) λj1 j2 j3=>?_;refine bt (hp0.2 p h3) λp1 p2 p3=>?_;have g1:=qH j1 p1;have g2:=qH (v:=[a]) g1.1 (by simp);refine aN g2.1 ?_ ?_
   ·have:wt [a]=a.length+1:=by rfl
    refine(?_:wt (cg (cg o'.1 p.1) [a])<=_);exact PX ha j2 p2 this g1.2 g2.2
   ·refine(?_:(o'.2++p.2).length<=_)
    refine J length_append ?_;exact Ux j3 p3) (by
   refine J length_flatMap ?_;have:(js.map λo=>(dP ps a o).length)=js.map λ_=>ps.length:=map_congr_left λo _=>by unfold dP;exact J (length_map _) rfl
   refine J this (J map_const' (J sum_replicate_nat ?_));exact Nat.mul_le_mul hn hp0.1)
  refine⟨λo ho=>?_,?_⟩
  ·refine bt (this.1 o ho) λh1 h2 h3=>?_
   exact(aN h1 (by refine J length_cons ?_;exact Uw h2) (by refine J length_cons ?_;exact LK h3))
  ·have:=this.2
   refine J length_cons (J (Nat.pow_succ _ _) ?_);refine(?_:(cR (js.flatMap (dP ps a)) kL ts).length<=_);rw[Nat.mul_assoc,Nat.mul_comm 2] at this;exact this
theorem Fw(ft:Ft c)(hA:Rm 3 A)(T:dc t V rs bs)(H:xE t hx hd V)(hz:rs.length<1000000){t0:LN}{ts:List LN}{ks:LN}(hl:ts.length=ks.length)(h3:ks.length<=3)(hk:∀k∈ks,OE rs k)(ht:∀x∈t0::ts,x.length<=100)
  (h:∀σ' A6,Kp V σ'->V A6=none->σ' A6=some (.lst ((cR [([t0],[])] (ks.map (iT rs)) ts).map dx))->Q (.ref A6) σ'):aw c A φ (.ref 306) [.ref hx,.tup ((t0::ts).map aC),.tup (ks.map pid)] V Q:=by
 have zl:sizeLine=2^24:=rfl;refine enter ft "cross_holes" (hA:Rm (2+1) A) rfl rfl rfl rfl (wI λ_ _ _=>rfl) rfl λL A' aG=>go ft ⟨gU (λm v=>bh m "t" v) aG.handled (by rfl) (by rfl) (by rfl) (eh ft ?_)⟩;refine eU ft (aO.tup _) (by exact nZ zl h3) (λi acc σ'=>∃ds:List Addr,acc=ds.map .ref/\ds.length=i/\(∀(j:Nat) d,ds[j]? =some d->∃k,ks[j]? =some k/\σ' d=some (.lst ((iT rs k).map dx)))/\Kp V σ') (dg [] rfl rfl (λj d h=>by exact bL h) (λ_ _ e=>e)) (λ_ _ _ _=>rfl) (λC i k c0 hi cw acc σ' zq=>?_) (λacc σ' D zq hD=>?_)
 ·refine cZ zq λds e1 e2 e3 e4=>?_;clear zq
  subst e1 e2;have ok:=hk k (mem_of_getElem? hi);refine bK ok.at_ λr hr=>?_;refine⟨_,_,vf ft (H.keep e4),qA ft,⟨yP ft aG.le ⟨IW ft aG (T.fixed e4) (H.keep e4) hz hr (λp hp=>(ok.ps p hp).1) (by have:=ok.two;exact cz this) λd hd=>?_⟩⟩⟩;refine(dg (ds++[d]) (by exact J map_append (J map_cons (J map_nil (rfl)))) (by exact length_append) (λj d' hj=>?_) (λa o e=>ai hd (e4 a o e)))
  by_cases q:j<ds.length
  ·rw[getElem?_append_left q] at hj
   refine ah (e3 j d' hj) λk' h1 h2=>?_;exact aj k' h1 (ai hd h2)
  ·rw[getElem?_append_right (by exact wB q)] at hj
   have:j=ds.length:=by
    have:=ar hj
    replace this:=Nat.lt_one_iff.mp this;exact BJ q this
   subst this;simp at hj;subst hj;exact(aj k hi (by refine J ae ?_;unfold iT;refine J map_map ?_;rfl))
 refine cZ zq λds e1 e2 e3 e4=>?_;clear zq;subst e1;have hs4:Kp V (upd σ' D (.lst (ds.map .ref))):=λa o e=>ai hD (e4 a o e)
 have ux:∀(j:Nat) d,ds[j]? =some d->∃k,ks[j]? =some k/\upd σ' D (.lst (ds.map .ref)) d=some (.lst ((iT rs k).map dx)):=λj d q=>by refine ah (e3 j d q) λk h1 h2=>?_;exact aj k h1 (ai hD h2)
 have eD:upd σ' D (.lst (ds.map .ref)) D=some (.lst (ds.map .ref)):=ae;clear e3 e4 hD;generalize upd σ' D (.lst (ds.map .ref))=σ₁ at*;refine⟨bP aG.handled (by rfl) (eh ft ?_)⟩;refine⟨_,_,aO.lst eD,λi m' σ'=>∃cn:Nat,m'=[(("host":Str),PV.ref hx),("texts",.tup ((t0::ts).map aC)),("types",.tup (ks.map pid)),("holes",.ref D),("count",.int cn)]/\σ₁=σ'/\cn<=2^i,(bb 1 rfl rfl (Nat.le_refl _)),λi m' σ' zq=>by(refine aK zq λ_ _ q _=>?_;clear zq);subst q;exact eD,λi v c0 hv cw mm σ' zq=>go ft ?_,λmm σ' zq=>go ft ?_⟩
 ·refine aK zq λcn e1 q2 q3=>?_;clear zq
  subst e1 q2;refine ah (iE hv) λd pD zr=>?_;clear hv;subst zr;refine ah (ux i d pD) λk h1 h2=>?_;have two:=(hk k (mem_of_getElem? h1)).two;have hlen:((iT rs k).map dx).length<=2:=by refine J (length_map _) ?_;unfold iT;refine J (length_map _) ?_;exact two
  refine⟨iJ h2 (by exact nZ zl hlen) ⟨GS (.of_right ?_) (aj _ ⟨cn*((iT rs k).map dx).length,rfl,rfl,?_⟩ (Le.all (dZ rfl rfl rfl rfl ?_ trivial)))⟩⟩
  ·generalize ((iT rs k).map dx).length=z at hlen ⊢
   match z,hlen with
   |0,_=>decide
   |1,_=>decide
   |2,_=>decide
  ·refine J (Nat.pow_succ _ _) ?_;exact Nat.mul_le_mul q3 hlen
  ·refine(?_:some (PV.int _)=some (.int _))
   exact J (Int.natCast_mul _ _) rfl
 refine aK zq λcn e1 q2 q3=>?_;clear zq;subst e1 q2
 have c8:cn<=8:=by rw[length_map,e2] at q3;exact Nat.le_trans q3 (Nat.pow_le_pow_right (by decide) h3)
 refine nR (decide_eq_false (by omega)) ⟨bw 0 rfl ⟨λA6 hJ=>⟨bP aG.handled (by rfl) (eh ft ⟨ib (by refine J (length_map _) ?_;exact nZ zl h3) ⟨iS λrg ky=>?_⟩⟩)⟩⟩⟩
 have MQ:∀ps∈ks.map (iT rs),ps.length<=2/\∀p∈ps,p.1≠[]/\wt p.1<=10/\p.2.length<=1:=λps z6=>by refine ah (mem_map.mp z6) λk h1 au=>?_;subst au;have ok:=hk k h1;refine⟨by unfold iT;refine J (length_map _) ?_;exact ok.two,λp hp=>?_⟩;refine ah (mem_map.mp hp) λq h2 au=>?_;subst au;exact(ok.ps q h2).2
 have bd:∀i,(∀o∈cR [([t0],[])] ((ks.take i).map (iT rs)) (ts.take i),o.1≠[]/\wt o.1<=500/\o.2.length<=3)/\(cR [([t0],[])] ((ks.take i).map (iT rs)) (ts.take i)).length<=8:=λi=>by
  have:=lq ((ks.take i).map (iT rs)) (ts.take i) [([t0],[])] 101 1 0 (λps z6=>MQ ps (by(refine ah (mem_map.mp z6) λk h1 au=>?_;subst au);exact mem_map_of_mem (mem_of_mem_take h1))) (λa ha=>ht a (.tail _ (mem_of_mem_take ha)))
   (λo ho=>by refine J (mem_singleton.mp ho) ?_;exact(aN (by simp) (by have:=ht t0 (.head _);simp[wt];exact cz this) (Nat.le_refl _))) (Nat.le_refl _)
  have hl:((ks.take i).map (iT rs)).length<=3:=by refine J (length_map _) (J length_take ?_);exact LJ h3
  refine⟨λo ho=>?_,?_⟩
  ·refine bt (this.1 o ho) λh1 h2 h3=>?_
   exact(aN h1 (by exact Uv hl h2) (by exact Ic hl h3))
  ·have h2:=this.2
   rw[Nat.one_mul] at h2;exact Nat.le_trans h2 (Nat.pow_le_pow_right (by decide) hl)
 refine⟨_,_,aO.gx ae (by decide) (by refine J (length_map _) ?_;exact LI h3) (by decide) (by exact HW),λi m' σ'=>∃J',m'=[(("host":Str),PV.ref hx),("texts",.tup ((t0::ts).map aC)),("types",.tup (ks.map pid)),("holes",.ref D),("count",.int cn),("joined",.ref J')]/\
  σ' J'=some (.lst ((cR [([t0],[])] ((ks.take i).map (iT rs)) (ts.take i)).map dx))/\Kp σ₁ σ'/\σ₁ J'=none,(dg A6 rfl (ai ky ae) (λa o e=>ai ky (ai hJ e)) hJ),λ_ _ _ _=>rfl,λi v c0 hv cw mm σ' zq=>go ft ?_,λmm σ' zq=>go ft ?_⟩
 ·refine cZ zq λJ' e1 q2 q3 q4=>?_;clear zq
  subst e1;rw[length_map] at hv;refine aA (kJ hv) λhi au=>?_;subst au;obtain ⟨k,Ze⟩:∃k,ks[i]? =some k:=⟨_,getElem?_eq_getElem hi⟩;obtain ⟨a,Zq⟩:∃a,ts[i]? =some a:=⟨_,getElem?_eq_getElem (by exact Gn hl hi)⟩;obtain ⟨d,hdi⟩:∃d,ds[i]? =some d:=⟨_,getElem?_eq_getElem (by exact Gn e2 hi)⟩;refine ah (ux i d hdi) λk' JT Zf=>?_;rw[Ze] at JT;obtain rfl:=sI JT
  have YV:cR [([t0],[])] ((ks.take (i+1)).map (iT rs)) (ts.take (i+1))=(cR [([t0],[])] ((ks.take i).map (iT rs)) (ts.take i)).flatMap (dP (iT rs k) a):=by refine J take_add_one (J take_add_one (J Ze (J Zq (J map_append ?_))));exact pa _ _ _ _ _ (by refine J (length_map _) (J length_take (J length_take ?_));exact Uu hl)
  refine aA (bd i) λb1 b2=>?_;have bk:=MQ (iT rs k) (mem_map_of_mem (mem_of_getElem? Ze));have bal:=ht a (.tail _ (mem_of_getElem? Zq));generalize cR [([t0],[])] ((ks.take i).map (iT rs)) (ts.take i)=js at q2 YV b1 b2;generalize iT rs k=ps at YV bk Zf;refine⟨cG (k:=i) (q3 _ _ eD) (by refine J getElem?_map (J hdi ?_);rfl) (by exact Ut h3 hi) ⟨bw (i+1) (by refine J map_cons (J getElem?_cons_succ (J getElem?_map (J Zq ?_)));rfl) ⟨λM hM=>⟨bP aG.handled (by rfl) (eh ft ?_)⟩⟩ (by exact Us h3 hi)⟩⟩;have Np:∀o x y,σ' x=some y->upd σ' M o x=some y:=λo x y e=>ai hM e;have hMJ:M≠J':=by rintro rfl;rw[hM] at q2;exact bL q2
  refine⟨_,_,aO.lst (Np _ _ _ q2),λj m' av=>m'=[(("host":Str),PV.ref hx),("texts",.tup ((t0::ts).map aC)),("types",.tup (ks.map pid)),("holes",.ref D),("count",.int cn),("joined",.ref J'),("place",.int i),("pieces",.ref d),("after",.tup [aC a]),("more",.ref M)]/\
   av=upd σ' M (.lst (((js.take j).flatMap (dP ps a)).map dx)),⟨rfl,rfl⟩,λj m' av zq=>by(refine aA zq λ_ q=>?_;clear zq);subst q;exact Np _ _ _ q2,λj v n8 hv nB mm av zf=>aA zf λe1 Fo=>go ft ⟨bP aG.handled (by rfl) (eh ft ?_)⟩,λmm av zq=>go ft ?_⟩
  ·subst e1 Fo
   rw[getElem?_map] at hv;induction hj:js[j]? with
   |none=>rw[hj] at hv;exact bL hv
   |some o=>
   rw[hj] at hv;obtain rfl:=sI hv;refine bt (b1 o (mem_of_getElem? hj)) λo1 o2 o3=>?_
   have szJ:∀l,(((js.take j).flatMap (dP ps a)++(dP ps a o).take l).map dx).length<=20:=λl=>by
    refine J (length_map _) (J length_append (J length_flatMap ?_));have:((js.take j).map λo=>(dP ps a o).length)=(js.take j).map λ_=>ps.length:=map_congr_left λo _=>by unfold dP;exact J (length_map _) rfl
    refine J this (J map_const' (J sum_replicate_nat (J length_take (J length_take ?_))));have h1:(dP ps a o).length=ps.length:=by unfold dP;exact J (length_map _) rfl
    have h2:min j js.length*ps.length<=8*2:=Nat.mul_le_mul (by exact Ur b2) bk.1;exact PU h1 h2 bk.1
   refine⟨_,_,aO.lst (Np _ _ _ (q3 _ _ Zf)),λl m' av=>m'=[(("host":Str),PV.ref hx),("texts",.tup ((t0::ts).map aC)),("types",.tup (ks.map pid)),("holes",.ref D),("count",.int cn),("joined",.ref J'),("place",.int i),("pieces",.ref d),("after",.tup [aC a]),("more",.ref M),("old",dx o)]/\
    av=upd σ' M (.lst (((js.take j).flatMap (dP ps a)++(dP ps a o).take l).map dx)),⟨rfl,by exact J take_zero (J (append_nil _) rfl)⟩,λl m' av zq=>by(refine aA zq λ_ q=>?_;clear zq);subst q;exact Np _ _ _ (q3 _ _ Zf),λl v n8 hv IK mm av zq=>go ft ?_,λmm av zq=>go ft ?_⟩
   ·refine aA zq λe1 Fo=>?_;clear zq
    subst e1 Fo;rw[getElem?_map] at hv;induction hp:ps[l]? with
    |none=>rw[hp] at hv;exact bL hv
    |some p=>
    rw[hp] at hv;obtain rfl:=sI hv;refine bt (bk.2 p (mem_of_getElem? hp)) λp1 p2 p3=>?_;have g1:=qH o1 p1;have wa:wt [a]=a.length+1:=by rfl
    refine⟨_,_,bD ae,a9,⟨bw 0 rfl ⟨bw 0 rfl ⟨yM ft aG.le o1 p1 (by exact Uq o2 p2) ⟨yM (v:=[a]) ft aG.le g1.1 (by simp) (by exact PW bal o2 p2 wa g1.2) ⟨bw 1 rfl ⟨bw 1 rfl ⟨q9 (by simp;exact Up zl o3 p3) ?_⟩⟩⟩⟩⟩⟩⟩⟩;refine⟨bN ae (by have:=szJ l;exact nZ zl this) (cK _ rfl ?_ (Le.new rfl))⟩;refine J lJ (J take_add_one (rS (append_assoc _ _ _) ?_));have:(dP ps a o)[l]? =some (cg (cg o.1 p.1) [a],o.2++p.2):=by unfold dP;refine J getElem?_map (J hp ?_);rfl
    refine J this (rS (map_append (f:=pid)) (J (map_append (f:=dx) (l₂:=(some (cg (cg o.1 p.1) [a],o.2++p.2)).toList)) ?_))
    rfl
   ·refine aA zq λe1 Fo=>?_;clear zq
    subst e1 Fo;refine(cK _ rfl ?_ (Le.all (d4 rfl rfl rfl rfl rfl rfl rfl rfl rfl rfl trivial)));rw[length_map,show ps.length=(dP ps a o).length by unfold dP;exact J (length_map _) rfl,take_length,take_add_one,hj,flatMap_append];simp
  ·refine aA zq λe1 Fo=>?_;clear zq
   subst e1 Fo;refine(aj _ ⟨M,rfl,?_,λx y e=>Np _ _ _ (q3 _ _ e),c9 q3 hM⟩ (Le.all (iu rfl rfl rfl rfl rfl rfl trivial)));exact J ae (J (length_map _) (J take_length (J YV rfl)))
 ·refine cZ zq λJ' e1 q2 q3 q4=>?_;clear zq
  subst e1;rw[length_map,length_range,length_map] at q2;have e0:((ks.length:Int)-0).toNat=ks.length:=by exact Ib
  rw[e0,take_length,take_of_length_le (by exact JJ hl)] at q2;exact h _ _ (λa o e=>q3 a o (hs4 a o e)) (c9 hs4 q4) q2
end
noncomputable def kO(ts:List LN)(ks:LN):Bool:=ts.all (·.isEmpty)&&ks.all (·==6)
noncomputable def iU(rs:List RK)(p:Pc):List RK×Nat:=match p.2 with
 |[]=>(cJ rs (.str (p.1.headD []) 0),dN rs (.str (p.1.headD []) 0))
 |_::_=>match kO p.1 p.2 with
  |true=>(rs,6)
  |false=>(cJ rs (.eG p.1 p.2),dN rs (.eG p.1 p.2))
section
variable {hx hd:Addr}
theorem KS(ft:Ft c)(hA:Rm 4 A)(T:dc t V rs bs)(hz:rs.length<1000000){p:Pc}(h0:p.1≠[])(hl1:p.1.length<=1000)(OO:p.2.length<=1000)
  (h:∀σ',dc t σ' (iU rs p).1 bs->Fix t V σ'->Ar V σ'->Q (pid (iU rs p).2) σ'):aw c A φ (.ref 313) [.ref t.x,.tup (p.1.map aC),.tup (p.2.map pid)] V Q:=by
 obtain ⟨ts,ks⟩:=p;refine enter ft "one_template" (hA:Rm (3+1) A) rfl rfl rfl rfl (wI λ_ _ _=>rfl) rfl λL A' aG=>go ft ⟨GP aG (by exact(nv _)) rfl (by simp[PV.dep,nI]) ?_⟩;induction ks using LC with
 |nil=>
  induction ts using LC with
  |nil=>exact absurd rfl h0
  |cons x r=>exact⟨bw 0 rfl ⟨wQ ft aG T hz h⟩⟩
 |cons k ks=>
  refine⟨bP aG.handled (by rfl) (eh ft ?_)⟩;refine⟨_,_,aO.tup _,λi m' σ'=>m'=[(("tab":Str),PV.ref t.x),("texts",.tup (ts.map aC)),("types",.tup ((k::ks).map pid)),("plain",.bool ((ts.take i).all (·.isEmpty)))]/\V=σ',⟨rfl,rfl⟩,λ_ _ _ _=>rfl,λi v c0 hv cw mm σ' zq=>go ft ?_,λmm σ' zf=>aA zf λe1 e2=>go ft ⟨bP aG.handled (by rfl) (eh ft ?_)⟩⟩
  ·refine aA zq λe1 e2=>?_;clear zq
   subst e1 e2;refine ah (iE hv) λx hi zr=>?_;clear hv;subst zr
   have e:(ts.take (i+1)).all (·.isEmpty)=((ts.take i).all (·.isEmpty)&&(S x==S [])):=by refine J take_add_one (J hi (J all_append (J (cH _ _) ?_)));simp only[Option.toList_some,all_cons,all_nil,Bool.and_true];induction x using LC<;>rfl
   refine bZ (λq=>?_) λq=>?_
   ·exact(cK _ rfl rfl (Le.all (aQ rfl rfl rfl (by refine J e (J q ?_);rfl) trivial)))
   ·exact(cK _ rfl rfl (Le.all (aQ rfl rfl rfl (by refine J e (J q ?_);rfl) trivial)))
  ·subst e1 e2
   refine J (length_map _) (J take_length ?_);refine⟨_,_,aO.tup _,λi m' σ'=>m'=[(("tab":Str),PV.ref t.x),("texts",.tup (ts.map aC)),("types",.tup ((k::ks).map pid)),("plain",.bool (ts.all (·.isEmpty)&&((k::ks).take i).all (·==6)))]/\V=σ',⟨by exact J take_zero (J all_nil (J (Bool.and_true _) rfl)),rfl⟩,λ_ _ _ _=>rfl,λi v c0 hv cw mm σ' zq=>go ft ?_,λmm σ' zq=>go ft ?_⟩
   ·refine aA zq λe1 e2=>?_;clear zq
    subst e1 e2;refine ah (iE hv) λx hi zr=>?_;clear hv;subst zr
    have e:(ts.all (·.isEmpty)&&((k::ks).take (i+1)).all (·==6))=((ts.all (·.isEmpty)&&((k::ks).take i).all (·==6))&&((x:Int)==6)):=by
     refine J take_add_one (J hi (J all_append (J (Bool.and_assoc _ _ _) ?_)));simp only[Option.toList_some,all_cons,all_nil,Bool.and_true]
     have:(x==6)=((x:Int)==6):=by
      induction q:x==6 with
      |true=>refine J (eq_of_beq q) ?_;rfl
      |false=>rw[beq_eq_false_iff_ne] at q;symm;rw[beq_eq_false_iff_ne];exact Uo q
     exact J this rfl
    refine bZ (λq=>?_) λq=>?_
    ·exact(cK _ rfl rfl (Le.all (aQ rfl rfl rfl (by refine J e (J q ?_);rfl) trivial)))
    ·exact(cK _ rfl rfl (Le.all (aQ rfl rfl rfl (by refine J e (J q ?_);rfl) trivial)))
   ·refine aA zq λe1 e2=>?_;clear zq
    subst e1 e2;refine J (length_map _) (J take_length ?_);have hp:kO ts (k::ks)=(ts.all (·.isEmpty)&&(k::ks).all (·==6)):=rfl;refine bZ (λq=>?_) λq=>?_
    ·have e:iU rs (ts,k::ks)=(rs,6):=by unfold iU;simp only;exact J hp (J q rfl)
     rw[e] at h;exact h V T Fix.refl λ_ e=>e
    ·have e:iU rs (ts,k::ks)=(cJ rs (.eG ts (k::ks)),dN rs (.eG ts (k::ks))):=by unfold iU;simp only;exact J hp (J q rfl)
     rw[e] at h;exact⟨_,_,fX ft T,dJ ft,⟨jf ft aG.le T (.eG ts (k::ks)) hz h⟩⟩
end
noncomputable def rows0:List RK:=[.key "any",.key "unknown",.key "never",.key "void",.key "undefined",.key "null",.key "string",.key "number",.bool 0 0,.bool 1 0,.key "object",.obj,.mj [8,9],.key "error",.bool 0 1,.bool 1 1]
abbrev Base(rs:List RK):Prop:=rows0<+:rs
theorem Base.at_(h:Base rs)(e:rows0[k]? =some r):rs[k]? =some r:=by refine bK h λs au=>?_;clear h;subst au;refine J (getElem?_append_left (ar e)) ?_;exact e
theorem cf(h:rs<+:aW)(e:rs[k]? =some r):aW[k]? =some r:=by refine bK h λs au=>?_;clear h;subst au;refine J (getElem?_append_left (ar e)) ?_;exact e
noncomputable def bU(rs:List RK)(js:List Pc):List RK×LN:=js.foldl (λacc p=>((iU acc.1 p).1,acc.2++[(iU acc.1 p).2])) (rs,[])
theorem hZ(rs:List RK)(js:List Pc)(p:Pc):bU rs (js++[p])=((iU (bU rs js).1 p).1,(bU rs js).2++[(iU (bU rs js).1 p).2]):=by unfold bU;refine J foldl_append ?_;rfl
theorem yn(rs:List RK)(p:Pc):rs<+:(iU rs p).1/\(iU rs p).1.length<=rs.length+1:=by
 unfold iU;induction p.2 using LC with
 |nil=>exact⟨dq _ _,d7 _ _⟩
 |cons k ks=>
  simp only;induction kO p.1 (k::ks) with
  |true=>exact⟨prefix_rfl,Nat.le_succ _⟩
  |false=>exact⟨dq _ _,d7 _ _⟩
def jW(rs:List RK)(v:Nat):Prop:=v=6∨(∃l,rs[v]? =some (.str l 0))∨∃ts ks,rs[v]? =some (.eG ts ks)
theorem jW.pre(h:rs<+:aW){v:Nat}(m:jW rs v):jW aW v:=by
 rcases m with e|⟨l,e⟩|⟨ts,ks,e⟩
 ·exact .inl e
 ·exact .inr (.inl ⟨l,cf h e⟩)
 ·exact .inr (.inr (DH ts ks (cf h e)))
theorem HS(rs:List RK)(p:Pc):jW (iU rs p).1 (iU rs p).2:=by
 unfold iU;induction p.2 using LC with
 |nil=>exact .inr (.inl ⟨_,du _ _⟩)
 |cons k ks=>
  simp only;induction kO p.1 (k::ks) with
  |true=>exact .inl rfl
  |false=>exact .inr (.inr (DH _ _ (du _ _)))
theorem fZ{α:Type}{P:List α->Prop}(h0:P [])(h1:∀l a,P l->P (l++[a]))(l:List α):P l:=by
 have:∀l:List α,P l.reverse:=λl=>by
  induction l with
  |nil=>exact h0
  |cons a l ih=>refine J reverse_cons ?_;exact h1 _ _ ih
 have q:=this l.reverse
 rwa [reverse_reverse] at q
theorem qu(rs:List RK)(js:List Pc):rs<+:(bU rs js).1/\(bU rs js).1.length<=rs.length+js.length/\(bU rs js).2.length=js.length/\∀v∈(bU rs js).2,jW (bU rs js).1 v:=by
 refine fZ (P:=λjs=>rs<+:(bU rs js).1/\(bU rs js).1.length<=rs.length+js.length/\(bU rs js).2.length=js.length/\∀v∈(bU rs js).2,jW (bU rs js).1 v) ?_ (λl p zq=>?_) js
 ·exact cj prefix_rfl (Nat.le_refl _) rfl (λ_ h=>nomatch h)
 ·refine cT zq λa b c d=>?_;clear zq
  refine J (hZ _ _ _) ?_;refine aA (yn (bU rs l).1 p) λp1 p2=>?_;refine(cj (a.trans p1) (by refine J length_append (J length_singleton ?_);exact PT b p2) (by refine J length_append (J length_append (J c ?_));rfl) (λv hv=>?_));rcases mem_append.mp hv with h|h
  ·exact(d v h).pre p1
  ·refine J (mem_singleton.mp h) ?_;exact HS _ _
theorem lR(hb:Base rs){v:Nat}(m:jW rs v):aF rs v=[v]/\∃r,rs[v]? =some r/\r.fresh=false:=by
 have h2:rs[2]? =some (.key "never"):=hb.at_ rfl;have h6:rs[6]? =some (.key "string"):=hb.at_ rfl;unfold aF;rcases m with e|⟨l,e⟩|⟨ts,ks,e⟩
 ·subst e;refine J h6 ?_;exact cL rfl _ rfl rfl
 ·rw[if_neg (by rintro rfl;rw[h2] at e;exact Ew e),e];exact cL rfl _ rfl rfl
 ·rw[if_neg (by rintro rfl;rw[h2] at e;exact Ew e),e];exact cL rfl _ rfl rfl
theorem we(hb:Base rs):∀{vs:LN},(∀v∈vs,jW rs v)->bO rs vs=vs
 |[],_=>rfl
 |v::vs,h=>by unfold bO;refine J flatMap_cons (J ((lR hb (h v (.head _))).1) ?_);exact congrArg (v::·) (we hb λu hu=>h u (.tail _ hu))
theorem fh{l:List (Int×PV)}{x:Int}:bV l x=true↔x∈l.map (·.1):=by
 unfold bV cO;refine J Option.isSome_map (rI find?_isSome (rI mem_map ?_));constructor
 ·rintro ⟨p,h1,h2⟩;exact aj p h1 (of_decide_eq_true h2)
 ·rintro ⟨p,h1,h2⟩;exact aj p h1 (decide_eq_true h2)
theorem zY{l:List (Int×PV)}{x:Int}:(dk l x p).map (·.1)=if x∈l.map (·.1) then l.map (·.1) else l.map (·.1)++[x]:=by
 unfold dk
 by_cases h:x∈l.map (·.1)
 ·refine J (if_pos h) (J (if_pos (show (cO l x).isSome=true from fh.mpr h)) (J map_map ?_))
  apply map_congr_left;intro kv _;simp only[Function.comp]
  split<;>rfl
 ·refine J (if_neg h) (J (if_neg (show¬(cO l x).isSome=true from λq=>h (fh.mp q))) (J map_append ?_));rfl
theorem kZ:∀(ks:LN) (l:List (Int×PV)),(l.map (·.1)).Nodup->((aU l ks).map (·.1)).Nodup/\∀x,x∈(aU l ks).map (·.1)↔x∈l.map (·.1)∨∃k∈ks,(k:Int)=x
 |[],l,h=>⟨h,λx=>⟨.inl,λq=>q.elim id λzf=>ah zf λ_ a _=>nomatch a⟩⟩
 |k::ks,l,h=>by
  have h1:((dk l (k:Int) (.int 1)).map (·.1)).Nodup/\∀x,x∈(dk l (k:Int) (.int 1)).map (·.1)↔x∈l.map (·.1)∨(k:Int)=x:=by
   refine J zY ?_
   by_cases e:(k:Int)∈l.map (·.1)
   ·refine J (if_pos e) ?_;exact⟨h,λx=>⟨.inl,λq=>q.elim id λq=>q▸e⟩⟩
   ·refine J (if_neg e) ?_
    refine⟨nodup_append.mpr (aN h (by simp) (λa ha b hb=>?_)),λx=>?_⟩
    ·refine J (mem_singleton.mp hb) ?_;rintro rfl;exact e ha
    ·refine rI mem_append (rI mem_singleton ?_);exact⟨λq=>q.imp id Eq.symm,λq=>q.imp id Eq.symm⟩
  have ih:=kZ ks (dk l (k:Int) (.int 1)) h1.1;refine⟨ih.1,λx=>?_⟩;refine(?_:x∈(aU (dk l (k:Int) (.int 1)) ks).map (·.1)↔_);refine rI (ih.2 x) (rI (h1.2 x) (rI or_assoc ?_));apply or_congr_right;constructor
  ·rintro (e|⟨k',a,e⟩)
   ·exact aj k (.head _) e
   ·exact aj k' (.tail _ a) e
  ·rintro ⟨k',a,e⟩
   rcases mem_cons.mp a with rfl|a
   ·exact .inl e
   ·exact .inr (aj k' a e)
theorem mM{ks:LN}{x:Int}:x∈(aU [] ks).map (·.1)↔∃k∈ks,(k:Int)=x:=by refine rI ((kZ ks [] .nil).2 x) ?_;exact⟨λq=>q.elim (λq=>nomatch q) id,.inr⟩
theorem lT(hb:Base rs){vs:LN}(h:∀v∈vs,jW rs v){x:Int}(hx:x∈([0,1,2,8,13,14,-1]:List Int)):bV (aU [] vs) x=false:=by
 induction q:bV (aU [] vs) x with
 |false=>rfl
 |true=>
  refine ah (mM.mp (fh.mp q)) λk h1 au=>?_;subst au
  exfalso
  have m:=h k h1
  have:k=0∨k=1∨k=2∨k=8∨k=13∨k=14:=by simp only[mem_cons,not_mem_nil,or_false] at hx;exact Un hx
  have e0:rs[0]? =some (.key "any"):=hb.at_ rfl;have e1:rs[1]? =some (.key "unknown"):=hb.at_ rfl;have e2:rs[2]? =some (.key "never"):=hb.at_ rfl;have e8:rs[8]? =some (.bool 0 0):=hb.at_ rfl;have e13:rs[13]? =some (.key "error"):=hb.at_ rfl;have e14:rs[14]? =some (.bool 0 1):=hb.at_ rfl;rcases this with rfl|rfl|rfl|rfl|rfl|rfl<;>rcases m with e|⟨l,e⟩|⟨ts,ks,e⟩<;>first|(cases e;done)|(simp_all;done)
section
variable {hx hd:Addr}
theorem Hh(ft:Ft c)(hA:Rm 5 A)(T:dc t V rs bs)(H:xE t hx hd V)(hb:Base rs)(hz:rs.length<900000){t0:LN}{ts:List LN}{ks:LN}(hl:ts.length=ks.length)(h3:ks.length<=3)(hk:∀k∈ks,OE rs k)(ht:∀x∈t0::ts,x.length<=100)
  (h:∀σ' aW v,dc t σ' aW bs->Fix t V σ'->Aq (bU rs (cR [([t0],[])] (ks.map (iT rs)) ts)).1 (aU [] (bU rs (cR [([t0],[])] (ks.map (iT rs)) ts)).2) aW v->Q (pid v) σ'):aw c A φ (.ref 320) [.ref hx,.tup ((t0::ts).map aC),.tup (ks.map pid)] V Q:=by
 have zl:sizeLine=2^24:=rfl;refine enter ft "tpl_kind" (hA:Rm (4+1) A) rfl rfl rfl rfl (wI λ_ _ _=>rfl) rfl λL A' aG=>go ft ⟨nU ft H ⟨λM hM=>⟨bP aG.handled (by rfl) (eh ft ⟨jx ⟨jx ⟨Fw ft aG.le (T.new hM) (H.keep (Kp.new hM)) (by exact m9 hz) hl h3 hk ht λσ₁ A6 k1 hJ e1=>?_⟩⟩⟩)⟩⟩⟩
 have:=lq (ks.map (iT rs)) ts [([t0],[])] 101 1 0 (λps z6=>by
  refine ah (mem_map.mp z6) λk h1 au=>?_;subst au;have ok:=hk k h1;refine⟨by unfold iT;refine J (length_map _) ?_;exact ok.two,λp hp=>?_⟩;refine ah (mem_map.mp hp) λq h2 au=>?_;subst au
  exact(ok.ps q h2).2) (λa ha=>ht a (.tail _ ha)) (λo ho=>by refine J (mem_singleton.mp ho) ?_;exact(aN (by simp) (by have:=ht t0 (.head _);simp[wt];exact cz this) (Nat.le_refl _))) (Nat.le_refl _)
 rw[length_map,Nat.one_mul] at this;refine aA this λb1 b2=>?_;clear this;have b2:=Nat.le_trans b2 (Nat.pow_le_pow_right (by decide) h3);generalize cR [([t0],[])] (ks.map (iT rs)) ts=js at*;have k0:Kp V σ₁:=λa o e=>k1 _ _ (ai hM e);have eM:σ₁ M=some (.lst []):=k1 _ _ ae;have hMJ:A6≠M:=by rintro rfl;rw[ae] at hJ;exact fB hJ
 have OW:V A6=none:=c9 (Kp.new hM) hJ;have nM:M≠t.rows/\M≠t.index:=⟨(by rintro rfl;rw[T.rows] at hM;exact fB hM),(by rintro rfl;rw[T.index] at hM;exact fB hM)⟩;have nJ:A6≠t.rows/\A6≠t.index:=⟨(by rintro rfl;rw[T.rows] at OW;exact fB OW),(by rintro rfl;rw[T.index] at OW;exact fB OW)⟩
 refine⟨_,_,aO.lst e1,λi m' σ'=>m'=[(("host":Str),PV.ref hx),("texts",.tup ((t0::ts).map aC)),("types",.tup (ks.map pid)),("tab",.ref t.x),("made",.ref M)]/\dc t σ' (bU rs (js.take i)).1 bs/\Fix t V σ'/\σ' M=some (.lst ((bU rs (js.take i)).2.map pid))/\σ' A6=some (.lst (js.map dx)),
  ⟨rfl,T.fixed k0,Kp.fix k0,eM,e1⟩,λi m' σ' zf=>cF zf λ_ _ _ _ q=>q,λi v c0 hv cw mm σ' zq=>go ft ?_,λmm σ' zq=>go ft ?_⟩
 ·refine cF zq λq1 q2 q3 q4 q5=>?_;clear zq
  subst q1;refine ah (iE hv) λp hi zr=>?_;clear hv;subst zr;refine bt (b1 p (mem_of_getElem? hi)) λo1 o2 o3=>?_;have ma:=qu rs (js.take i);have lt:(js.take i).length<=8:=by refine J length_take ?_;exact Um b2
  refine⟨_,_,bD q4,a9,⟨bw 0 rfl ⟨bw 1 rfl ⟨KS ft aG q2 (by exact PS hz lt ma.2.1) o1 (by have:=sV p.1;exact Ul h3 o2 this) (by exact Uk h3 o3) λay rP xF _=>?_⟩⟩⟩⟩;refine⟨bN (xF _ _ q4 nM.1 nM.2) (by refine J (length_map _) (J ma.2.2.1 ?_);exact nZ zl lt) (aj _ ⟨rfl,?_,?_,?_,?_⟩ (Le.new rfl))⟩
  ·refine J take_add_one (J hi ?_)
   refine(?_:dc t _ (bU rs (js.take i++[p])).1 bs);refine J (hZ _ _ _) ?_;refine⟨?_,?_,?_,?_,?_,rP.bne⟩<;>rw[aB]
   ·exact rP.x
   ·rintro rfl;have:=rP.x;rw[xF _ _ q4 nM.1 nM.2] at this;exact kB this
   ·exact rP.d
   ·rintro rfl;have:=rP.d;rw[xF _ _ q4 nM.1 nM.2] at this;exact kB this
   ·exact rP.rows
   ·exact Ne.symm nM.1
   ·exact rP.index
   ·exact Ne.symm nM.2
   ·exact rP.bounds
   ·rintro rfl;have:=T.bounds;rw[hM] at this;exact bL this
  ·intro a o e n1 n2
   rw[aB (by rintro rfl;rw[hM] at e;exact bL e)];exact xF _ _ (q3 _ _ e n1 n2) n1 n2
  ·refine J ae (J take_add_one (J hi ?_))
   refine(?_:_=some (AO.lst ((bU rs (js.take i++[p])).2.map pid)));refine J (hZ _ _ _) (J map_append ?_)
   rfl
  ·refine J (aB hMJ) ?_;exact xF _ _ q5 nJ.1 nJ.2
 ·refine cF zq λq1 q2 q3 q4 q5=>?_;clear zq
  subst q1;rw[length_map,take_length] at q2 q4;refine cT (qu rs js) λm1 m2 m3 m4=>?_;have wD:Base (bU rs js).1:=hb.trans m1;have ap:=we wD m4;refine⟨xR ft aG q2 q4 (λk hk=>?_) (by exact Uj hz b2 m2) ?_ ?_ ?_ ?_ ?_ ?_⟩
  ·refine ah ((lR wD (m4 k hk)).2) λr e _=>?_;exact⟨r,e⟩
  ·refine J ap ?_;have:=mN (bU rs js).2 [];simp only[length_nil] at this;exact Ui b2 m3 this
  ·refine J ap ?_;exact lT wD m4 (by exact mem_of_elem_eq_true rfl)
  ·refine J ap ?_;exact lT wD m4 (by exact mem_of_elem_eq_true rfl)
  ·refine J ap ?_;exact lT wD m4 (by exact mem_of_elem_eq_true rfl)
  ·refine J ap ?_
   intro x gE;refine ah (mM.mp gE) λk h1 au=>?_;subst au;exact aj k rfl ((lR wD (m4 k h1)).2)
  ·intro ay bu v rP xF U
   rw[ap] at U;exact h _ _ _ rP (q3.trans xF) U
end
theorem Gf{α:Type}(l:List α)(a b:Nat):sl l (some (a:Int)) (some (b:Int))=(l.take b).drop a:=by
 simp only[sl,Option.elim,clipAt_nat];refine J drop_take ?_
 by_cases h:l.length<=a
 ·refine J (drop_eq_nil_of_le (by exact LH h)) (J (drop_eq_nil_of_le h) ?_);simp
 ·refine J (Nat.min_eq_left (by exact LG h:a<=l.length)) (rI take_eq_take_iff (J length_drop ?_))
  exact Ub
theorem Pu{α:Type}(l:List α)(a:Nat):sl l (some (a:Int)) none=l.drop a:=by
 simp only[sl,Option.elim,clipAt_nat];refine J (take_of_length_le (by rw[length_drop];exact Uh)) ?_
 by_cases h:l.length<=a
 ·exact J (drop_eq_nil_of_le (by exact LH h)) (J (drop_eq_nil_of_le h) rfl)
 ·exact J (Nat.min_eq_left (by exact LG h:a<=l.length)) rfl
theorem Bl{α:Type}(l:List α)(b:Nat):sl l none (some (b:Int))=l.take b:=by simp only[sl,Option.elim,clipAt_nat,drop_zero,Nat.sub_zero];refine rI take_eq_take_iff ?_;exact Ug
theorem uX{hi:Nat}{v:PV}(h:((range ((hi:Int)-(lo:Int)).toNat).map λj:Nat=>PV.int ((lo:Int)+(j:Int)))[i]? =some v):i+lo<hi/\v=.int ((i+lo:Nat):Int):=by
 have e:((hi:Int)-(lo:Int)).toNat=hi-lo:=by exact Ue
 rw[e,getElem?_map] at h
 have hi:i<hi-lo:=by have:=ar (show ((range (hi-lo)).map λj:Nat=>PV.int ((lo:Int)+(j:Int)))[i]? =some v by refine J getElem?_map ?_;exact h);simpa using this
 rw[getElem?_range hi] at h;obtain rfl:=sI h;exact⟨by exact Ud hi,congrArg PV.int (by exact Uc)⟩
section
variable {hx hd:Addr}
theorem oT{a b:Nat}(h:Q (aC ((l.take b).drop a)) V)(hz:l.length<=100000):eZ c V (aC l) (some (a:Int)) (some (b:Int)) Q:=.str (by simp[sizeLine_eq];exact cz hz) (by refine J (Gf _ _ _) ?_;exact h)
theorem Bi{a:Nat}(h:Q (aC (l.drop a)) V)(hz:l.length<=100000):eZ c V (aC l) (some (a:Int)) none Q:=.str (by simp[sizeLine_eq];exact cz hz) (by refine J (Pu _ _) ?_;exact h)
theorem r8{b:Nat}(h:Q (aC (l.take b)) V)(hz:l.length<=100000):eZ c V (aC l) none (some (b:Int)) Q:=.str (by simp[sizeLine_eq];exact cz hz) (by refine J (Bl _ _) ?_;exact h)
theorem fg(h:Q (.int (l.length:Nat)) V)(hz:l.length<=100000):aw c A φ (.builtin "len") [aC l] V Q:=Gr (by refine J (bI _) (J sizeLine_eq ?_);exact cz hz) (by refine J (bI _) ?_;exact h)
theorem HJ(ft:Ft c)(hA:Rm 6 A)(T:dc t V rs bs)(H:xE t hx hd V)(hb:Base rs)(hz:rs.length<900000){t0:LN}{ts:List LN}{ks:LN}(hl:ts.length=ks.length)(h3:ks.length<=3)(hk:∀k∈ks,OE rs k)(ht:∀x∈t0::ts,x.length<=100)
  (h:∀σ' aW v,dc t σ' aW bs->Fix t V σ'->Aq (bU rs (cR [([t0],[])] (ks.map (iT rs)) ts)).1 (aU [] (bU rs (cR [([t0],[])] (ks.map (iT rs)) ts)).2) aW v->Q (pid v) σ'):aw c A φ (.ref 577) [.ref hx,.tup (RK.eG (t0::ts) ks).row] V Q:=
 by
 have F:FnAt c.K 577 (eK (fU 94) 0) .none:=(ft.th.ms _ (.tail _ (.head _))).2.2.2.1;refine(oF ft (hA:Rm (5+1) A) F rfl rfl rfl (pF λ_ _=>rfl) rfl λL A' aG=>go ft ?_).toS;exact⟨bw 0 rfl ⟨bw 1 rfl ⟨bw 2 rfl ⟨Hh ft aG T H hb hz hl h3 hk ht h⟩⟩⟩⟩
noncomputable def fK(l:LN)(stop:Nat):List LN->Nat->Option (List LN)
 |[],i=>some [(l.take stop).drop i]
 |w::ws,i=>match w with
  |[]=>if i<stop then (fK l stop ws (i+1)).map ((l.take (i+1)).drop i::·) else none
  |_::_=>match gM l w i stop with
   |some k=>(fK l stop ws (k+w.length)).map ((l.take k).drop i::·)
   |none=>none
theorem qq{α:Type}(o:Option (List α))(a:α)(tk:List α):(o.map (a::·)).map (tk++·)=o.map ((tk++[a])++·):=by induction o<;>simp
noncomputable def qW(l w0:LN)(mid:List LN)(wn:LN):Option (List LN):=
 if w0.length+wn.length<=l.length/\l.take w0.length=w0/\l.drop (l.length-wn.length)=wn then fK l (l.length-wn.length) mid w0.length else none
theorem xo{y:LN}{hi:Nat}(h:gM l y lo hi=some k):lo<=k/\k+y.length<=hi:=by unfold gM at h;have h1:=mem_of_find?_eq_some h;have h2:=find?_some h;rw[mem_range'_1] at h1;unfold cY at h2;rw[(Bool.and_eq_true _ _),decide_eq_true_eq] at h2;exact⟨h1.1,h2.1⟩
theorem Jr(ft:Ft c)(hA:Rm 1 A){w0:LN}{mid:List LN}(hz:l.length<=1000)(hw:∀w∈w0::(mid++[wn]),w.length<=1000)(hm:mid.length<=1000)
  (h1:∀σ' d ps,qW l w0 mid wn=some ps->Kp V σ'->V d=none->σ' d=some (.lst (ps.map aC))->Q (.ref d) σ') (h2:∀σ',qW l w0 mid wn=none->Kp V σ'->Q .none σ'):aw c A φ (.ref 327) [aC l,.tup ((w0::(mid++[wn])).map aC)] V Q:=by
 have zl:sizeLine=2^24:=rfl;have hlen:((w0::(mid++[wn])).map aC).length=mid.length+2:=by simp
 have h0z:=hw w0 (.head _);have hnz:=hw wn (by simp);have atn:((w0::(mid++[wn])).map aC)[mid.length+1]? =some (aC wn):=by simp
 have lst:∀{α:Type} {x:α},((mid.length+2:Nat):Int)-1=((mid.length+1:Nat):Int):=by omega
 refine enter ft "cut_holes" (hA:Rm (0+1) A) rfl rfl rfl rfl (pF λ_ _=>rfl) rfl λL A' aG=>?_;refine cut ft (λm' σ'=>m'=[(("text":Str),aC l),("texts",.tup ((w0::(mid++[wn])).map aC)),("last",.int ((mid.length+1:Nat):Int))]/\V=σ') ⟨ib (by exact Ua hm zl hlen) ?_⟩ λm' σ' zq=>?_
 ·refine J hlen ?_
  exact⟨by refine rS (lst (x:=0)) ?_;rfl,rfl⟩
 refine aA zq λe1 e2=>?_;clear zq;subst e1 e2;have no:(¬(w0.length+wn.length<=l.length/\l.take w0.length=w0/\l.drop (l.length-wn.length)=wn))->Q .none V:=λq=>h2 V (by unfold qW;exact J (if_neg q) rfl) λ_ _ e=>e;refine⟨bw 0 rfl ⟨fg ⟨fg ⟨bw (mid.length+1) atn ⟨fg (bZ (λe=>?_) λe=>?_) (by exact cz hnz)⟩ (by exact LF hm)⟩ (by exact cz hz)⟩ (by exact cz h0z)⟩⟩
 ·have e:=of_decide_eq_true e
  exact no (by omega)
 have e:=of_decide_eq_false e;have Jg:(l.length:Int)-(wn.length:Int)=((l.length-wn.length:Nat):Int):=by exact LD e
 refine J Jg ?_;refine⟨r8 ⟨bw 0 rfl (bZ (λe2=>?_) λe2=>?_)⟩ (by exact cz hz)⟩
 ·have e2:(S (l.take w0.length) !=S w0)=true:=e2
  rw[bne,cH,Bool.not_eq_true',beq_eq_false_iff_ne] at e2;exact no λq=>e2 q.2.1
 have e2:(S (l.take w0.length) !=S w0)=false:=e2;rw[bne,cH,Bool.not_eq_false',beq_iff_eq] at e2;refine⟨Bi ⟨bw (mid.length+1) atn (bZ (λe3=>?_) λe3=>?_) (by exact LF hm)⟩ (by exact cz hz)⟩
 ·have e3:(S (l.drop (l.length-wn.length)) !=S wn)=true:=e3
  rw[bne,cH,Bool.not_eq_true',beq_eq_false_iff_ne] at e3;exact no λq=>e3 q.2.2
 have e3:(S (l.drop (l.length-wn.length)) !=S wn)=false:=e3;rw[bne,cH,Bool.not_eq_false',beq_iff_eq] at e3;have ec:qW l w0 mid wn=fK l (l.length-wn.length) mid w0.length:=by unfold qW;exact J (if_pos (aN (by exact LB e) e2 e3)) rfl
 rw[ec] at h1 h2;generalize EX:l.length-wn.length=stop at*;refine⟨λD hD=>⟨bP aG.handled (by rfl) (eh ft ⟨wX λrg ky=>?_⟩)⟩⟩;have JT:∀o,Kp V (upd (upd (upd V D (.lst [])) rg (.gx 1 ((mid.length+1:Nat):Int))) D o):=λo=>Kp.upd (λa o e=>ai ky (ai hD e)) hD;refine⟨_,_,aO.gx ae (by decide) (by exact T9 hm) (by decide) (by exact H8),λi m' σ'=>mh λ(p:Nat) (tk:List LN)=>rC (m'=[(("text":Str),aC l),("texts",.tup ((w0::(mid++[wn])).map aC)),("last",.int ((mid.length+1:Nat):Int)),("first_end",.int w0.length),("stop",.int stop),("taken",.ref D),("at",.int p)]) (σ'=upd (upd (upd V D (.lst [])) rg (.gx 1 ((mid.length+1:Nat):Int))) D (.lst (tk.map aC))) (tk.length<=i) (fK l stop mid w0.length=(fK l stop (mid.drop i) p).map (tk++·)),(hH w0.length [] rfl ?_ (Nat.le_refl _) ?_),λ_ _ _ _=>rfl,λi v c0 hv cw mm σ' zq=>go ft ?_,λmm σ' zq=>go ft ?_⟩
 ·funext x
  unfold upd
  by_cases q:x=D
  ·subst q;refine J (if_pos rfl) ?_;by_cases q:x=rg
   ·subst q;rw[ae] at ky;exact fB ky
   ·refine J (if_neg q) (J (if_pos rfl) ?_);rfl
  ·exact J (if_neg q) (J (if_neg q) rfl)
 ·refine J drop_zero ?_;simp
 ·refine gg zq λp tk e1 e2 e3 e4=>?_;clear zq
  subst e1 e2;refine aA (uX (lo:=1) (hi:=mid.length+1) hv) λhi au=>?_;subst au;obtain ⟨w,IJ⟩:∃w,mid[i]? =some w:=⟨_,getElem?_eq_getElem (by exact KV hi)⟩
  have hd:mid.drop i=w::mid.drop (i+1):=by
   refine J (drop_eq_getElem_cons (by exact KV hi:i<mid.length)) ?_
   congr 1
   rw[getElem?_eq_getElem (by exact KV hi)] at IJ;exact sI IJ
  rw[hd] at e4;have wz:=hw w (by refine rI mem_cons (rI mem_append ?_);exact .inr (.inl (mem_of_getElem? IJ)));refine⟨bw (i+1) (by refine J map_cons (J getElem?_cons_succ (J getElem?_map (J (getElem?_append_left (by exact KV hi)) (J IJ ?_))));rfl) ?_ (by exact omap hm hi)⟩;induction w using LC with
  |nil=>
   refine bZ (λe=>?_) λe=>⟨_,_,bD ae,a9,⟨oT (a:=p) (b:=p+1) ⟨bN ae (by refine J (length_map _) ?_;exact LA hm zl e3 hi) ?_⟩ (by exact cz hz)⟩⟩
   ·have e:=of_decide_eq_true e
    exact h2 _ (by refine J e4 ?_;unfold fK;refine J (if_neg (by exact T8 e)) ?_;rfl) (JT _)
   ·have e:=of_decide_eq_false e
    have wH:fK l stop mid w0.length=(fK l stop (mid.drop (i+1)) (p+1)).map ((tk++[(l.take (p+1)).drop p])++·):=by
     refine J e4 ?_;conv=>lhs;unfold fK
     exact J (if_pos (by exact T7 e)) (J (qq _ _ _) rfl)
    refine⟨fg (aj _ ⟨p+1,tk++[(l.take (p+1)).drop p],rfl,?_,by refine J length_append ?_;exact Nat.succ_le_succ e3,wH⟩ (Le.all (cC rfl rfl rfl rfl rfl rfl rfl trivial))) (by simp)⟩;refine J lJ (J map_append ?_);rfl
  |cons u r=>
   refine⟨_,_,tP,a9,⟨Fd (by refine rS EX ?_;exact Ii) ?_⟩⟩;induction hf:gM l (u::r) p stop with
   |none=>
    have:mQ l (u::r) p stop=-1:=by unfold mQ;exact J hf rfl
    refine J this ?_;exact h2 _ (by refine J e4 ?_;unfold fK;refine J hf ?_;rfl) (JT _)
   |some k=>
    have:mQ l (u::r) p stop=(k:Int):=by unfold mQ;exact J hf rfl
    refine J this ?_
    have wH:fK l stop mid w0.length=(fK l stop (mid.drop (i+1)) (k+(u::r).length)).map ((tk++[(l.take k).drop p])++·):=by
     refine J e4 ?_
     conv=>lhs;unfold fK
     refine J hf ?_;exact qq _ _ _
    refine⟨_,_,bD ae,a9,⟨oT (a:=p) (b:=k) ⟨bN ae (by refine J (length_map _) ?_;exact LA hm zl e3 hi) ⟨fg (aj _ ⟨k+(u::r).length,tk++[(l.take k).drop p],rfl,?_,by refine J length_append ?_;exact Nat.succ_le_succ e3,wH⟩ (Le.all (cC rfl rfl rfl rfl rfl rfl rfl trivial))) (by exact cz wz)⟩⟩ (by exact cz hz)⟩⟩;refine J lJ (J map_append ?_);rfl
 ·refine gg zq λp tk e1 e2 e3 e4=>?_;clear zq
  subst e1 e2
  have e0:mid.drop ((range (((mid.length+1:Nat):Int)-1).toNat).map λj:Nat=>PV.int (1+(j:Int))).length=[]:=by refine J (length_map _) (J length_range ?_);exact drop_eq_nil_of_le (by exact T6)
  rw[e0] at e4;have ux:tk.length<=1000:=by rw[length_map,length_range] at e3;exact TZ hm e3
  refine⟨_,_,bD ae,a9,⟨oT (a:=p) (b:=stop) ⟨bN ae (by refine J (length_map _) ?_;exact nZ zl ux) ?_⟩ (by exact cz hz)⟩⟩;exact h1 _ D (tk++[(l.take stop).drop p]) (by refine J e4 ?_;rfl) (by refine J lJ ?_;exact JT _) hD (by refine J ae (J map_append ?_);rfl)
end
theorem oH(l:LN)(stop:Nat):∀(ws:List LN) (i:Nat) (ps:List LN),fK l stop ws i=some ps->ps.length=ws.length+1/\∀p∈ps,p.length<=l.length
 |[],i,ps,h=>by obtain rfl:=sI h;refine⟨rfl,λp hp=>?_⟩;refine J (mem_singleton.mp hp) (J length_drop (J length_take ?_));exact Lz
 |w::ws,i,ps,h=>by
  have key:∀(o:Option (List LN)) (a:LN),a.length<=l.length->(∀qs,o=some qs->qs.length=ws.length+1/\∀p∈qs,p.length<=l.length)->o.map (a::·)=some ps->ps.length=(w::ws).length+1/\∀p∈ps,p.length<=l.length:=λo a ha ho e=>by
   induction o with
   |none=>exact bL e
   |some qs=>
    obtain rfl:=sI e;refine aA (ho qs rfl) λh1 h2=>?_;refine⟨by exact Eq.symm ((λ{a b}=>Nat.succ_inj.mp) (congrArg Nat.succ (congrFun (congrArg HAdd.hAdd (id (Eq.symm h1))) 1))),λp hp=>?_⟩;rcases mem_cons.mp hp with rfl|hp
    ·exact ha
    ·exact h2 p hp
  unfold fK at h;have seg:∀a b,((l.take a).drop b).length<=l.length:=λa b=>by refine J length_drop (J length_take ?_);exact Lz
  induction w using LC with
  |nil=>
   simp only at h
   split at h
   ·exact key _ _ (seg _ _) (λqs q=>oH l stop ws _ qs q) h
   ·exact bL h
  |cons u r=>
   simp only at h;induction hf:gM l (u::r) i stop with
   |none=>rw[hf] at h;exact bL h
   |some k=>rw[hf] at h;exact key _ _ (seg _ _) (λqs q=>oH l stop ws _ qs q) h
theorem vW{ps:List LN}(h:qW l w0 mid wn=some ps):ps.length=mid.length+1/\∀p∈ps,p.length<=l.length:=by
 unfold qW at h
 split at h
 ·exact oH _ _ _ _ _ h
 ·exact bL h
noncomputable def eY:LN->List LN->Bool
 |k::ks,p::ps=>(!(k==7)||c6 p)&&eY ks ps
 |_,_=>true
theorem oi:∀{ks:LN} {ps:List LN} {i k:Nat} {p:LN},ks[i]? =some k->ps[i]? =some p->((!(k==7)||c6 p)=false->eY ks ps=false)
 |k::ks,p::ps,0,_,_,h1,h2,e=>by obtain rfl:=sI h1;obtain rfl:=sI h2;unfold eY;refine J e ?_;rfl
 |k::ks,p::ps,i+1,_,_,h1,h2,e=>by unfold eY;exact J (oi (ks:=ks) (ps:=ps) (i:=i) (by simpa using h1) (by simpa using h2) e) (J (Bool.and_false _) rfl)
theorem mE:∀{ks:LN} {ps:List LN},(∀(i:Nat) k p,ks[i]? =some k->ps[i]? =some p->(!(k==7)||c6 p)=true)->eY ks ps=true
 |k::ks,p::ps,h=>by unfold eY;refine J (h 0 k p rfl rfl) (J (mE (ks:=ks) (ps:=ps) λi k' p' h1 h2=>h (i+1) k' p' (by simpa using h1) (by simpa using h2)) ?_);rfl
 |[],_,_=>rfl
 |_::_,[],_=>rfl
noncomputable def gH(l w0:LN)(mid:List LN)(wn:LN)(ks:LN):Option (List LN):=match qW l w0 mid wn with
 |some ps=>match eY ks ps with
  |true=>some ps
  |false=>none
 |none=>none
section
variable {hx hd:Addr}
theorem tQ(ft:Ft c)(hA:Rm 2 A){w0:LN}{mid:List LN}(mK:ks.length=mid.length+1)(hz:l.length<=1000)(hw:∀w∈w0::(mid++[wn]),w.length<=1000)(hm:mid.length<=900)
  (h1:∀σ' d ps,gH l w0 mid wn ks=some ps->Kp V σ'->V d=none->σ' d=some (.lst (ps.map aC))->Q (.ref d) σ') (h2:∀σ',gH l w0 mid wn ks=none->Kp V σ'->Q .none σ'):aw c A φ (.ref 334) [.ref hx,aC l,.tup ((w0::(mid++[wn])).map aC),.tup (ks.map pid)] V Q:=by
 have zl:sizeLine=2^24:=rfl;have hl:(ks.map pid).length=ks.length:=length_map ..;refine enter ft "tpl_match" (hA:Rm (1+1) A) rfl rfl rfl rfl (bp4 λ_ _ _ _=>rfl) rfl λL A' aG=>go ft ⟨ib (by exact Ly mK hm zl hl) ?_⟩;refine J hl (J mK ?_);refine⟨Jr ft aG hz hw (by exact cz hm) (λσ₁ d ps e k1 hd e1=>?_) λσ₁ e k1=>h2 σ₁ (by unfold gH;exact J e rfl) k1⟩;refine aA (vW e) λc1 c2=>?_
 have em:gH l w0 mid wn ks=match eY ks ps with
  |true=>some ps
  |false=>none:=by unfold gH;exact J e rfl
 refine⟨bP aG.handled (by rfl) (eh ft ⟨ib (by exact Ly mK hm zl hl) ⟨iS λrg ky=>?_⟩⟩)⟩;refine J hl ?_
 refine⟨_,_,aO.gx ae (by decide) (by exact TY mK hm) (by decide) (by exact HW),λi m' σ'=>mz (m'=[(("host":Str),PV.ref hx),("text",aC l),("texts",.tup ((w0::(mid++[wn])).map aC)),("types",.tup (ks.map pid)),("taken",.ref d)]) (σ'=upd σ₁ rg (.gx 0 ks.length)) (∀(j:Nat) k p,j<i->ks[j]? =some k->ps[j]? =some p->(!(k==7)||c6 p)=true),
  ⟨rfl,rfl,λj k p h=>absurd h (Nat.not_lt_zero _)⟩,λ_ _ _ _=>rfl,λi v c0 hv cw mm σ' zq=>go ft ?_,λmm σ' zq=>go ft ?_⟩
 ·refine fp zq λq1 q2 q3=>?_;clear zq
  subst q1 q2;refine aA (kJ hv) λhi au=>?_;subst au;obtain ⟨k,hk⟩:∃k,ks[i]? =some k:=⟨_,getElem?_eq_getElem hi⟩;obtain ⟨p,hp⟩:∃p,ps[i]? =some p:=⟨_,getElem?_eq_getElem (by exact TX mK c1 hi)⟩;have bad:(!(k==7)||c6 p)=false->Q .none (upd σ₁ rg (.gx 0 ks.length)):=λq=>h2 _ (by exact J em (J (oi hk hp q) rfl)) λa o e=>ai ky (k1 a o e)
  have next:(!(k==7)||c6 p)=true->∀(j:Nat) k p,j<i+1->ks[j]? =some k->ps[j]? =some p->(!(k==7)||c6 p)=true:=λq j k' p' hj h1 h2=>by
   by_cases e:j=i
   ·subst e;rw[hk] at h1;rw[hp] at h2;obtain rfl:=sI h1;obtain rfl:=sI h2;exact q
   ·exact q3 j k' p' (by exact Lx hj e) h1 h2
  refine⟨bw i (by refine J getElem?_map (J hk ?_);rfl) ?_ (by exact TV mK hm hi)⟩
  have ek:((k:Int)==7)=(k==7):=by
   induction q:k==7 with
   |true=>refine J (eq_of_beq q) ?_;rfl
   |false=>rw[beq_eq_false_iff_ne] at q ⊢;exact TU q
  refine bZ (λq=>?_) λq=>?_
  ·have q:(k==7)=true:=ek▸q
   refine⟨cG (k:=i) (ai ky e1) (by refine J getElem?_map (J hp ?_);rfl) (by exact TS mK hm hi) ⟨xy ft aG.le (by have:=c2 p (mem_of_getElem? hp);exact TR hz this) ?_⟩⟩;induction hbk:c6 p with
   |true=>exact(gf _ rfl rfl (next (by refine J q (J hbk ?_);rfl)) (Le.new rfl))
   |false=>exact bad (by refine J q (J hbk ?_);rfl)
  ·have q:(k==7)=false:=ek▸q
   exact(gf _ rfl rfl (next (by refine J q ?_;rfl)) (Le.new rfl))
 ·refine fp zq λq1 q2 q3=>?_;clear zq
  subst q1 q2
  have q4:eY ks ps=true:=mE λi k p h1 h2=>q3 i k p (by refine J (length_map _) (J length_range ?_);have:=ar h1;exact TQ this) h1 h2
  exact h1 _ d ps (by exact J em (J q4 rfl)) (λa o e=>ai ky (k1 a o e)) hd (ai ky e1)
theorem vg(ft:Ft c)(hA:Rm 1 A)
  (h1:l=w0->∀d,V d=none->Q (.ref d) (upd V d (.lst []))) (h2:l≠w0->Q .none V):aw c A φ (.ref 334) [.ref hx,aC l,.tup [aC w0],.tup []] V Q:=by
 refine enter ft "tpl_match" (hA:Rm (0+1) A) rfl rfl rfl rfl (bp4 λ_ _ _ _=>rfl) rfl λL A' aG=>go ft ⟨ib (by simp) ⟨bw 0 rfl (bZ (λq=>?_) λq=>?_)⟩⟩
 ·have q:(S l==S w0)=true:=q
  rw[cH] at q;exact⟨h1 (eq_of_beq q)⟩
 ·have q:(S l==S w0)=false:=q
  rw[cH,beq_eq_false_iff_ne] at q;exact h2 q
end
noncomputable def yX(ts:List LN)(ks:LN)(tl:LN)(seg pl:Nat)(P:Addr):Map:=[("texts",.tup (ts.map aC)),("types",.tup (ks.map pid)),("tail",aC tl),("segment",.int seg),("place",.int pl),("pieces",.ref P)]
structure Cut (cx cd P:Addr) (ts:List LN) (ks:LN) (tl:LN) (seg pl:Nat) (iB:List Pc) (V:St):Prop where
 x:V cx=some (.inst 351 cd)
 d:V cd=some (.dh (yX ts ks tl seg pl P))
 p:V P=some (.lst (iB.map dx))
def m7(cd P:Addr)(V σ':St):Prop:=∀a o,V a=some o->a≠cd->a≠P->σ' a=some o
theorem m7.trans{cd P:Addr}{av:St}(x:m7 cd P V σ')(y:m7 cd P σ' av):m7 cd P V av:=λa o e h1 h2=>y a o (x a o e h1 h2) h1 h2
noncomputable def cM(ts:List LN)(tl:LN)(seg:Nat):LN:=if seg+1=ts.length then tl else ts.getD seg []
noncomputable def gw(ts:List LN)(ks:LN)(tl:LN)(Eo pl0 seg pl:Nat):Pc:=if seg=Eo then ([((cM ts tl seg).take pl).drop pl0],[]) else
 ((ts.getD Eo []).drop pl0::((ts.take seg).drop (Eo+1)++[(cM ts tl seg).take pl]),(ks.take seg).drop Eo)
section
variable {cx cd P:Addr} {seg pl:Nat} {iB:List Pc}
theorem Cut.ne(C:Cut cx cd P ts ks tl seg pl iB V):cx≠cd/\cx≠P/\cd≠P:=by
 refine aN (λe=>?_) (λe=>?_) (λe=>?_)
 ·have:=C.x;rw[e,C.d] at this;exact kB this
 ·have:=C.x;rw[e,C.p] at this;exact kB this
 ·have:=C.d;rw[e,C.p] at this;exact kB this
theorem bC(ft:Ft c)(C:Cut cx cd P ts ks tl seg pl iB V)(hm:x∈uf)(hx:dB (yX ts ks tl seg pl P) x=some p)(h:Q p V):W1 c A φ Vr (λo=>getAttr o x true) (.ref cx) V Q:=
 pP ft.ok C.x C.d (ft.cu.at_ x hm).1 ft.cu.Jq (ft.cu.at_ x hm).2.2 hx h
theorem Cut.move(C:Cut cx cd P ts ks tl seg pl iB V)(uR Gm:Nat):Cut cx cd P ts ks tl uR Gm iB (upd V cd (.dh (yX ts ks tl uR Gm P)))/\m7 cd P V (upd V cd (.dh (yX ts ks tl uR Gm P))):=by refine bt C.ne λn1 n2 n3=>?_;exact⟨⟨by refine J (aB n1) ?_;exact C.x,ae,by refine J (aB (Ne.symm n3)) ?_;exact C.p⟩,λa o e h1 h2=>by refine J (aB h1) ?_;exact e⟩
theorem Cut.put(C:Cut cx cd P ts ks tl seg pl iB V)(p:Pc):Cut cx cd P ts ks tl seg pl (iB++[p]) (upd V P (.lst (iB.map dx++[dx p])))/\m7 cd P V (upd V P (.lst (iB.map dx++[dx p]))):=by refine bt C.ne λn1 n2 n3=>?_;exact⟨⟨by refine J (aB n2) ?_;exact C.x,by refine J (aB n3) ?_;exact C.d,by refine J ae (J map_append ?_);rfl⟩,λa o e h1 h2=>by refine J (aB h2) ?_;exact e⟩
theorem oa(ft:Ft c)(C:Cut cx cd P ts ks tl seg pl iB V)(Gm:Nat){Q:Unit->St->Prop}(h:∀σ',Cut cx cd P ts ks tl seg Gm iB σ'->m7 cd P V σ'->Q () σ'):W2 c A φ RU (λov v=>setAttr ov "place" v) (.ref cx) (.int Gm) V Q:=
 tF ft.ok C.x C.d ft.cu.Bp ft.cu.over (ft.cu.at_ "place" (by decide)).2.1 ft.cu.Jq (Nat.le_of_ble_eq_true rfl) (h _ (C.move seg Gm).1 (C.move seg Gm).2)
theorem uP(ft:Ft c)(C:Cut cx cd P ts ks tl seg pl iB V)(uR:Nat){Q:Unit->St->Prop}(h:∀σ',Cut cx cd P ts ks tl uR pl iB σ'->m7 cd P V σ'->Q () σ'):W2 c A φ RU (λov v=>setAttr ov "segment" v) (.ref cx) (.int uR) V Q:=
 tF ft.ok C.x C.d ft.cu.Bp ft.cu.over (ft.cu.at_ "segment" (by decide)).2.1 ft.cu.Jq (Nat.le_of_ble_eq_true rfl) (h _ (C.move uR pl).1 (C.move uR pl).2)
theorem eT(a b:Nat):((a:Int)==(b:Int))=(a==b):=by
 induction q:a==b with
 |true=>rw[eq_of_beq q,beq_self_eq_true]
 |false=>rw[beq_eq_false_iff_ne] at q ⊢;exact TP q
theorem kD(ft:Ft c)(hA:Rm 1 A)(C:Cut cx cd P ts ks tl seg pl iB V){s:Nat}(hs:s<ts.length)(hz:ts.length<=1000)(h:Q (aC (cM ts tl s)) V):aw c A φ (.ref 362) [.ref cx,.int s] V Q:=by
 have zl:sizeLine=2^24:=rfl;refine enter ft "text_at" (hA:Rm (0+1) A) rfl rfl rfl rfl (pF λ_ _=>rfl) rfl λL A' aG=>go ft ⟨bC ft C (by decide) rfl ⟨ib (by refine J (length_map _) ?_;exact nZ zl hz) (bZ (λe=>?_) λe=>?_)⟩⟩
 all_goals
  have e':((ts.map aC).length:Int)-1=((ts.length-1:Nat):Int):=by refine J (length_map _) ?_;exact TO hs
  rw[e',eT] at e
 ·rw[beq_iff_eq] at e
  unfold cM at h;rw[if_pos (by exact TN hs e)] at h;exact⟨bC ft C (by decide) rfl h⟩
 ·rw[beq_eq_false_iff_ne] at e
  unfold cM at h;rw[if_neg (by exact TM e)] at h;refine⟨bC ft C (by decide) rfl ⟨bw s (p:=aC (ts.getD s [])) (by refine J getElem?_map (J (getElem?_eq_getElem hs) (J getD_eq_getElem?_getD (J (getElem?_eq_getElem hs) ?_)));rfl) h (by exact Lw hs hz)⟩⟩
theorem Ge{l:List PV}{a b:Nat}(h:Q (.tup ((l.take b).drop a)) V)(hz:l.length<=100000):eZ c V (.tup l) (some (a:Int)) (some (b:Int)) Q:=.tup (by refine J sizeLine_eq ?_;exact cz hz) (by refine J (Gf _ _ _) ?_;exact h)
theorem tf(ft:Ft c)(hA:Rm 2 A)(C:Cut cx cd P ts ks tl seg pl iB V){s p:Nat}(hs:s<ts.length)(MO:seg<ts.length)(hz:ts.length<=1000)(hk:ks.length<=1000)(hp:iB.length<=1000)(hl:∀x∈tl::ts,x.length<=1000)
  (h:∀σ',Cut cx cd P ts ks tl s p (iB++[gw ts ks tl seg pl s p]) σ'->m7 cd P V σ'->Q .none σ'):aw c A φ (.ref 369) [.ref cx,.int s,.int p] V Q:=by
 have zl:sizeLine=2^24:=rfl
 have tz:∀s,(cM ts tl s).length<=1000:=λs=>by
  unfold cM
  split
  ·exact hl _ (.head _)
  ·refine J getD_eq_getElem?_getD ?_
   induction q:ts[s]? with
   |none=>exact Nat.zero_le _
   |some x=>exact hl x (.tail _ (mem_of_getElem? q))
 have gz:(ts.getD seg []).length<=1000:=by refine J getD_eq_getElem?_getD (J (getElem?_eq_getElem MO) ?_);exact hl _ (.tail _ (getElem_mem MO))
 refine enter ft "take" (hA:Rm (1+1) A) rfl rfl rfl rfl (wI λ_ _ _=>rfl) rfl λL A' aG=>?_;refine ZV ft (λm' σ'=>m'=[(("cut":Str),PV.ref cx),("segment",.int s),("place",.int p),("piece",dx (gw ts ks tl seg pl s p))]/\V=σ') ?_ λm' σ' zq=>?_
 ·refine⟨bC ft C (by decide) rfl (bZ (λe=>?_) λe=>?_)⟩
  all_goals rw[eT] at e
  ·rw[beq_iff_eq] at e
   subst e;refine⟨kD ft aG C hs hz ⟨bC ft C (by decide) rfl ⟨oT (a:=pl) (b:=p) (cK _ rfl rfl (Le.all (aQ rfl rfl rfl ?_ trivial))) (by have:=tz s;exact cz this)⟩⟩⟩;unfold gw;refine J (if_pos rfl) ?_;rfl
  ·rw[beq_eq_false_iff_ne] at e
   have eg:(ts.map aC)[seg]? =some (aC (ts.getD seg [])):=by refine J getElem?_map (J (getElem?_eq_getElem MO) (J getD_eq_getElem?_getD (J (getElem?_eq_getElem MO) ?_)));rfl
   refine⟨bC ft C (by decide) rfl ⟨bC ft C (by decide) rfl ⟨bw seg eg ⟨bC ft C (by decide) rfl ⟨Bi (a:=pl) ?_ (by exact cz gz)⟩⟩ (by exact Lw MO hz)⟩⟩⟩;refine⟨bC ft C (by decide) rfl ⟨bC ft C (by decide) rfl ⟨Ge (a:=seg+1) (b:=s) ?_ (by refine J (length_map _) ?_;exact cz hz)⟩⟩⟩;refine⟨kD ft aG C hs hz ⟨r8 (b:=p) ?_ (by have:=tz s;exact cz this)⟩⟩;have lm:(((ts.map aC).take s).drop (seg+1)).length<=1000:=by refine J length_drop (J length_take (J (length_map _) ?_));exact TJ hz
   refine⟨q9 (by rw[length_singleton];exact TH zl lm) ⟨q9 (by rw[length_append,length_singleton,length_singleton];exact TG zl lm) ?_⟩⟩;refine⟨bC ft C (by decide) rfl ⟨bC ft C (by decide) rfl ⟨Ge (a:=seg) (b:=s) (cK _ rfl rfl (Le.all (aQ rfl rfl rfl ?_ trivial))) (by refine J (length_map _) ?_;exact cz hk)⟩⟩⟩;unfold gw;refine J (if_neg (λq=>e q)) ?_;refine(?_:some _=some _);simp[map_drop,map_take]
 ·refine aA zq λe1 e2=>?_;clear zq
  subst e1 e2;refine⟨bC ft C (by decide) rfl ⟨_,_,bD C.p,a9,⟨bN C.p (by refine J (length_map _) ?_;exact nZ zl hp) ?_⟩⟩⟩;refine aA (C.put (gw ts ks tl seg pl s p)) λC1 F1=>?_;exact⟨uP ft C1 s λay C2 F2=>⟨oa ft C2 p λaD C3 F3=>h _ C3 (F1.trans (F2.trans F3))⟩⟩
end
noncomputable def mq(ts:List LN)(tl w:LN):Nat->Nat->Option (Nat×Nat)
 |0,_=>none
 |n+1,s=>match gM (cM ts tl s) w 0 (cM ts tl s).length with
  |some k=>some (s,k)
  |none=>mq ts tl w n (s+1)
theorem fV(ts:List LN)(tl w:LN)(n s:Nat):mq ts tl w (n+1) s=match gM (cM ts tl s) w 0 (cM ts tl s).length with
  |some k=>some (s,k)
  |none=>mq ts tl w n (s+1):=rfl
noncomputable def iH(ts:List LN)(tl w:LN)(seg pl:Nat):Option (Nat×Nat):=match gM (cM ts tl seg) w pl (cM ts tl seg).length with
 |some k=>some (seg,k)
 |none=>mq ts tl w (ts.length-(seg+1)) (seg+1)
noncomputable abbrev CS:=Nat×Nat×List Pc
noncomputable def gI(ts:List LN)(ks:LN)(tl:LN)(s:CS):Option CS:=
 if s.2.1<(cM ts tl s.1).length then some (s.1,s.2.1+1,s.2.2++[gw ts ks tl s.1 s.2.1 s.1 (s.2.1+1)])
 else if s.1+1<ts.length then some (s.1+1,0,s.2.2++[gw ts ks tl s.1 s.2.1 (s.1+1) 0]) else none
noncomputable def toK(ts:List LN)(ks:LN)(tl w:LN)(s:CS):Option CS:=match iH ts tl w s.1 s.2.1 with
 |some q=>some (q.1,q.2+w.length,s.2.2++[gw ts ks tl s.1 s.2.1 q.1 q.2])
 |none=>none
theorem qJ(l y:LN)(lo hi:Nat):(∃k,gM l y lo hi=some k/\mQ l y lo hi=(k:Int))∨(gM l y lo hi=none/\mQ l y lo hi=-1):=by
 unfold mQ;induction gM l y lo hi with
 |some k=>exact .inl (aj k rfl rfl)
 |none=>exact .inr ⟨rfl,rfl⟩
section
variable {cx cd P:Addr} {seg pl:Nat} {iB:List Pc}
structure Sz (ts:List LN) (ks:LN) (tl:LN) (seg:Nat) (iB:List Pc):Prop where
 s:seg<ts.length
 z:ts.length<=1000
 k:ks.length<=1000
 p:iB.length<=1000
 l:∀x∈tl::ts,x.length<=1000
theorem AY(ft:Ft c)(hA:Rm 3 A)(C:Cut cx cd P ts ks tl seg pl iB V)(Z:Sz ts ks tl seg iB)(hw:w.length<=1000)
  (h1:∀σ' s,toK ts ks tl w (seg,pl,iB)=some s->Cut cx cd P ts ks tl s.1 s.2.1 s.2.2 σ'->m7 cd P V σ'->Q (.bool true) σ') (h2:toK ts ks tl w (seg,pl,iB)=none->Q (.bool false) V):aw c A φ (.ref 376) [.ref cx,aC w] V Q:=by
 have zl:sizeLine=2^24:=rfl;have zt:=Z.z;refine enter ft "take_to" (hA:Rm (2+1) A) rfl rfl rfl rfl (pF λ_ _=>rfl) rfl λL A' aG=>go ft ⟨bC ft C (by decide) rfl ⟨kD ft aG.le C Z.s Z.z ⟨_,_,tP,a9,⟨bC ft C (by decide) rfl ⟨Fe ⟨?_⟩⟩⟩⟩⟩⟩;refine Er (λn m' σ'=>mh λ(s:Nat) (f:Int)=>sS (m'=[(("cut":Str),PV.ref cx),("word",aC w),("segment",.int s),("found",.int f)]) (V=σ') (n=ts.length-s) (s<ts.length) (((∃k:Nat,f=k/\iH ts tl w seg pl=some (s,k))∨(f=-1/\iH ts tl w seg pl=mq ts tl w (ts.length-(s+1)) (s+1))))) (n₀:=ts.length-seg) (dE seg _ rfl rfl rfl Z.s ?_) λn m' σ' zq=>OX ft ?_
 ·unfold iH
  rcases qJ (cM ts tl seg) w pl (cM ts tl seg).length with ⟨k,q1,q2⟩|⟨q1,q2⟩
  ·refine J q1 (J q2 ?_);exact .inl (aj k rfl rfl)
  ·refine J q1 (J q2 ?_);exact .inr ⟨rfl,rfl⟩
 ·refine d5 zq λs f e1 e2 e3 e4 e5=>?_;clear zq
  subst e1 e2 e3;show (if _=true then _ else _);rcases e5 with ⟨k,rfl,e5⟩|⟨rfl,e5⟩
  ·refine J (if_neg (by rw[decide_eq_true_eq];exact Oy)) ?_
   have et:toK ts ks tl w (seg,pl,iB)=some (s,k+w.length,iB++[gw ts ks tl seg pl s k]):=by unfold toK;simp only;exact J e5 rfl
   refine go ft ⟨tf ft aG C e4 Z.s Z.z Z.k Z.p Z.l λσ₁ C1 F1=>⟨bC ft C1 (by decide) rfl ⟨fg ⟨oa ft C1 (k+w.length) λay C2 F2=>?_⟩ (by exact cz hw)⟩⟩⟩;exact h1 _ _ et C2 (F1.trans F2)
  ·refine J (if_pos (by decide)) ?_
   refine go ft ⟨bC ft C (by decide) rfl ⟨ib (by refine J (length_map _) ?_;exact nZ zl zt) (bZ (λe=>?_) λe=>?_)⟩⟩
   all_goals
    rw[length_map] at e;have e:(((s+1:Nat):Int)==(ts.length:Int))=_:=e;rw[eT] at e
   ·rw[beq_iff_eq] at e
    exact h2 (by unfold toK;simp only;refine J e5 (J e (J (Nat.sub_self _) ?_));rfl)
   ·rw[beq_eq_false_iff_ne] at e
    refine⟨kD ft aG.le C (s:=s+1) (by exact Ls e4 e) Z.z ⟨_,_,tP,a9,⟨Ff ?_⟩⟩⟩;refine(aj (ts.length-(s+1)) (by exact TB e4) ⟨s+1,_,rfl,rfl,rfl,by exact Ls e4 e,?_⟩);have en:ts.length-(s+1)=ts.length-(s+1+1)+1:=by exact Tz e4 e
    refine J e5 (J en (J (fV _ _ _ _ _) ?_));rcases qJ (cM ts tl (s+1)) w 0 (cM ts tl (s+1)).length with ⟨k,q1,q2⟩|⟨q1,q2⟩
    ·refine J q1 (J q2 ?_);exact .inl (aj k rfl rfl)
    ·refine J q1 (J q2 ?_);exact .inr ⟨rfl,rfl⟩
theorem EN(ft:Ft c)(hA:Rm 3 A)(C:Cut cx cd P ts ks tl seg pl iB V)(Z:Sz ts ks tl seg iB)
  (h1:∀σ' s,gI ts ks tl (seg,pl,iB)=some s->Cut cx cd P ts ks tl s.1 s.2.1 s.2.2 σ'->m7 cd P V σ'->Q (.bool true) σ') (h2:gI ts ks tl (seg,pl,iB)=none->Q (.bool false) V):aw c A φ (.ref 383) [.ref cx] V Q:=by
 have zl:sizeLine=2^24:=rfl;have zt:=Z.z;have zs:=Z.s
 have tz:(cM ts tl seg).length<=1000:=by
  unfold cM
  split
  ·exact Z.l _ (.head _)
  ·refine J getD_eq_getElem?_getD (J (getElem?_eq_getElem Z.s) ?_);exact Z.l _ (.tail _ (getElem_mem Z.s))
 refine enter ft "take_least" (hA:Rm (2+1) A) rfl rfl rfl rfl (Dq λ_=>rfl) rfl λL A' aG=>go ft ⟨bC ft C (by decide) rfl ⟨bC ft C (by decide) rfl ⟨kD ft aG.le C Z.s Z.z ⟨fg (bZ (λe=>?_) λe=>?_) (by exact cz tz)⟩⟩⟩⟩
 ·have e:=of_decide_eq_true e
  refine⟨bC ft C (by decide) rfl ⟨bC ft C (by decide) rfl ⟨tf (p:=pl+1) ft aG C Z.s Z.s Z.z Z.k Z.p Z.l λσ₁ C1 F1=>?_⟩⟩⟩;exact h1 _ (seg,pl+1,_) (by unfold gI;dsimp only;exact J (if_pos (by exact TF e)) rfl) C1 F1
 ·have e:=of_decide_eq_false e
  refine⟨bC ft C (by decide) rfl ⟨bC ft C (by decide) rfl ⟨ib (by refine J (length_map _) ?_;exact nZ zl zt) (bZ (λe'=>?_) λe'=>?_)⟩⟩⟩
  all_goals rw[length_map] at e'
  ·have e':=of_decide_eq_true e'
   refine⟨bC ft C (by decide) rfl ⟨tf (s:=seg+1) (p:=0) ft aG C (by exact Lv e') Z.s Z.z Z.k Z.p Z.l λσ₁ C1 F1=>?_⟩⟩;exact h1 _ (seg+1,0,_) (by unfold gI;dsimp only;exact J (if_neg (by exact Lu e)) (J (if_pos (by exact Lv e')) rfl)) C1 F1
  ·have e':=of_decide_eq_false e'
   exact h2 (by unfold gI;dsimp only;exact J (if_neg (by exact Lu e)) (J (if_neg (by exact TC e')) rfl))
end
section
theorem cI(ft:Ft c){fI x:Addr}{stI:Stmt}{names:List Str}{ms:List (Str×Addr×Stmt)}(F:DN c.K C fI stI names ms)(hn:name∈names)(e:V x=some (.inst C d)/\V d=some (.dh m))(hz:Nat.ble (bh m name p).length 100=true){Q:Unit->St->Prop}
  (h:∀σ',σ' x=some (.inst C d)/\σ' d=some (.dh (bh m name p))->(∀a,a≠d->σ' a=V a)->Q () σ'):W2 c A φ RU (λov v=>setAttr ov name v) (.ref x) p V Q:=
 tF ft.ok e.1 e.2 F.Bp F.over (F.at_ name hn).2.1 F.Jq (Nat.le_of_ble_eq_true hz) (h _ ⟨by rw[aB (λq=>by have:=e.1;rw[q,e.2] at this;exact kB this)];exact e.1,ae⟩ λa ha=>aB ha)
theorem wK{l:List PV}(hx:l.getLast? =some p)(h:Q p V)(hz:l.length<=100000)
  (hs:∀(t:Addr) (u:Tok),subscripted slice false (Value.ref t) (Value.int (-1) u)=operate [Value.ref t,Value.int (-1) u] (getItem (Value.ref t) (Value.int (-1) u)):=by intro _ _;rfl):W2 c A φ Vr (subscriptTail value slice) (.tup l) (.int (-1)) V Q:=by
 have gL:l≠[]:=by rintro rfl;exact bL hx
 have hl:1<=l.length:=length_pos_iff.mpr gL;exact jb (j:=l.length-1) (seqIndex_neg (k:=1) (by decide) hl) (by refine rS getLast?_eq_getElem? ?_;exact hx) (by decide) (by decide) h hs
theorem Fu(ft:Ft c)(hA:Rm 3 A)
  (h:∀σ' cx cd P,Cut cx cd P ts ks tl 0 0 [] σ'->Kp V σ'->V cd=none->V P=none->Q (.ref cx) σ'):aw c A φ (.ref 351) [.tup (ts.map aC),.tup (ks.map pid),aC tl] V Q:=by
 refine mW ft.ok (hA:Rm (2+1) A) ft.cu.made ft.cu.YN ft.cu.ID λx d A' aG hx hd gL=>?_;refine oF ft (aG:Rm (1+1) A') ft.cu.IF rfl rfl rfl (bp4 λ_ _ _ _=>rfl) rfl λL A'' E4=>go ft ?_;have e0:upd (upd V d (.dh [])) x (.inst 351 d) x=some (.inst 351 d)/\upd (upd V d (.dh [])) x (.inst 351 d) d=some (.dh []):=⟨ae,by exact J (aB (Ne.symm gL)) (J ae rfl)⟩;have k0:∀a,a≠d->a≠x->upd (upd V d (.dh [])) x (.inst 351 d) a=V a:=λa h1 h2=>by exact J (aB h2) (J (aB h1) rfl)
 generalize upd (upd V d (.dh [])) x (.inst 351 d)=fC at e0 k0;refine⟨cI ft ft.cu (by decide) e0 rfl λσ₁ e1 k1=>⟨cI ft ft.cu (by decide) e1 rfl λay e2 k2=>⟨cI ft ft.cu (by decide) e2 rfl λaD e3 k3=>⟨cI ft ft.cu (by decide) e3 rfl λbB e4 k4=>⟨cI ft ft.cu (by decide) e4 rfl λcW e5 k5=>⟨λP hP=>?_⟩⟩⟩⟩⟩⟩;have pd:P≠d:=by rintro rfl;rw[e5.2] at hP;exact fB hP
 have px:P≠x:=by rintro rfl;rw[e5.1] at hP;exact fB hP
 have key:∀a,a≠d->a≠x->cW a=V a:=λa h1 h2=>by exact J (k5 a h1) (J (k4 a h1) (J (k3 a h1) (J (k2 a h1) (J (k1 a h1) (J (k0 a h1 h2) rfl)))))
 refine⟨cI ft ft.cu (m:=_) (by decide) ⟨ai hP e5.1,ai hP e5.2⟩ rfl λgv e6 k6=>⟨rfl,?_⟩⟩;refine h gv x d P ⟨e6.1,e6.2,by refine J (k6 P pd) (J ae ?_);rfl⟩ (λa o q=>?_) hd (by refine rS (key P pd px) ?_;exact hP);have ad:a≠d:=by rintro rfl;rw[hd] at q;exact bL q
 have ax:a≠x:=by rintro rfl;rw[hx] at q;exact bL q
 have aP:a≠P:=by rintro rfl;rw[key a ad ax,q] at hP;exact fB hP
 refine J (k6 a ad) (J (aB aP) (J (key a ad ax) ?_));exact q
noncomputable def bR(ts:List LN):LN:=ts.getLast?.getD []
noncomputable def lp(ts:List LN)(w0 wn:LN):Bool:=!(ts.length==1&&decide ((ts.headD []).length<w0.length+wn.length))&&(((ts.headD []).take w0.length==w0)&&(decide (wn.length<=(bR ts).length)&&((bR ts).drop ((bR ts).length-wn.length)==wn)))
theorem kU{α β:Type}(f:α->β){l:List α}{x:α}(h:l.getLast? =some x):(l.map f).getLast? =some (f x):=by refine J getLast?_map (J h ?_);rfl
theorem Nv(ft:Ft c)(hA:Rm 1 A){t0:LN}{ts:List LN}{w0:LN}{mid:List LN}(hz:ts.length<=1000)(hm:mid.length<=1000)(hl:∀x∈t0::ts,x.length<=1000)(hw:∀w∈w0::(mid++[wn]),w.length<=1000)
  (h:Q (.bool (lp (t0::ts) w0 wn)) V):aw c A φ (.ref 390) [.tup ((t0::ts).map aC),.tup ((w0::(mid++[wn])).map aC)] V Q:=by
 have zl:sizeLine=2^24:=rfl;have h0:=hl t0 (.head _);have D1:=hw w0 (.head _);have J6:=hw wn (by simp);obtain ⟨tn,JQ⟩:∃tn,(t0::ts).getLast? =some tn:=⟨_,getLast?_eq_some_getLast (by exact cons_ne_nil t0 ts)⟩;have lz:((t0::ts).map aC).length<=100000:=by refine J (length_map _) (J length_cons ?_);exact Tx hz
 have lw:((w0::(mid++[wn])).map aC).length<=100000:=by simp;exact cz hm
 have Io:((w0::(mid++[wn])).map aC).getLast? =some (aC wn):=kU aC (getLast?_concat (l:=w0::mid));have YE:((t0::ts).map aC).getLast? =some (aC tn):=kU aC JQ;have el:bR (t0::ts)=tn:=by unfold bR;refine J JQ ?_;rfl
 have rest:((t0::ts).length==1&&decide ((t0:LN).length<w0.length+wn.length))=false->Q (.bool (((t0.take w0.length==w0)&&(decide (wn.length<=tn.length)&&(tn.drop (tn.length-wn.length)==wn))))) V:=λq=>by unfold lp at h;rw[el] at h;have h:Q (.bool (!((t0::ts).length==1&&decide ((t0:LN).length<w0.length+wn.length))&&(((t0.take w0.length==w0)&&(decide (wn.length<=tn.length)&&(tn.drop (tn.length-wn.length)==wn)))))) V:=h;rw[q] at h;exact h
 have e1:(((t0::ts).map aC).length:Int)=((ts.length+1:Nat):Int):=by refine J (length_map _) ?_;rfl
 refine enter ft "ends_fit" (hA:Rm (0+1) A) rfl rfl rfl rfl (pF λ_ _=>rfl) rfl λL A' aG=>?_;refine cut ft (λm' σ'=>mz (m'=[(("texts":Str),PV.tup ((t0::ts).map aC)),("wanted",.tup ((w0::(mid++[wn])).map aC))]) (V=σ') (((t0::ts).length==1&&decide ((t0:LN).length<w0.length+wn.length))=false)) ⟨ib (by exact Tw hz zl e1) (bZ (λe=>?_) λe=>?_)⟩ λm' σ' zq=>?_
 ·rw[e1] at e
  have e:(((ts.length+1:Nat):Int)==((1:Nat):Int))=true:=e;rw[eT] at e;refine⟨bw 0 rfl ⟨fg ⟨bw 0 rfl ⟨fg ⟨wK Io ⟨fg (bZ (λe'=>?_) λe'=>⟨rfl,rfl,?_⟩) (by exact cz J6)⟩ lw⟩ (by exact cz D1)⟩⟩ (by exact cz h0)⟩⟩
  ·have e':=of_decide_eq_true e'
   have:lp (t0::ts) w0 wn=false:=by unfold lp;refine J (show ((t0::ts).length==1)=true from e) (J headD_cons (J (decide_eq_true (by exact Tv e')) ?_));rfl
   rw[this] at h;exact h
  ·have e':=of_decide_eq_false e'
   exact J (decide_eq_false (by exact Tu e')) (J (Bool.and_false _) rfl)
 ·rw[e1] at e
  have e:(((ts.length+1:Nat):Int)==((1:Nat):Int))=false:=e;rw[eT] at e;exact⟨rfl,rfl,by refine J (show ((t0::ts).length==1)=false from e) ?_;rfl⟩
 ·refine fp zq λe1 e2 e3=>?_;clear zq
  subst e1 e2;have h':=rest e3;refine⟨bw 0 rfl ⟨_,_,zR,a9,⟨bw 0 rfl ⟨Bf (bZ (λe=>?_) λe=>?_)⟩⟩⟩⟩
  ·rw[show (t0.take w0.length==w0)=true from e,Bool.true_and] at h'
   exact⟨wK YE ⟨_,_,EI,a9,⟨wK Io ⟨Ji h'⟩ lw⟩⟩ lz⟩
  ·rw[show (t0.take w0.length==w0)=false from e,Bool.false_and] at h'
   refine(?_:Q (.bool (t0.take w0.length==w0)) _);refine J (show (t0.take w0.length==w0)=false from e) ?_;exact h'
end
noncomputable def kF(ts:List LN)(ks:LN)(tl w:LN)(s:CS):Option CS:=match w with
 |[]=>gI ts ks tl s
 |_::_=>toK ts ks tl w s
noncomputable def runK(ts:List LN)(ks:LN)(tl:LN):List LN->CS->Option CS
 |[],s=>some s
 |w::ws,s=>match kF ts ks tl w s with
  |some s'=>runK ts ks tl ws s'
  |none=>none
noncomputable def qU(ts:List LN)(ks:LN)(w0:LN)(mid:List LN)(wn:LN):Option (List Pc):=match lp ts w0 wn with
 |true=>match runK ts ks ((bR ts).take ((bR ts).length-wn.length)) mid (0,w0.length,[]) with
  |some s=>some (s.2.2++[gw ts ks ((bR ts).take ((bR ts).length-wn.length)) s.1 s.2.1 (ts.length-1) ((bR ts).take ((bR ts).length-wn.length)).length])
  |none=>none
 |false=>none
theorem qf(ts:List LN)(tl w:LN):∀(n s:Nat) (q:Nat×Nat),n+s=ts.length->mq ts tl w n s=some q->q.1<ts.length
 |0,_,_,_,h=>by exact bL h
 |n+1,s,q,hn,h=>by
  rw[fV] at h
  split at h
  ·obtain rfl:=sI h;refine(?_:s<_);exact Oz hn
  ·exact qf ts tl w n (s+1) q (by exact LZ hn) h
theorem xW{s s':CS}(h:kF ts ks tl w s=some s')(hs:s.1<ts.length):s'.1<ts.length/\s'.2.2.length=s.2.2.length+1:=by
 unfold kF at h;induction w using LC with
 |nil=>
  simp only at h;unfold gI at h
  split at h
  ·obtain rfl:=sI h;exact⟨hs,by exact length_append⟩
  ·split at h
   ·rename_i q;obtain rfl:=sI h;exact⟨q,by exact length_append⟩
   ·exact bL h
 |cons u r=>
  simp only at h;unfold toK at h;induction q:iH ts tl (u::r) s.1 s.2.1 with
  |none=>rw[q] at h;exact bL h
  |some p=>
   rw[q] at h;obtain rfl:=sI h;refine⟨?_,by exact length_append⟩;unfold iH at q
   split at q
   ·obtain rfl:=sI q;exact hs
   ·exact qf ts tl _ _ _ p (by exact LX hs) q
section
theorem Hm{l:List PV}{a b:PV}(h:Q (.tup l) V)(hz:l.length<=100000):eZ c V (.tup (a::(l++[b]))) (some 1) (some (-1)) Q:=.tup (by refine J length_cons (J length_append (J length_singleton (J sizeLine_eq ?_)));exact Vl hz) (by
 have e1:=clipAt_nat (a::(l++[b])).length 1;have e2:=clipAt_neg (a::(l++[b])).length 1 (by decide)
 have e:sl (a::(l++[b])) (some 1) (some (-1))=l:=by simp only[sl,Option.elim];refine J (show (1:Int)=((1:Nat):Int) from rfl) (J e1 (J e2 ?_));simp
 refine J e ?_;exact h)
theorem xX(h:Q (.tup (mid.map aC)) V)(hz:mid.length<=100000):eZ c V (.tup ((w0::(mid++[wn])).map aC)) (some 1) (some (-1)) Q:=by refine J map_cons (J map_append ?_);exact Hm h (by refine J (length_map _) ?_;exact hz)
theorem Hn{b:Nat}{z:Int}(e:z=(b:Int))(h:Q (aC (l.take b)) V)(hz:l.length<=100000):eZ c V (aC l) none (some z) Q:=by subst e;exact r8 h hz
theorem xu(ft:Ft c)(hA:Rm 4 A){t0:LN}{ts:List LN}{w0:LN}{mid:List LN}(hz:ts.length<=900)(hk:ks.length<=1000)(hm:mid.length<=900)(hl:∀x∈t0::ts,x.length<=1000)(hw:∀w∈w0::(mid++[wn]),w.length<=1000)
  (h1:∀σ' d ps,qU (t0::ts) ks w0 mid wn=some ps->Kp V σ'->V d=none->σ' d=some (.lst (ps.map dx))->Q (.ref d) σ') (h2:∀σ',qU (t0::ts) ks w0 mid wn=none->Kp V σ'->Q .none σ'):aw c A φ (.ref 397) [.tup ((t0::ts).map aC),.tup (ks.map pid),.tup ((w0::(mid++[wn])).map aC)] V Q:=by
 have zl:sizeLine=2^24:=rfl;have D1:=hw w0 (.head _);have J6:=hw wn (by simp);obtain ⟨tn,JQ⟩:∃tn,(t0::ts).getLast? =some tn:=⟨_,getLast?_eq_some_getLast (by exact cons_ne_nil t0 ts)⟩;have lz:((t0::ts).map aC).length<=100000:=by refine J (length_map _) (J length_cons ?_);exact Vk hz
 have lw:((w0::(mid++[wn])).map aC).length<=100000:=by simp;exact cz hm
 have Io:((w0::(mid++[wn])).map aC).getLast? =some (aC wn):=kU aC (getLast?_concat (l:=w0::mid));have YE:((t0::ts).map aC).getLast? =some (aC tn):=kU aC JQ;have el:bR (t0::ts)=tn:=by unfold bR;refine J JQ ?_;rfl
 have Pp:=hl tn (mem_of_getLast? JQ);unfold qU at h1 h2;rw[el] at h1 h2;refine enter ft "cut_template" (hA:Rm (3+1) A) rfl rfl rfl rfl (wI λ_ _ _=>rfl) rfl λL A' aG=>go ft ⟨Nv ft aG.le (by exact cz hz) (by exact cz hm) hl hw (bZ (λe=>?_) λe=>?_)⟩
 ·have e:(!lp (t0::ts) w0 wn)=true:=e
  rw[Bool.not_eq_true'] at e;exact h2 V (by exact J e rfl) λ_ _ e=>e
 have e:(!lp (t0::ts) w0 wn)=false:=e;rw[Bool.not_eq_false'] at e;rw[e] at h1 h2;simp only at h1 h2
 have hle:wn.length<=tn.length:=by unfold lp at e;rw[el] at e;simp only[Bool.and_eq_true,decide_eq_true_eq] at e;exact e.2.2.1
 have et:(tn.length:Int)-(wn.length:Int)=((tn.length-wn.length:Nat):Int):=by exact Vj hle
 refine⟨wK YE ⟨fg ⟨wK Io ⟨fg ⟨Hn et ⟨Fu ft aG.le λσ₁ cx cd P C1 K1 hcd hP=>?_⟩ (by exact cz Pp)⟩ (by exact cz J6)⟩ lw⟩ (by exact cz Pp)⟩ lz⟩;refine⟨bw 0 rfl ⟨fg ⟨oa ft C1 w0.length λay C2 F2=>?_⟩ (by exact cz D1)⟩⟩;refine⟨bP aG.handled (by rfl) (eh ft ⟨xX ?_ (by exact cz hm)⟩)⟩;generalize htl:tn.take (tn.length-wn.length)=tl at*;have Pq:tl.length<=1000:=by refine rS htl (J length_take ?_);exact Vi Pp
 have Zw:V P=none:=hP;have k2:∀σ',m7 cd P σ₁ σ'->Kp V σ':=λσ' F a o e=>F a o (K1 a o e) (by rintro rfl;rw[hcd] at e;exact bL e) (by rintro rfl;rw[hP] at e;exact bL e)
 refine⟨_,_,aO.tup _,λi m' σ'=>m'=[(("texts":Str),PV.tup ((t0::ts).map aC)),("types",.tup (ks.map pid)),("wanted",.tup ((w0::(mid++[wn])).map aC)),("last",aC tn),("cut",.ref cx)]/\∃s:CS,Cut cx cd P (t0::ts) ks tl s.1 s.2.1 s.2.2 σ'/\m7 cd P σ₁ σ'/\s.1<(t0::ts).length/\s.2.2.length<=i/\
  runK (t0::ts) ks tl mid (0,w0.length,[])=runK (t0::ts) ks tl (mid.drop i) s,(cL rfl (0,w0.length,[]) C2 ⟨F2,Nat.succ_pos _,Nat.le_refl _,rfl⟩),λ_ _ _ _=>rfl,λi v c0 hv cw mm σ' zq=>go ft ?_,λmm σ' zq=>go ft ?_⟩
 ·refine my zq λq1 s q2 q3 q4 q5 q6=>?_;clear zq
  subst q1;refine ah (iE hv) λw hi zr=>?_;clear hv;subst zr;have EL:=ar hi
  have hd:mid.drop i=w::mid.drop (i+1):=by
   refine J (drop_eq_getElem_cons EL) ?_
   congr 1
   rw[getElem?_eq_getElem EL] at hi;exact sI hi
  rw[hd] at q6;have Z:Sz (t0::ts) ks tl s.1 s.2.2:=⟨q4,by refine J length_cons ?_;exact LR hz,hk,by exact Vh hm q5 EL,λx hx=>(mem_cons.mp hx).elim (λe=>e▸Pq) (hl x)⟩;have wz:=hw w (by refine rI mem_cons (rI mem_append ?_);exact .inr (.inl (mem_of_getElem? hi)))
  have yes:∀bB s',kF (t0::ts) ks tl w s=some s'->Cut cx cd P (t0::ts) ks tl s'.1 s'.2.1 s'.2.2 bB->m7 cd P σ' bB->Cut cx cd P (t0::ts) ks tl s'.1 s'.2.1 s'.2.2 bB/\m7 cd P σ₁ bB/\s'.1<(t0::ts).length/\s'.2.2.length<=i+1/\runK (t0::ts) ks tl mid (0,w0.length,[])=runK (t0::ts) ks tl (mid.drop (i+1)) s':=λbB s' e C' F'=>by
   refine aA (xW e q4) λl1 l2=>?_;refine(aQ C' (q3.trans F') l1 (by exact Vg q5 l2) ?_);refine J q6 ?_
   refine(?_:(match kF (t0::ts) ks tl w s with
    |some s'=>runK (t0::ts) ks tl (mid.drop (i+1)) s'
    |none=>none)=_)
   exact J e rfl
  have Mt:kF (t0::ts) ks tl w s=none->Q .none σ':=λe=>h2 _ (by
   refine J q6 ?_
   refine(?_:(match (match kF (t0::ts) ks tl w s with
    |some s'=>runK (t0::ts) ks tl (mid.drop (i+1)) s'
    |none=>none) with
    |some s=>some _
    |none=>none)=none)
   exact J e rfl) (k2 _ q3)
  induction w using LC with
  |nil=>exact⟨EN ft aG q2 Z (λbB s' e C' F'=>(aj _ ⟨rfl,s',yes bB s' e C' F'⟩ (Le.all (dZ rfl rfl rfl rfl rfl trivial)))) Mt⟩
  |cons u r=>exact⟨AY ft aG q2 Z wz (λbB s' e C' F'=>(aj _ ⟨rfl,s',yes bB s' e C' F'⟩ (Le.all (dZ rfl rfl rfl rfl rfl trivial)))) Mt⟩
 ·refine my zq λq1 s q2 q3 q4 q5 q6=>?_;clear zq
  subst q1;have e0:mid.drop (mid.map aC).length=[]:=by refine J (length_map _) ?_;exact drop_eq_nil_of_le (Nat.le_refl _)
  rw[e0] at q6;have q6:runK (t0::ts) ks tl mid (0,w0.length,[])=some s:=q6;rw[q6] at h1;have e1:(((t0::ts).map aC).length:Int)-1=((((t0::ts).length-1:Nat)):Int):=by refine J (length_map _) (J length_cons ?_);exact Vf
  have lt1:(t0::ts).length-1<(t0::ts).length:=by refine J length_cons ?_;exact Ve
  have q5':s.2.2.length<=1000:=by rw[length_map] at q5;exact Vd hm q5
  refine⟨ib (by exact nZ zl lz) ⟨bC ft q2 (by decide) rfl ⟨fg (Ho.mk ?_) (by exact cz Pq)⟩⟩⟩;refine J e1 ?_;refine tf ft aG.le q2 (s:=(t0::ts).length-1) (p:=tl.length) lt1 q4 (by refine J length_cons ?_;exact LR hz) hk q5' (λx hx=>(mem_cons.mp hx).elim (λe=>e▸Pq) (hl x)) λbB C4 F4=>?_;exact⟨bC ft C4 (by decide) rfl (h1 _ P _ rfl (k2 _ (q3.trans F4)) Zw C4.p)⟩
end
noncomputable def sgn(k:Nat):LN:=if k=6 then [83] else if k=7 then [78] else if k=16 then [84] else if k=17 then [85] else [63]
noncomputable def il:List LN->LN->LN
 |[],_=>[]
 |t::_,[]=>t
 |t::ts,k::ks=>t++(sgn k++il ts ks)
noncomputable def eF(p:Pc):LN:=il p.1 p.2
def x8(p:Pc):Prop:=p.1.length=p.2.length+1
theorem tZ:∀(u:List LN) (ku:LN) (v:List LN) (kv:LN),u.length=ku.length+1->v.length=kv.length+1->il (cg u v) (ku++kv)=il u ku++il v kv/\(cg u v).length=(ku++kv).length+1
 |[],ku,_,_,h,_=>by exact qp h
 |[x],[],v,kv,_,hv=>by
  induction v using LC with
  |nil=>exact qp hv
  |cons y b=>
   induction kv using LC with
   |nil=>exact⟨rfl,by simpa[cg] using hv⟩
   |cons k kv=>exact⟨by exact(append_assoc _ _ _),by simpa[cg] using hv⟩
 |[x],k::ku,_,_,h,_=>by cases h
 |x::x'::a,[],_,_,h,_=>by cases h
 |x::x'::a,k::ku,v,kv,h,hv=>by have ih:=tZ (x'::a) ku v kv (by simpa using h) hv;refine⟨?_,by simp only[cg,length_cons,cons_append,ih.2]⟩;dsimp only[cg,cons_append,il];refine J ih.1 ?_;simp
theorem qe{o p:Pc}{a:LN}(ho:x8 o)(hp:x8 p):x8 (cg (cg o.1 p.1) [a],o.2++p.2)/\eF (cg (cg o.1 p.1) [a],o.2++p.2)=eF o++(eF p++a):=by have h1:=tZ o.1 o.2 p.1 p.2 ho hp;have h2:=tZ (cg o.1 p.1) (o.2++p.2) [a] [] h1.2 rfl;rw[append_nil] at h2;exact⟨h2.2,by unfold eF;refine J h2.1 (J h1.1 ?_);exact(append_assoc _ _ _)⟩
noncomputable def jP:List LN->List (List LN)->List LN->List LN
 |ws,hs::EY,a::ts=>jP (ws.flatMap λw=>hs.map λx=>w++(x++a)) EY ts
 |ws,_,_=>ws
theorem o9:∀(kL:List (List Pc)) (ts:List LN) (js:List Pc),(∀ps∈kL,∀p∈ps,x8 p)->(∀o∈js,x8 o)->(∀o∈cR js kL ts,x8 o)/\(cR js kL ts).map eF=jP (js.map eF) (kL.map (·.map eF)) ts
 |[],ts,js,_,hj=>by induction ts using LC<;>exact⟨hj,rfl⟩
 |ps::kL,[],js,_,hj=>⟨hj,rfl⟩
 |ps::kL,a::ts,js,hp,hj=>by
  have h1:∀o∈js.flatMap (dP ps a),x8 o:=λo ho=>by refine ah (mem_flatMap.mp ho) λo' h1 h2=>?_;refine ah (mem_map.mp h2) λp h3 au=>?_;subst au;exact(qe (hj o' h1) (hp ps (.head _) p h3)).1
  have ih:=o9 kL ts (js.flatMap (dP ps a)) (λq hq=>hp q (.tail _ hq)) h1;refine⟨ih.1,?_⟩;refine(?_:(cR (js.flatMap (dP ps a)) kL ts).map eF=jP ((js.map eF).flatMap λw=>(ps.map eF).map λx=>w++(x++a)) (kL.map (·.map eF)) ts);refine J ih.2 (J map_flatMap (J (flatMap_map _ _ _) ?_))
  congr 1
  refine J flatMap_def (J flatMap_def ?_);refine congrArg flatten (map_congr_left λo ho=>?_);unfold dP;refine J map_map (J map_map ?_);apply map_congr_left;intro p IU;exact(qe (hj o ho) (hp ps (.head _) p IU)).2
def om(u:Nat):Prop:=u≠83/\u≠78/\u≠84/\u≠85
def tR(ts:List LN):Prop:=∀t∈ts,∀u∈t,om u
def rF(k:Nat):Prop:=k=6∨k=7∨k=16∨k=17
theorem g8(h:rF k):∃u,sgn k=[u]/\¬om u/\(u=83↔k=6):=by
 rcases h with rfl|rfl|rfl|rfl
 ·exact(bb 83 rfl (λh=>h.1 rfl) (by decide))
 ·exact(bb 78 rfl (λh=>h.2.1 rfl) (by decide))
 ·exact(bb 84 rfl (λh=>h.2.2.1 rfl) (by decide))
 ·exact(bb 85 rfl (λh=>h.2.2.2 rfl) (by decide))
theorem Em{a b:Nat}(ha:rF a)(hb:rF b)(h:sgn a=sgn b):a=b:=by rcases ha with rfl|rfl|rfl|rfl<;>rcases hb with rfl|rfl|rfl|rfl<;>first|rfl|(exact absurd h (by decide))
theorem yl:∀{t t' r r':LN},(∀u∈t,om u)->(∀u∈t',om u)->(∀u,r.head? =some u->¬om u)->(∀u,r'.head? =some u->¬om u)->t++r=t'++r'->t=t'/\r=r'
 |[],[],r,r',_,_,_,_,h=>⟨rfl,h⟩
 |[],u::t',r,r',_,h2,h3,_,h=>by simp only[nil_append,cons_append] at h;exact absurd (h2 u (.head _)) (h3 u (by refine J h ?_;rfl))
 |u::t,[],r,r',h1,_,_,h4,h=>by simp only[nil_append,cons_append] at h;exact absurd (h1 u (.head _)) (h4 u (by refine rS h ?_;rfl))
 |u::t,u'::t',r,r',h1,h2,h3,h4,h=>by simp only[cons_append,List.cons.injEq] at h;refine aA (yl (λx hx=>h1 x (.tail _ hx)) (λx hx=>h2 x (.tail _ hx)) h3 h4 h.2) λa b=>?_;exact⟨by exact J h.1 (J a rfl),b⟩
theorem Cm:∀{ts rZ:List LN} {ks ks':LN},tR ts->tR rZ->(∀k∈ks,rF k)->(∀k∈ks',rF k)->ts.length=ks.length+1->rZ.length=ks'.length+1->il ts ks=il rZ ks'->ts=rZ/\ks=ks'
 |[],_,_,_,_,_,_,_,h,_,_=>by exact qp h
 |_::_,[],_,_,_,_,_,_,_,h,_=>by exact qp h
 |t::ts,t'::rZ,ks,ks',h1,h2,h3,h4,h5,h6,h=>by
  have head:∀(ks:LN) (ts:List LN),(∀k∈ks,rF k)->∀t,∃r,il (t::ts) ks=t++r/\(∀u,r.head? =some u->¬om u)/\(ks=[]->r=[])/\(∀k ks',ks=k::ks'->r=sgn k++il ts ks'):=λks ts hk t=>by
   induction ks using LC with
   |nil=>exact(dg [] (by simp[il]) (λu e=>by(exact bL e)) (λ_=>rfl) (λk ks' e=>by(exact lnc e)))
   |cons k ks=>
    refine aK (g8 (hk k (.head _))) λu e1 e2 _=>?_;refine(dg (sgn k++il ts ks) rfl (λv hv=>?_) (λe=>by(exact MC e)) (λk' ks' e=>by cases e;rfl));rw[e1] at hv;simp at hv;refine rS hv ?_;exact e2
  refine cZ (head ks ts h3 t) λr e1 e2 e3 e4=>?_;refine cZ (head ks' rZ h4 t') λr' e1' Fo ux wH=>?_;rw[e1,e1'] at h;refine aA (yl (h1 t (.head _)) (h2 t' (.head _)) e2 Fo h) λq1 q2=>?_;subst q1 q2
  have ne:∀{k ts ks},rF k->sgn k++il ts ks≠[]:=λhk e=>by refine ah (g8 hk) λu e1 _=>?_;rw[e1] at e;exact MC e
  induction ks using LC with
  |nil=>
   induction ks' using LC with
   |nil=>
    simp only[length_cons,length_nil] at h5 h6;have a:ts=[]:=length_eq_zero_iff.mp (by exact Mg h5);have b:rZ=[]:=length_eq_zero_iff.mp (by exact Mg h6);refine J a (J b ?_);exact⟨rfl,rfl⟩
   |cons k' ks'=>exact absurd ((wH k' ks' rfl).symm.trans (e3 rfl)) (ne (h4 k' (.head _)))
  |cons k ks=>
   induction ks' using LC with
   |nil=>exact absurd ((e4 k ks rfl).symm.trans (ux rfl)) (ne (h3 k (.head _)))
   |cons k' ks'=>
    have q:=(e4 k ks rfl).symm.trans (wH k' ks' rfl);refine ah (g8 (h3 k (.head _))) λu s1 _=>?_;refine ah (g8 (h4 k' (.head _))) λu' KD _=>?_;rw[s1,KD] at q;simp only[cons_append,nil_append,List.cons.injEq] at q;have kk:k=k':=Em (h3 k (.head _)) (h4 k' (.head _)) (by exact J s1 (J KD (J q.1 rfl)));obtain ⟨a,b⟩:=Cm (λx hx=>h1 x (.tail _ hx)) (λx hx=>h2 x (.tail _ hx)) (λx hx=>h3 x (.tail _ hx)) (λx hx=>h4 x (.tail _ hx)) (by simpa using h5) (by simpa using h6) q.2;exact⟨by exact J a rfl,by exact J kk (J b rfl)⟩
structure oE (p:Pc):Prop where
 s:x8 p
 l:tR p.1
 k:∀k∈p.2,rF k
theorem AI{p q:Pc}(hp:oE p)(hq:oE q)(h:eF p=eF q):p=q:=by refine aA (Cm hp.l hq.l hp.k hq.k hp.s hq.s h) λa b=>?_;exact Prod.ext a b
noncomputable def bW(rs:List RK)(k:Nat):LN:=match rs[k]? with
 |some (.str l f)=>l++replicate f 33
 |some (.eG ts ks)=>il ts ks
 |some (.num i f)=>if f=0 then 35::shown i else sgn k
 |_=>sgn k
noncomputable def hU(p:Pc):Bool:=!p.2.isEmpty&&kO p.1 p.2
noncomputable def rowOf(p:Pc):RK:=match p.2 with
 |[]=>.str (p.1.headD []) 0
 |_::_=>.eG p.1 p.2
def jX(rs:List RK)(p:Pc)(v:Nat):Prop:=(hU p=true/\v=6)∨(hU p=false/\rs[v]? =some (rowOf p))
theorem jX.pre(h:rs<+:aW){p:Pc}{v:Nat}(m:jX rs p v):jX aW p v:=m.imp id λ⟨a,b⟩=>⟨a,cf h b⟩
theorem HT(rs:List RK)(p:Pc):jX (iU rs p).1 p (iU rs p).2:=by
 unfold iU jX hU rowOf;induction p.2 using LC with
 |nil=>exact .inr ⟨rfl,du _ _⟩
 |cons k ks=>
  simp only;induction kO p.1 (k::ks) with
  |true=>exact .inl ⟨rfl,rfl⟩
  |false=>exact .inr ⟨rfl,du _ _⟩
theorem EK(rs:List RK)(js:List Pc):(∀v∈(bU rs js).2,∃p∈js,jX (bU rs js).1 p v)/\∀p∈js,∃v∈(bU rs js).2,jX (bU rs js).1 p v:=by
 refine fZ (P:=λjs=>(∀v∈(bU rs js).2,∃p∈js,jX (bU rs js).1 p v)/\∀p∈js,∃v∈(bU rs js).2,jX (bU rs js).1 p v) ⟨(λ_ h=>by exact km h),(λ_ h=>by exact km h)⟩ (λl p zq=>?_) js;refine aA zq λa b=>?_;clear zq;refine J (hZ _ _ _) ?_;have pr:=(yn (bU rs l).1 p).1;have o:=HT (bU rs l).1 p;refine⟨λv hv=>?_,λq hq=>?_⟩
 ·rcases mem_append.mp hv with h|h
  ·refine ah (a v h) λq h1 h2=>?_
   exact aj q (mem_append_left _ h1) (h2.pre pr)
  ·refine J (mem_singleton.mp h) ?_;exact aj p (mem_append_right _ (mem_singleton.mpr rfl)) o
 ·rcases mem_append.mp hq with h|h
  ·refine ah (b q h) λv h1 h2=>?_
   exact aj v (mem_append_left _ h1) (h2.pre pr)
  ·refine J (mem_singleton.mp h) ?_;exact aj _ (mem_append_right _ (mem_singleton.mpr rfl)) o
theorem vm:∀{rs:List RK} {r:RK},vn rs r=none->r∉rs
 |[],_,_=>by simp
 |a::l,r,h=>by
  unfold vn at h
  split at h
  ·exact fB h
  ·rename_i e
   intro q;rcases mem_cons.mp q with q|q
   ·exact e q.symm
   ·exact vm (by induction hh:vn l r with|none=>rfl|some _=>rw[hh] at h;exact fB h) q
theorem jE(h:rs.Nodup)(r:RK):(cJ rs r).Nodup:=by
 unfold cJ;induction q:vn rs r with
 |some _=>exact h
 |none=>exact nodup_append.mpr (aN h (by simp) (λa ha b hb=>by refine J (mem_singleton.mp hb) ?_;rintro rfl;exact vm q ha))
theorem zN(h:rs.Nodup)(p:Pc):(iU rs p).1.Nodup:=by
 unfold iU;induction p.2 using LC with
 |nil=>exact jE h _
 |cons k ks=>
  simp only;induction kO p.1 (k::ks) with
  |true=>exact h
  |false=>exact jE h _
theorem xb(h:rs.Nodup)(js:List Pc):(bU rs js).1.Nodup:=
 fZ (P:=λjs=>(bU rs js).1.Nodup) h (λl p ih=>by refine J (hZ _ _ _) ?_;exact zN ih p) js
theorem Ik(h:rs.Nodup)(h1:rs[i]? =some r)(h2:rs[j]? =some r):i=j:=by have a:=ar h1;have b:=ar h2;exact(getElem?_inj a h).mp (h1.trans h2.symm)
theorem lH{p:Pc}(hs:x8 p){v:Nat}(h:rs[v]? =some (rowOf p)):bW rs v=eF p:=by
 obtain ⟨ts,ks⟩:=p;unfold bW eF;refine J h ?_;induction ks using LC with
 |nil=>
  induction ts using LC with
  |nil=>cases hs
  |cons t r=>
   have:r=[]:=by have:=hs;simpa[x8] using this
   subst this;exact append_nil _
 |cons k ks=>rfl
theorem uZ(h:rs<+:aW)(e:rs[k]? =some r):bW aW k=bW rs k:=by unfold bW;exact J e (J (cf h e) rfl)
structure Rd (rs:List RK) (js:List Pc) (v:Nat):Prop where
 at_:∃r,rs[v]? =some r
 nd:((aF rs v).map (bW rs)).Nodup
 ws:∀w,w∈(aF rs v).map (bW rs)↔if js.any hU then w=[83] else w∈js.map eF
 ps:∀k∈aF rs v,(k=6/\∃x,rs[6]? =some (.key x))∨∃p∈js,rs[k]? =some (rowOf p)
 few:(aF rs v).length<=js.length
theorem KN{js:List Pc}(hb:Base rs)(hnd:rs.Nodup)(hf:∀j∈js,oE j)(gL:js≠[]){v:Nat}(U:Aq (bU rs js).1 (aU [] (bU rs js).2) aW v):
  rs<+:aW/\aW.Nodup/\aW.length<=rs.length+js.length+1/\Rd aW js v:=by
 refine cT (qu rs js) λm1 m2 m3 m4=>?_;refine aA (EK rs js) λa1 a2=>?_;have YA:=xb hnd js;have DT:Base (bU rs js).1:=hb.trans m1;generalize (bU rs js).1=r1 at*;generalize hvs:(bU rs js).2=vs at*;have r6:r1[6]? =some (.key "string"):=DT.at_ rfl;have r2:r1[2]? =some (.key "never"):=DT.at_ rfl;have no:=λx hx=>lT DT m4 (x:=x) hx;have gm:∀x,x∈(aU [] vs).map (·.1)↔∃k∈vs,(k:Int)=x:=λx=>mM;have gnd:=(kZ vs [] .nil).1;rcases U with ⟨t0,_⟩|⟨_,ns,hp,hs,kept,hk,hv⟩
 ·exfalso
  unfold ki at t0;rw[no 0 (by exact .head _),no 13 (by exact mem_of_elem_eq_true rfl),no 1 (by exact .tail _ (.head _))] at t0;exact absurd t0 (by decide)
 ·have KJ:∀(p:Pc),(∃l,rowOf p=.str l 0)∨∃ts ks,rowOf p=.eG ts ks:=λp=>by
   unfold rowOf;induction p.2 using LC with
   |nil=>exact .inl ⟨_,rfl⟩
   |cons _ _=>exact .inr (DH _ _ rfl)
  have mk:∀k:Nat,k∈kept↔k∈vs/\∃r,r1[k]? =some r/\bV (aU [] vs) (dC r)=false:=λk=>by
   have h1:k∈kept↔(k:Int)∈kept.map (λk:Nat=>(k:Int)):=by refine rI mem_map ?_;exact⟨λh=>(aj k h rfl),λzq=>by(refine ah zq λj a b=>?_;clear zq);refine rS (Int.ofNat_inj.mp b) ?_;exact a⟩
   refine rI h1 (J hk (rI mem_filter (rI hp.mem_iff (rI (gm _) (J (Int.toNat_natCast _) ?_)))));have h2:(∃j∈vs,(j:Int)=(k:Int))↔k∈vs:=⟨λzq=>by(refine ah zq λj a b=>?_;clear zq);refine rS (Int.ofNat_inj.mp b) ?_;exact a,λh=>(aj k h rfl)⟩;refine rI h2 ?_;apply and_congr_right;intro _;induction r1[k]? with
   |none=>simp
   |some r=>simp
  have knd:kept.Nodup:=by
   have:(kept.map (λk:Nat=>(k:Int))).Nodup:=by refine J hk ?_;exact((hp.nodup_iff).mpr gnd).filter _
   rw[nodup_iff_pairwise_ne,pairwise_map] at this;exact nodup_iff_pairwise_ne.mpr (this.imp λh e=>h (by exact J e rfl))
  have MF:kept.length<=js.length:=by have h1:kept.length=(kept.map (λk:Nat=>(k:Int))).length:=(length_map ..).symm;refine J h1 (J hk ?_);refine Nat.le_trans (length_filter_le _ _) ?_;refine J hp.length_eq (J (length_map _) ?_);have:=mN vs [];refine rS m3 ?_;simpa using this
  have main:(kept.map (bW r1)).Nodup/\(∀w,w∈kept.map (bW r1)↔if js.any hU then w=[83] else w∈js.map eF)/\(∀k∈kept,(k=6/\∃x,r1[6]? =some (.key x))∨∃p∈js,r1[k]? =some (rowOf p))/\kept≠[]/\∀k∈kept,aF r1 k=[k]:=by
   have kp:∀k∈kept,aF r1 k=[k]:=λk h=>(lR DT (m4 k ((mk k).mp h).1)).1;induction JR:js.any hU with
   |true=>
    refine ah (any_eq_true.mp JR) λp hp1 Y3=>?_;refine ah (a2 p hp1) λv6 hv1 hv2=>?_
    have e6:6∈vs:=by
     rcases hv2 with ⟨_,e⟩|⟨e,_⟩
     ·refine rS e ?_;exact hv1
     ·rw[Y3] at e;exact rB e
    have h6:bV (aU [] vs) 6=true:=fh.mpr ((gm 6).mpr (aj 6 e6 rfl))
    have N5:∀k∈kept,k=6:=λk h=>by
     refine eX ((mk k).mp h) λh1 r h2 h3=>?_;rcases m4 k h1 with e|⟨l,e⟩|⟨ts,ks,e⟩
     ·exact e
     ·rw[e] at h2;obtain rfl:=sI h2;rw[show dC (.str l 0)=6 from rfl,h6] at h3;exact rB h3
     ·rw[e] at h2;obtain rfl:=sI h2;rw[show dC (.eG ts ks)=6 from rfl,h6] at h3;exact rB h3
    have in6:6∈kept:=(mk 6).mpr (cL e6 _ r6 (no (-1) (by exact mem_of_elem_eq_true rfl)))
    have k6:kept=[6]:=by
     induction kept using LC with
     |nil=>exact km in6
     |cons a r=>
      have ea:=N5 a (.head _);induction r using LC with
      |nil=>exact J ea rfl
      |cons b r=>
       have eb:=N5 b (.tail _ (.head _));rw[ea,eb] at knd;exact absurd knd (by simp)
    have w6:bW r1 6=[83]:=by unfold bW;refine J r6 ?_;rfl
    refine J k6 ?_;refine(aQ (by simp) (λw=>?_) (λk h=>.inl (DI (mem_singleton.mp h) _ r6)) (by simp) (λk h=>kp k (by refine J k6 ?_;exact h)));refine J map_cons (J map_nil (J w6 (rI mem_singleton ?_)));simp
   |false=>
    have npl:∀p∈js,hU p=false:=λp h=>by
     induction q:hU p with
     |false=>rfl
     |true=>rw[any_eq_true.mpr (aj p h q)] at JR;exact rB JR
    have at':∀k∈vs,∃p∈js,r1[k]? =some (rowOf p):=λk h=>by
     refine ah (a1 k h) λp h1 h2=>?_;rcases h2 with ⟨e,_⟩|⟨_,e⟩
     ·rw[npl p h1] at e;exact iD e
     ·exact aj p h1 e
    have n6:bV (aU [] vs) 6=false:=by
     induction q:bV (aU [] vs) 6 with
     |false=>rfl
     |true=>
      refine ah ((gm 6).mp (fh.mp q)) λk h1 h2=>?_;have:k=6:=by exact W8 h2
      subst this;refine ah (at' 6 h1) λp h3 h4=>?_;rw[r6] at h4;rcases KJ p with ⟨l,e⟩|⟨ts,ks,e⟩<;>rw[e] at h4<;>exact Ew h4
    have mk':∀k,k∈kept↔k∈vs:=λk=>by refine rI (mk k) ?_;refine⟨λh=>h.1,λh=>⟨h,?_⟩⟩;refine ah (at' k h) λp h3 h4=>?_;refine(aj _ h4 ?_);rcases KJ p with ⟨l,e⟩|⟨ts,ks,e⟩<;>refine J e ?_<;>exact n6
    have OY:∀k∈kept,∃p∈js,r1[k]? =some (rowOf p):=λk h=>at' k ((mk' k).mp h);refine aQ ?_ (λw=>?_) (λk h=>.inr (OY k h)) ?_ kp
    ·rw[nodup_iff_pairwise_ne] at knd ⊢
     refine rI pairwise_map ?_;refine Pairwise.imp_of_mem (λ{a b} ha hb gL e=>gL ?_) knd;refine ah (OY a ha) λp p1 p2=>?_;refine ah (OY b hb) λq q1 q2=>?_;rw[lH (hf p p1).s p2,lH (hf q q1).s q2] at e;rw[AI (hf p p1) (hf q q1) e] at p2;exact Ik YA p2 q2
    ·simp only[Bool.false_eq_true,if_false]
     refine rI mem_map (rI mem_map ?_);constructor
     ·rintro ⟨k,h1,rfl⟩
      refine ah (OY k h1) λp p1 p2=>?_;exact aj p p1 ((lH (hf p p1).s p2).symm)
     ·rintro ⟨p,p1,rfl⟩
      refine ah (a2 p p1) λv h1 h2=>?_;rcases h2 with ⟨e,_⟩|⟨_,e⟩
      ·rw[npl p p1] at e;exact iD e
      ·exact aj v ((mk' v).mpr h1) (lH (hf p p1).s e)
    ·induction js using LC with
     |nil=>exact absurd rfl gL
     |cons p js=>
      refine ah (a2 p (.head _)) λv h1 _=>?_;exact ne_nil_of_mem ((mk' v).mpr h1)
  refine cF main λw1 w2 w3 w4 w5=>?_;clear main;have l1:r1.length<=rs.length+js.length:=m2;rcases hv with ⟨e,_,_⟩|⟨e,rfl⟩|⟨_,rfl,rfl⟩
  ·exact absurd e w4
  ·have pv:aF aW v=[v]:=w5 v (by refine J e ?_;exact .head _)
   rw[<-e] at pv;refine⟨m1,YA,by exact W7 m2,?_,by refine J pv ?_;exact w1,by refine J pv ?_;exact w2,by refine J pv ?_;exact w3,by refine J pv ?_;exact MF⟩;rcases w3 v (by refine J e ?_;exact .head _) with ⟨rfl,x,q⟩|⟨p,_,q⟩
   ·exact⟨_,q⟩
   ·exact⟨_,q⟩
  ·have pr:=dq r1 (.mj kept)
   have g:=du r1 (.mj kept);have n2:dN r1 (.mj kept)≠2:=λq=>by rw[q,cf pr r2] at g;exact Ew g
   have pv:aF (cJ r1 (.mj kept)) (dN r1 (.mj kept))=kept:=by unfold aF;exact J (if_neg n2) (J g rfl)
   have wk:kept.map (bW (cJ r1 (.mj kept)))=kept.map (bW r1):=map_congr_left λk h=>by rcases w3 k h with ⟨rfl,x,q⟩|⟨p,_,q⟩<;>exact uZ pr q
   refine⟨m1.trans pr,jE YA _,by have:=d7 r1 (.mj kept);exact W6 m2 this,⟨_,g⟩,by refine J pv (J wk ?_);exact w1,by refine J pv (J wk ?_);exact w2,λk h=>?_,by refine J pv ?_;exact MF⟩;rw[pv] at h;exact(w3 k h).imp (λ⟨a,x,b⟩=>⟨a,x,cf pr b⟩) λ⟨p,a,b⟩=>(aj p a (cf pr b))
theorem sq(h:rs<+:aW)(e:rs[k]? =some r):aF aW k=aF rs k:=by unfold aF;exact J e (J (cf h e) rfl)
theorem zM(h:rs<+:aW)(e:rs[k]? =some r):bQ aW k=bQ rs k:=by unfold bQ;exact J e (J (cf h e) rfl)
structure EE (rs:List RK) (k:Nat):Prop where
 o:OE rs k
 f:∀p∈aF rs k,oE (bQ rs p)
theorem EE.pre(h:rs<+:aW)(o:EE rs k):EE aW k/\iT aW k=iT rs k:=by
 refine bK o.o.at_ λr e=>?_;have ep:=sq h e
 have es:∀p∈aF rs k,bQ aW p=bQ rs p:=λp hp=>by refine ah ((o.o.ps p hp).1) λr e _=>?_;exact zM h e
 refine⟨⟨⟨⟨r,cf h e⟩,by refine J ep ?_;exact o.o.one,by refine J ep ?_;exact o.o.two,λp hp=>?_⟩,λp hp=>?_⟩,?_⟩
 ·rw[ep] at hp
  refine J (es p hp) ?_;refine FV (o.o.ps p hp) λq q1 q2 a=>?_;exact⟨(aj q (cf h q1) q2),a⟩
 ·rw[ep] at hp
  refine J (es p hp) ?_;exact o.f p hp
 ·unfold iT;refine J ep ?_;exact map_congr_left es
noncomputable def fF(rs:List RK)(p:Pc):List Pc:=cR [([p.1.headD []],[])] (p.2.map (iT rs)) p.1.tail
structure md (rs:List RK) (p:Pc):Prop where
 s:x8 p
 l:tR p.1
 z:∀x∈p.1,x.length<=100
 t:p.2.length<=3
 k:∀k∈p.2,EE rs k
theorem md.pre(h:rs<+:aW){p:Pc}(o:md rs p):md aW p/\fF aW p=fF rs p:=by refine⟨⟨o.s,o.l,o.z,o.t,λk hk=>((o.k k hk).pre h).1⟩,?_⟩;unfold fF;exact J (map_congr_left λk hk=>((o.k k hk).pre h).2) rfl
theorem Ai{o p:Pc}{a:LN}(ho:oE o)(hp:oE p)(ha:∀u∈a,om u):oE (cg (cg o.1 p.1) [a],o.2++p.2):=by
 have low:∀{u v:List LN},u≠[]->v≠[]->tR u->tR v->tR (cg u v)/\cg u v≠[]:=λ{u v} hu hv h1 h2=>by
  refine me (dR hu) λa x au=>?_;subst au;induction v using LC with
  |nil=>exact absurd rfl hv
  |cons y b=>
   refine J (df _ _ _ _) ?_;refine⟨λt ht w hw=>?_,by simp⟩;rcases mem_append.mp ht with h|h
   ·exact h1 t (mem_append_left _ h) w hw
   ·rcases mem_cons.mp h with rfl|h
    ·rcases mem_append.mp hw with h|h
     ·exact h1 x (mem_append_right _ (mem_singleton.mpr rfl)) w h
     ·exact h2 y (.head _) w h
    ·exact h2 t (.tail _ h) w hw
 have ne:∀{q:Pc},x8 q->q.1≠[]:=λ{q} h e=>by unfold x8 at h;rw[e] at h;exact qp h
 have l1:=low (ne ho.s) (ne hp.s) ho.l hp.l;have l2:=low (v:=[a]) l1.2 (by simp) l1.1 (λt ht w hw=>by rw[mem_singleton.mp ht] at hw;exact ha w hw);refine⟨(qe ho.s hp.s).1,l2.1,λk hk=>?_⟩;rcases mem_append.mp hk with h|h
 ·exact ho.k k h
 ·exact hp.k k h
theorem qX:∀(kL:List (List Pc)) (ts:List LN) (js:List Pc),(∀ps∈kL,ps≠[]/\∀p∈ps,oE p)->tR ts->(∀o∈js,oE o)->js≠[]->(∀o∈cR js kL ts,oE o)/\cR js kL ts≠[]
 |[],ts,js,_,_,hj,hn=>by induction ts using LC<;>exact⟨hj,hn⟩
 |ps::kL,[],js,_,_,hj,hn=>⟨hj,hn⟩
 |ps::kL,a::ts,js,hp,ht,hj,hn=>by
  refine qX kL ts (js.flatMap (dP ps a)) (λq hq=>hp q (.tail _ hq)) (λt h=>ht t (.tail _ h)) (λo ho=>?_) ?_
  ·refine ah (mem_flatMap.mp ho) λo' h1 h2=>?_
   refine ah (mem_map.mp h2) λp h3 au=>?_;subst au;exact Ai (hj o' h1) ((hp ps (.head _)).2 p h3) (ht a (.head _))
  ·refine me (exists_cons_of_ne_nil hn) λo r au=>?_;subst au
   refine me (exists_cons_of_ne_nil (hp ps (.head _)).1) λp q au=>?_;subst au;simp[dP]
theorem ou{rs:List RK}{p:Pc}(o:md rs p):(∀j∈fF rs p,oE j)/\fF rs p≠[]/\(fF rs p).length<=8:=by
 obtain ⟨ts,ks⟩:=p;induction ts using LC with
 |nil=>have:=o.s;cases this
 |cons t0 ts=>
  have h:=qX (ks.map (iT rs)) ts [([t0],[])] (λps z6=>by
   refine ah (mem_map.mp z6) λk h1 au=>?_;subst au;have ok:=o.k k h1;refine⟨λe=>?_,λp hp=>?_⟩
   ·have:=ok.o.one
    unfold iT at e;rw[map_eq_nil_iff.mp e] at this;exact absurd this (by decide)
   ·refine ah (mem_map.mp hp) λq h2 au=>?_;subst au
    exact ok.f q h2) (λt ht=>o.l t (.tail _ ht)) (λj hj=>by
   refine J (mem_singleton.mp hj) ?_;exact⟨rfl,λt ht=>by refine J (mem_singleton.mp ht) ?_;exact o.l t0 (.head _),λk hk=>by exact km hk⟩) (by simp)
  refine aN h.1 h.2 ?_
  have:=(lq (ks.map (iT rs)) ts [([t0],[])] 101 1 0 (λps z6=>by
   refine ah (mem_map.mp z6) λk h1 au=>?_;subst au;have ok:=(o.k k h1).o;refine⟨by unfold iT;refine J (length_map _) ?_;exact ok.two,λp hp=>?_⟩;refine ah (mem_map.mp hp) λq h2 au=>?_;subst au
   exact(ok.ps q h2).2) (λa ha=>o.z a (.tail _ ha)) (λj hj=>by refine J (mem_singleton.mp hj) ?_;exact(aN (by simp) (by have:=o.z t0 (.head _);simp[wt];exact cz this) (Nat.le_refl _))) (Nat.le_refl _)).2
  rw[length_map,Nat.one_mul] at this;exact Nat.le_trans this (Nat.pow_le_pow_right (by decide) o.t)
theorem Rd.pre(h:rs<+:aW){js:List Pc}{v:Nat}(r:Rd rs js v):Rd aW js v:=by
 refine bK r.at_ λq e=>?_;have ep:=sq h e
 have ew:(aF rs v).map (bW aW)=(aF rs v).map (bW rs):=map_congr_left λk hk=>by rcases r.ps k hk with ⟨rfl,x,q⟩|⟨p,_,q⟩<;>exact uZ h q
 refine⟨⟨q,cf h e⟩,by refine J ep (J ew ?_);exact r.nd,by refine J ep (J ew ?_);exact r.ws,λk hk=>?_,by refine J ep ?_;exact r.few⟩;rw[ep] at hk;exact(r.ps k hk).imp (λ⟨a,x,b⟩=>⟨a,x,cf h b⟩) λ⟨p,a,b⟩=>(aj p a (cf h b))
structure Wd (t:TA) (hx hd:Addr) (bs:List PV) (V:St) (rs:List RK):Prop where
 T:dc t V rs bs
 H:xE t hx hd V
 hb:Base rs
 nd:rs.Nodup
section
variable {hx hd:Addr}
theorem Wd.kp(W:Wd t hx hd bs V rs)(k:Kp V σ'):Wd t hx hd bs σ' rs:=⟨W.T.fixed k,W.H.keep k,W.hb,W.nd⟩
theorem yj(ft:Ft c)(hA:Rm 6 A)(W:Wd t hx hd bs V rs)(hz:rs.length<800000){p:Pc}(o:md rs p)
  (h:∀σ' aW v,Wd t hx hd bs σ' aW->Fix t V σ'->rs<+:aW->aW.length<=rs.length+9->Rd aW (fF rs p) v->Q (pid v) σ'):aw c A φ (.ref 577) [.ref hx,.tup (RK.eG p.1 p.2).row] V Q:=by
 refine bt (ou o) λf1 f2 f3=>?_;obtain ⟨ts,ks⟩:=p;induction ts using LC with
 |nil=>have:=o.s;cases this
 |cons t0 ts=>
  refine HJ ft hA W.T W.H W.hb (by exact m9 hz) (by have:=o.s;simpa[x8] using this) o.t (λk hk=>(o.k k hk).o) o.z λσ' aW v T' F' U=>?_;refine cT (KN W.hb W.nd f1 f2 U) λr1 r2 r3 r4=>?_;exact h σ' aW v ⟨T',W.H.fix W.T F',W.hb.trans r1,r2⟩ F' r1 (by exact Vc f3 r3) r4
theorem wN(ft:Ft c)(hA:Rm 7 A)(W:Wd t hx hd bs V rs)(hz:rs.length<700000){t0:LN}{ts:List LN}{ks':LN}{w0:LN}{mid:List LN}(htz:ts.length<=900)(hk:ks.length<=1000)(hm:mid.length<=900)(hl:∀x∈t0::ts,x.length<=1000)(hw:∀w∈w0::(mid++[wn]),w.length<=1000)
  (hp:∀ps,qU (t0::ts) ks w0 mid wn=some ps->ps.length<=1000/\∀p∈ps,md rs p) {Q:PV->St->Prop}
  (h1:∀σ' aW d ps (vs:LN),qU (t0::ts) ks w0 mid wn=some ps->Wd t hx hd bs σ' aW->Fix t V σ'->rs<+:aW->aW.length<=rs.length+9*ps.length->V d=none->σ' d=some (.lst (vs.map pid))->vs.length=ps.length->(∀(i:Nat) p v,ps[i]? =some p->vs[i]? =some v->Rd aW (fF rs p) v)->Q (.ref d) σ')
  (h2:∀σ',qU (t0::ts) ks w0 mid wn=none->Kp V σ'->Q .none σ'):aw c A φ (.ref 402) [.ref hx,.tup (RK.eG (t0::ts) ks).row,.tup (RK.eG (w0::(mid++[wn])) ks').row] V Q:=by
 have zl:sizeLine=2^24:=rfl;refine enter ft "told_pieces" (hA:Rm (6+1) A) rfl rfl rfl rfl (wI λ_ _ _=>rfl) rfl λL A' aG=>go ft ⟨bw 1 rfl ⟨bw 2 rfl ⟨bw 1 rfl ⟨xu ft aG.le htz hk hm hl hw (λσ₁ d ps e k1 I3 e1=>?_) λσ₁ e k1=>h2 σ₁ e k1⟩⟩⟩⟩;refine aA (hp ps e) λpz po=>?_;have W1:=W.kp k1;have pD:d≠t.rows/\d≠t.index:=⟨(by rintro rfl;have:=W.T.rows;rw[I3] at this;exact bL this),(by rintro rfl;have:=W.T.index;rw[I3] at this;exact bL this)⟩;refine⟨bF (λm v=>bh m "piece" v) aG.handled (by rfl) (eh ft ?_)⟩;refine eU ft (aO.lst e1) (by exact nZ zl pz) (λi acc σ'=>∃(aW:List RK) (vs:LN),acc=vs.map pid/\vs.length=i/\i<=ps.length/\Wd t hx hd bs σ' aW/\Fix t σ₁ σ'/\rs<+:aW/\aW.length<=rs.length+9*i/\∀(j:Nat) (p:Pc) (v:Nat),ps[j]? =some p->vs[j]? =some v->Rd aW (fF rs p) v) ⟨rs,[],rfl,rfl,Nat.zero_le _,W1,Fix.refl,prefix_rfl,Nat.le_refl _,λj p v _ e=>by exact bL e⟩ (λi acc σ' zf=>dj zf λ_ _ _ _ _ _ F _=>F _ _ e1 pD.1 pD.2) (λC i p c0 hi cw acc σ' zq=>?_) (λacc σ' D zq hD=>?_)
 ·refine iw zq λaW vs q1 q2 q3 q4 q5 q6 q7 q8=>?_;clear zq
  subst q1 q2;have EL:=ar hi;refine aA ((po p (mem_of_getElem? hi)).pre q6) λo' ej=>?_;refine⟨_,_,yv ft q4.H,sA ft,⟨bw 0 rfl ⟨jx ⟨bw 1 rfl ⟨jx ⟨?_⟩⟩⟩⟩⟩⟩;refine yj ft aG q4 (by exact Vb hz pz q7 EL) o' λay bu v W2 F2 P2 L2 R2=>?_;refine(m5 bu (vs++[v]) (by refine J map_append ?_;rfl) (by refine J length_append ?_;rfl) EL W2 (q5.trans F2) (q6.trans P2) (by exact LQ q7 L2) (λj p' v' h1 h2=>?_))
  by_cases q:j<vs.length
  ·rw[getElem?_append_left q] at h2
   exact(q8 j p' v' h1 h2).pre P2
  ·rw[getElem?_append_right (by exact wB q)] at h2
   have:j=vs.length:=by have:=ar h2;replace this:=Nat.lt_one_iff.mp this;exact BJ q this
   subst this;rw[hi] at h1;obtain rfl:=sI h1;simp at h2;subst h2;rw[ej] at R2;exact R2
 ·refine iw zq λaW vs q1 q2 q3 q4 q5 q6 q7 q8=>?_;clear zq
  subst q1
  have xk:V D=none:=by
   induction q:V D with
   |none=>rfl
   |some o=>
    have a:D≠t.rows:=by rintro rfl;rw[q4.T.rows] at hD;exact fB hD
    have b:D≠t.index:=by rintro rfl;rw[q4.T.index] at hD;exact fB hD
    rw[q5 _ _ (k1 _ _ q) a b] at hD;exact fB hD
  refine h1 _ aW D ps vs e (q4.kp (Kp.new hD)) (Fix.trans (Kp.fix k1) (q5.trans (Fix.new hD))) q6 q7 xk ae q2 q8
end
noncomputable def j8:RK->LN
 |.mj ks=>ks
 |.eG _ ks=>ks
 |_=>[]
theorem RK.Ij(r:RK):r.no<=10∨r.no=18:=by induction r<;>simp[RK.no]
noncomputable def RK.flat:RK->Bool
 |.obj=>false
 |_=>true
section
variable {hx hd:Addr}
theorem EV(ft:Ft c)(gL:(a==sysModules)=false){cm:List (Int×Value)}(hd:c.H.DictOf (PySem.intKind c.prog c.w) a cm){x:Int}(h:Q (.bool (cm.any λkv=>decide (kv.1=x))) V):W2 c A φ Vr (compareOp .In) (.int x) (.ref a) V Q:=λs va vb hR ha hb=>by
 (refine bK (aX ha) λ_ au=>?_;subst au);obtain rfl:=bj hb
 refine nX hd λo es ep e r=>?_;clear hd;have pD:s.heap.DictOf (PySem.intKind c.prog c.w) a cm:=(lY o es ep (hR.base _ _ e) r);refine wpAny_in_of qC gL pD.mapOf (af (TL.refl _) _ V (hR.toks _) ?_ h);rw[qv];exact .bool _
theorem EF{cm:List (Int×Value)}(h:cm.map (·.1)=[11,14,15,16,17]):(cm.any λkv=>decide (kv.1=r.no))=false:=by refine rI any_eq_false ?_;intro kv hk;have:=mem_map_of_mem (f:=(·.1)) hk;rw[h] at this;simp only[mem_cons,not_mem_nil,or_false] at this;rw[decide_eq_true_eq];have:=r.Ij;exact Va (by assumption) this
theorem Dk(ft:Ft c)(hh:A.handled=none)(hz:ks.length<=100000)(h:∀d,V d=none->Q (.ref d) (upd V d (.lst (ks.map pid)))){sc:Scope}{p1 p2 p4:Pos}
  (hs:fL sc env=true) (EX:∀C,setOk (ba sc C env) "one"=true) (MV:∀C,hX (ba sc C env) "one"=true) (hi:WE c A φ env m iter V λp σ'=>p=.tup (ks.map pid)/\V=σ')
  (kX:∀x,foldedSetIterable iter env x=pure x:=by intro _;rfl):WE c A φ env m (.ListComp (.Name "one" p1) [⟨.Name "one" p2,iter,[],0⟩] sc p4) V Q:=by
 refine bF (λm v=>bh m "one" v) hh hs (hi.mono λp σ' zq=>?_) kX;refine aA zq λe1 e2=>?_;clear zq;subst e1 e2;refine⟨_,_,aO.tup _,by refine J (length_map _) (J sizeLine_eq ?_);exact cz hz,λi acc σ'=>V=σ'/\acc=(ks.take i).map pid,⟨rfl,rfl⟩,λ_ _ _ _=>rfl,λC c0 m' σ' x Q' _ hq=>fM (EX C) hq,λm' x y _ _=>de m' _ x y,λC i x c0 gE cw acc σ' zq=>?_,λacc σ' D zq hD=>?_⟩
 ·refine aA zq λq1 q2=>?_;clear zq
  subst q1 q2;refine jy ((if_pos rfl).mpr (jm (p:=x) (MV C) rfl (by exact J (d9 _ _ _ _) (J (if_pos rfl) rfl)) ⟨rfl,?_⟩));refine ah (iE gE) λk hk zr=>?_;clear gE;subst zr;refine J take_add_one (J hk (J map_append ?_));rfl
 ·refine aA zq λq1 q2=>?_;clear zq
  subst q1 q2;refine J (length_map _) (J take_length ?_);exact h D hD
theorem It(ft:Ft c)(hA:Rm 1 A)(hf:r.flat=true)(hz:(j8 r).length<=100000)(h:∀d,V d=none->Q (.ref d) (upd V d (.lst ((j8 r).map pid)))):aw c A φ (.ref 220) [.tup r.row] V Q:=by
 refine xG ft.kid λa k1 k2 cm k3 k4=>?_;refine enter ft "row_kids" (hA:Rm (0+1) A) rfl rfl rfl rfl (Dq λ_=>rfl) rfl λL A' aG=>go ft ⟨eI ⟨?_⟩⟩;refine xq ft.ok rfl rfl rfl rfl k1 (.ref a) ⟨EV ft k2 k3 (nR (EF k4) ?_)⟩;induction r with
 |obj=>exact iD hf
 |mj ks=>exact⟨Dk ft aG.handled hz h rfl (λ_=>rfl) (λ_=>rfl) (eh ft ⟨bw 1 rfl ⟨rfl,rfl⟩⟩)⟩
 |eG ts ks=>exact⟨Dk ft aG.handled hz h rfl (λ_=>rfl) (λ_=>rfl) (eh ft ⟨bw 2 rfl ⟨rfl,rfl⟩⟩)⟩
 |_=>exact⟨h⟩
theorem y0(ft:Ft c)(hA:Rm 1 A)(h:Q (.tup []) V):aw c A φ (.ref 227) [.tup r.row] V Q:=by refine enter ft "row_binds" (hA:Rm (0+1) A) rfl rfl rfl rfl (Dq λ_=>rfl) rfl λL A' aG=>go ft ?_;induction r<;>exact⟨eI ⟨eI ⟨eI h⟩⟩⟩
theorem EU(ft:Ft c)(hA:Rm 2 A)(hf:r.flat=true)(hz:(j8 r).length<=100000)(h:∀d,V d=none->Q (.ref d) (upd V d (.lst ((j8 r).map pid)))):aw c A φ (.ref 234) [.ref t.x,.tup r.row] V Q:=by refine enter ft "inner_kids" (hA:Rm (1+1) A) rfl rfl rfl rfl (pF λ_ _=>rfl) rfl λL A' aG=>go ft ⟨It ft aG hf hz λd hd=>⟨bP aG.handled (by rfl) (eh ft ⟨y0 ft aG ?_⟩)⟩⟩;refine⟨_,_,aO.tup _,λi m' σ'=>m'=[(("tab":Str),PV.ref t.x),("row",.tup r.row),("out",.ref d)]/\upd V d (.lst ((j8 r).map pid))=σ',⟨rfl,rfl⟩,λ_ _ _ _=>rfl,λi v c0 hv cw mm σ' zq=>by(refine aA zq λe1 e2=>?_;clear zq);exact bL hv,λmm σ' zq=>go ft ?_⟩;refine aA zq λe1 e2=>?_;clear zq;subst e1 e2;exact h d hd
theorem Bq{test:Expr}{orelse:List Stmt}{pos:Pos}{Q:AF->Map->St->Prop}(Inv:Nat->Map->St->Prop){n₀:Nat}(h0:Inv n₀ m V)
  (h:∀n m' σ',Inv n m' σ'->WT c A φ env m' test σ' λb σ₁=>if b=true then pg c A φ env body m' σ₁ (λa fS aD=>match a with
    |.next|.cont=>∃k mm,k<n/\Inv k mm aD/\Le mm fS
    |.brk=>Q .next fS aD
    |.ret p=>Q (.ret p) fS aD) else pg c A φ env orelse m' σ₁ Q):WS c A φ env (.While test body orelse pos) m V Q:=λs hR=>by
 refine wpAny_While (codeAny_whileLoop (λn s'=>mh λm' σ'=>mz (TL s.heap s'.heap) (Rp c s' σ' (aZ env m'::φ)) (Inv n m' σ')) (λn s' zq=>?_) n₀ ⟨m,V,TL.refl _,hR,h0⟩);refine wy zq λm' σ' ht sF hI=>?_;clear zq;refine wpAny_mono (h n m' σ' hI s' sF) (λv aM zq=>?_) λ_ _ y=>y.elim;refine aR zq λaS b σ₁ aT bo bf=>?_;clear zq;obtain rfl:b=v:=bo;induction b with
 |true=>
  simp only[if_true] at bf ⊢;refine wpAny_mono (bf aM aT) (λfl zg zq=>?_) λ_ _ y=>y.elim;refine eR zq λpY a fS aD fT tI gG=>?_;clear zq;have tt:=(ht.trans aS).trans pY;cases tI with
  |next=>(refine aV gG λk mm hk q hl=>?_;clear gG);exact iP k hk mm aD tt (fT.less hl) q
  |cont=>(refine aV gG λk mm hk q hl=>?_;clear gG);exact iP k hk mm aD tt (fT.less hl) q
  |brk=>exact(bS tt _ _ _ fT .next gG)
  |ret x=>exact(bS tt _ _ _ fT (.ret x) gG)
 |false=>
  simp only[Bool.false_eq_true,if_false] at bf ⊢;exact wpAny_mono (bf aM aT) (λfl l4 x=>(show jr c φ env s.heap Q fl l4 from⟨(ht.trans aS).trans x.1,x.2⟩)) λ_ _ y=>y.elim
end
inductive Reach (rs:List RK) (t:Nat):Nat->Prop
 |refl:Reach rs t t
 |step {x y:Nat} {r:RK} (h:Reach rs t x) (e:rs[x]? =some r) (k:y∈j8 r):Reach rs t y
noncomputable def cB(rs:List RK)(k:Nat):LN:=match rs[k]? with
 |some r=>j8 r
 |none=>[]
noncomputable def pZ(rs:List RK):Nat->Nat->Nat
 |0,_=>1
 |d+1,k=>1+((cB rs k).map (pZ rs d)).sum
noncomputable def tok(rs:List RK):Nat->Nat->Prop
 |0,k=>(∃r,rs[k]? =some r/\r.flat=true)/\cB rs k=[]
 |d+1,k=>(∃r,rs[k]? =some r/\r.flat=true)/\∀y∈cB rs k,tok rs d y
theorem AV{d:Nat}(h:tok rs d k):∃r,rs[k]? =some r/\r.flat=true:=by induction d using NC<;>exact h.1
theorem te(rs:List RK)(d k:Nat):1<=pZ rs d k:=by induction d using NC<;>simp[pZ]
noncomputable def wA(rs:List RK)(ws:List (Nat×Nat)):Nat:=(ws.map λp=>pZ rs p.1 p.2).sum
theorem sW(rs:List RK)(a b:List (Nat×Nat)):wA rs (a++b)=wA rs a+wA rs b:=by simp[wA]
noncomputable def j9(rs:List RK)(p:Nat×Nat):List (Nat×Nat):=(cB rs p.2).map λy=>(p.1-1,y)
theorem ER{rs:List RK}{p:Nat×Nat}(h:tok rs p.1 p.2):wA rs (j9 rs p)+1=pZ rs p.1 p.2/\∀q∈j9 rs p,tok rs q.1 q.2:=by
 obtain ⟨d,k⟩:=p;unfold wA j9;induction d using NC with
 |zero=>refine J h.2 ?_;exact⟨rfl,λq hq=>by exact km hq⟩
 |succ d=>
  refine⟨?_,λq hq=>?_⟩
  ·simp only[map_map,pZ]
   refine J (Nat.add_comm _ _) ?_;rfl
  ·refine ah (mem_map.mp hq) λy h1 au=>?_;subst au
   exact h.2 y h1
theorem tg(rs:List RK):∀ws:List (Nat×Nat),ws.length<=wA rs ws
 |[]=>Nat.le_refl _
 |p::ws=>by have:=tg rs ws;have h1:=te rs p.1 p.2;unfold wA at*;rw[map_cons,sum_cons,length_cons];exact U9 this h1
section
variable {hx hd:Addr}
theorem Ex(ft:Ft c)(hA:Rm 3 A)(T:dc t V rs bs)(hz:rs.length<1000000){d:Nat}(hk:tok rs d k)(hs:pZ rs d k<60)
  (h:∀σ' D (ns:LN),Kp V σ'->V D=none->σ' D=some (.lst (ns.map pid))->ns.length<64->(∀x,x∈ns↔Reach rs k x)->Q (.ref D) σ'):aw c A φ (.ref 241) [.ref t.x,pid k] V Q:=by
 have zl:sizeLine=2^24:=rfl;refine enter ft "reached" (hA:Rm (2+1) A) rfl rfl rfl rfl (pF λ_ _=>rfl) rfl λL A' aG=>go ft ⟨lV (.dI []) .i λS hS=>⟨λW hW=>⟨?_⟩⟩⟩;have Nm:V W=none:=c9 (Kp.new hS) hW;have OV:S≠W:=by rintro rfl;rw[ae] at hW;exact fB hW
 refine Bq (λn m' σ'=>mh λ(ws:List (Nat×Nat)) (l:List (Int×PV))=>An9 (m'=[(("tab":Str),PV.ref t.x),("t",pid k),("seen",.ref S),("waiting",.ref W)]) (Kp V σ') (σ' S=some (.dI l)) (σ' W=some (.lst ((ws.map (·.2)).map pid))) (n=wA rs ws) (l.length+wA rs ws<60) ((∀p∈ws,tok rs p.1 p.2/\Reach rs k p.2)) ((∀x∈l.map (·.1),∃y:Nat,x=(y:Int)/\Reach rs k y/\∀z∈cB rs y,bV l z=true∨z∈ws.map (·.2))) ((bV l k=true∨k∈ws.map (·.2))))
  (n₀:=wA rs [(d,k)]) ⟨[(d,k)],[],rfl,λa o e=>ai hW (ai hS e),by exact J (aB OV) (J ae rfl),ae,rfl,by simpa[wA] using hs,λp hp=>by refine J (mem_singleton.mp hp) ?_;exact⟨hk,.refl⟩,(λx hx=>by exact km hx),.inr (.head _)⟩
  λn m' σ' zq=>OX ft ?_
 refine rx zq λws l e1 e2 e3 e4 e5 e6 e7 e8 e9=>?_;clear zq;subst e1 e5;have szl:=tg rs ws;refine⟨xS e4 (by refine J (length_map _) (J (length_map _) ?_);exact U8 zl e6 szl) ?_⟩;show (if _=true then _ else _);rcases eq_nil_or_concat ws with rfl|⟨ws,⟨dp,y⟩,rfl⟩
 ·refine J (if_neg (by trivial)) ?_
  refine go ft ⟨r9 ft.sys aG.handled e3 (by exact LP e6) λD ns hD hp YU=>?_⟩;have xk:=c9 e2 hD
  have all:∀x∈ns,∃y:Nat,x=(y:Int):=λx gE=>by refine ah (e8 x (hp.mem_iff.mp gE)) λy q _=>?_;exact⟨y,q⟩
  have en:(ns.map Int.toNat).map (λk:Nat=>(k:Int))=ns:=by
   refine J map_map ?_
   conv=>rhs;rw[<-map_id ns]
   apply map_congr_left;intro x gE;refine bK (all x gE) λy au=>?_;subst au;simp
  have en':ns.map PV.int=(ns.map Int.toNat).map pid:=by
   conv=>lhs;rw[<-en]
   refine J map_map ?_;rfl
  have mem:∀x:Nat,x∈ns.map Int.toNat↔bV l x=true:=λx=>by
   refine rI fh (rJ hp.mem_iff (rI mem_map ?_));constructor
   ·rintro ⟨a,ha,rfl⟩
    refine bK (all a ha) λy au=>?_;subst au;simpa using ha
   ·intro q;exact(aj _ q (by simp))
  refine h _ D (ns.map Int.toNat) (λa o e=>ai hD (e2 a o e)) xk (by exact J ae (J en' rfl)) (by refine J (length_map _) (J hp.length_eq (J (length_map _) ?_));exact LP e6) λx=>?_;refine rI (mem _) ?_;constructor
  ·intro q
   refine aK (e8 _ (fh.mp q)) λy q1 q2 _=>?_;refine J (Int.ofNat_inj.mp q1) ?_;exact q2
  ·intro q
   induction q with
   |refl=>exact e9.elim id λq=>by exact km q
   |step r e kk ih=>
    refine aK (e8 _ (fh.mp ih)) λy' q1 q2 q3=>?_;rw[<-Int.ofNat_inj.mp q1] at q3;exact(q3 _ (by unfold cB;refine J e ?_;exact kk)).elim id λq=>by exact km q
 ·refine J (if_pos (by simp)) ?_
  rw[concat_eq_append] at e4 e6 e7 e8 e9 szl ⊢;have wH:σ' W=some (.lst ((ws.map (·.2)).map pid++[pid y])):=by refine J e4 ?_;simp
  obtain ⟨hy1,hy2⟩:=e7 (dp,y) (by exact mem_concat_self);refine ah (AV hy1) λr hr hf=>?_;refine aA (ER hy1) λz1 z2=>?_;have zw:wA rs (ws++[(dp,y)])=wA rs ws+pZ rs dp y:=by refine J (sW _ _ _) ?_;rfl
  have wl:=tg rs ws;have ek:cB rs y=j8 r:=by unfold cB;exact J hr rfl
  have kl:(j8 r).length<=60:=by
   have h0:=tg rs (j9 rs (dp,y));have:(j9 rs (dp,y)).length=(j8 r).length:=by unfold j9;exact J (length_map _) (J ek rfl)
   simp only at z1;exact U7 e6 z1 zw h0 this
  have Zt:∀o,Kp V (upd σ' W o):=λo=>Kp.upd e2 Nm;have ZS:∀o,upd σ' W o S=some (.dI l):=λo=>by refine J (aB OV) ?_;exact e3
  have acc:∀(l':List (Int×PV)) (Pj:List (Nat×Nat)),(∀x,bV l x=true->bV l' x=true)->bV l' y=true->(∀x∈ws.map (·.2),x∈Pj.map (·.2))->∀x:Nat,(bV l x=true∨x∈(ws++[(dp,y)]).map (·.2))->(bV l' x=true∨x∈Pj.map (·.2)):=λl' Pj h1 h2 h3 x q=>by
   rcases q with q|q
   ·exact .inl (h1 _ q)
   ·rw[map_append] at q
    rcases mem_append.mp q with q|q
    ·exact .inr (h3 _ q)
    ·refine J (mem_singleton.mp q) ?_;exact .inl h2
  refine go ft ⟨_,_,Im wH,a9,⟨KP wH (by refine J (length_map _) (J (length_map _) ?_);exact U6 zl e6 zw wl) ⟨yq ft.sys (ZS _) (bZ (λq=>?_) λq=>?_)⟩⟩⟩
  ·have q:bV l y=false:=by
    have q:(!bV l y)=true:=q;rw[Bool.not_eq_true'] at q;exact q
   have kk:dk l (y:Int) (.int 1)=l++[((y:Int),.int 1)]:=by unfold dk;refine J (show (cO l (y:Int)).isSome=false from q) ?_;rfl
   have ND:∀o,upd (upd σ' W (.lst ((ws.map (·.2)).map pid))) S o W=some (.lst ((ws.map (·.2)).map pid)):=λo=>by exact J (aB (Ne.symm OV)) (J ae rfl)
   have T':∀o,dc t (upd (upd σ' W (.lst ((ws.map (·.2)).map pid))) S o) rs bs:=λo=>T.fixed (Kp.upd (Zt _) hS);refine⟨Hs (ZS _) (by exact U5 zl e6) ⟨_,_,zS (ND _),a9,⟨di ft (T' _) ⟨fa (T' _) hr hz ⟨EU ft aG hf (by exact cz kl) λB hB=>⟨C0 (ai hB (ND _)) ae (by refine J (length_map _) (J (length_map _) (J (length_map _) ?_));exact U4 e6 zw wl kl) ?_⟩⟩⟩⟩⟩⟩;refine(gD (wA rs (ws++j9 rs (dp,y))) _ (by refine J (sW _ _ _) ?_;simp only at z1;exact U3 z1 zw) (ws++j9 rs (dp,y)) (dk l (y:Int) (.int 1)) rfl ?_ ?_ ?_ rfl ?_ ?_ ?_ ?_ (Le.all (aQ rfl rfl rfl rfl trivial)))
   ·intro a o e
    rw[aB (by rintro rfl;rw[Nm] at e;exact bL e)];exact ai hB (Kp.upd (Zt _) hS _ _ e)
   ·refine J (aB OV) ?_;exact ai hB ae
   ·refine J ae ?_
    have:(j9 rs (dp,y)).map (·.2)=j8 r:=by unfold j9;refine J map_map (J ek ?_);exact map_id' _
    exact J map_append (J map_append (J this rfl))
   ·refine J kk (J length_append (J length_singleton (J (sW _ _ _) ?_)));simp only at z1;exact U2 e6 z1 zw
   ·intro p hp
    rcases mem_append.mp hp with hp|hp
    ·exact e7 p (mem_append_left _ hp)
    ·refine⟨z2 p hp,?_⟩
     refine ah (mem_map.mp hp) λx h1 au=>?_;subst au;exact .step hy2 hr (by refine rS ek ?_;exact h1)
   ·have hm:∀x,bV l x=true->bV (dk l (y:Int) (.int 1)) x=true:=λx q=>vk q
    have YQ:bV (dk l (y:Int) (.int 1)) y=true:=by refine rI fh (J kk ?_);simp
    have sub:∀x∈ws.map (·.2),x∈(ws++j9 rs (dp,y)).map (·.2):=λx q=>by refine J map_append ?_;exact mem_append_left _ q
    intro x gE;rw[kk,map_append] at gE;rcases mem_append.mp gE with q'|q'
    ·refine aK (e8 x q') λu u1 u2 u3=>?_
     exact bb u u1 u2 (λz II=>acc _ _ hm YQ sub z (u3 z II))
    ·refine bb y (mem_singleton.mp q') hy2 (λz II=>.inr ?_)
     refine J map_append ?_;refine mem_append_right _ ?_;unfold j9;refine J map_map ?_;exact mem_map.mpr (aj z II rfl)
   ·exact acc _ _ (λx q=>vk q) (by refine rI fh (J kk ?_);simp) (λx q=>by refine J map_append ?_;exact mem_append_left _ q) k e9
  ·have q:bV l y=true:=by
    have q:(!bV l y)=false:=q;rw[Bool.not_eq_false'] at q;exact q
   refine(gD (wA rs ws) _ (by have:=te rs dp y;exact U1 zw this) ws l rfl (Zt _) (ZS _) ae rfl (by have:=te rs dp y;exact U0 e6 zw) (λp hp=>e7 p (mem_append_left _ hp)) (λx gE=>?_) (acc l ws (λ_ q=>q) q (λ_ q=>q) k e9) (Le.all (aQ rfl rfl rfl rfl trivial)));refine aK (e8 x gE) λu u1 u2 u3=>?_;exact(bb u u1 u2 (λz II=>acc l ws (λ_ q=>q) q (λ_ q=>q) z (u3 z II)))
end
theorem zI{d x:Nat}(h:tok rs d k)(r:Reach rs k x):∃d',tok rs d' x:=by
 induction r with
 |refl=>exact⟨d,h⟩
 |step r e kk ih=>
  refine bK ih λd' q=>?_;clear ih;have ek:∀{x r},rs[x]? =some r->cB rs x=j8 r:=λe=>by unfold cB;exact J e rfl
  cases d' with
  |zero=>have:=q.2;rw[ek e] at this;rw[this] at kk;cases kk
  |succ d'=>exact⟨d',q.2 _ (by refine J (ek e) ?_;exact kk)⟩
noncomputable def pA(rs:List RK)(x:Nat):Option Nat:=match rs[x]? with
 |some (.par j)=>some j
 |_=>none
section
variable {hx hd:Addr}
theorem Jb(ft:Ft c)(hA:Rm 4 A)(T:dc t V rs bs)(hz:rs.length<1000000){d:Nat}(hk:tok rs d k)(hs:pZ rs d k<60)
  (h:∀σ' (ns:List Int),Kp V σ'->(ns≠[]↔∃x j,Reach rs k x/\rs[x]? =some (.par j))->ns.length<=64->Q (.tup (ns.map .int)) σ'):aw c A φ (.ref 258) [.ref t.x,pid k] V Q:=by
 have zl:sizeLine=2^24:=rfl;refine enter ft "free_params" (hA:Rm (3+1) A) rfl rfl rfl rfl (pF λ_ _=>rfl) rfl λL A' aG=>go ft ⟨Ex ft aG T hz hk hs λσ₁ D ns k1 hD e1 nz mem=>⟨?_⟩⟩
 have rowAt:∀x∈ns,∃r,rs[x]? =some r:=λx gE=>by refine bK (zI hk ((mem x).mp gE)) λd' q=>?_;refine ah (AV q) λr e _=>?_;exact⟨r,e⟩
 have T1:=T.fixed k1;refine bF (λm v=>bh m "at" v) aG.handled (by rfl) (eh ft ?_);refine eU ft (aO.lst e1) (by exact Ia zl nz) (λi acc σ'=>σ₁=σ'/\acc=(replicate i ([]:List PV)).map .tup) ⟨rfl,rfl⟩ (λi acc σ' zq=>by(refine aA zq λq _=>?_;clear zq);refine rS q ?_;exact e1) (λC i x c0 hi cw acc σ' zq=>?_) (λacc σ' D2 zq Ad=>?_)
 ·refine aA zq λq1 q2=>?_;clear zq
  subst q1 q2;refine bK (rowAt x (mem_of_getElem? hi)) λr hr=>?_;exact⟨di ft T1 ⟨fa T1 hr hz ⟨y0 ft aG.le ⟨rfl,by refine J replicate_succ' (J map_append ?_);rfl⟩⟩⟩⟩
 refine aA zq λq1 q2=>?_;clear zq;subst q1 q2;have T2:=T1.new (o:=.lst ((replicate ns.length ([]:List PV)).map .tup)) Ad;refine⟨DB aG.handled ae (λl hl=>by refine J (eq_of_mem_replicate hl) ?_;exact Nat.zero_le _) ?_⟩
 have e0:((replicate ns.length ([]:List PV)).any λl=>!l.isEmpty)=false:=by refine rI any_eq_false ?_;intro l hl;refine J (eq_of_mem_replicate hl) ?_;decide
 refine J e0 ?_;have k2:Kp V (upd σ₁ D2 (.lst ((replicate ns.length ([]:List PV)).map .tup))):=λa o e=>ai Ad (k1 a o e);have e2:upd σ₁ D2 (.lst ((replicate ns.length ([]:List PV)).map .tup)) D=some (.lst (ns.map pid)):=ai Ad e1;generalize upd σ₁ D2 (.lst ((replicate ns.length ([]:List PV)).map .tup))=ay at*;refine⟨bF (λm v=>bh m "at" v) aG.handled (by rfl) (eh ft ?_)⟩;refine⟨_,_,aO.lst e2,by refine J (length_map _) ?_;exact Ia zl nz,λi acc σ'=>ay=σ'/\acc=((ns.take i).filterMap (pA rs)).map pid,⟨rfl,rfl⟩,λi acc σ' zq=>by(refine aA zq λq _=>?_;clear zq);refine rS q ?_;exact e2,λC c0 m' σ' x Q' _ hq=>fM (by rfl) hq,λm' x y _ _=>de m' _ x y,λC i x c0 gE cw acc σ' zq=>?_,λacc σ' D3 zq hD3=>?_⟩
 ·refine aA zq λq1 q2=>?_;clear zq
  subst q1 q2;refine ah (iE gE) λx hi zr=>?_;clear gE;subst zr;refine bK (rowAt x (mem_of_getElem? hi)) λr hr=>?_
  have sn:∀o,pA rs x=o->(ns.take (i+1)).filterMap (pA rs)=(ns.take i).filterMap (pA rs)++o.toList:=λo q=>by refine J take_add_one (J hi (J filterMap_append (J (Option.toList_some _) (J filterMap_cons (J q ?_)))));cases o<;>rfl
  refine AU (OX ft ⟨di ft T2 ⟨fa T2 hr hz ⟨eI ?_⟩⟩⟩)
  have pr:pA rs x=match (some r:Option RK) with
   |some (.par j)=>some j
   |_=>none:=by refine rS hr ?_;rfl
  refine(?_:(if (r.no==10)=true then _ else _));cases r with
  |par j=>
   refine(if_pos rfl).mpr (eh ft ⟨di ft T2 ⟨fa T2 hr hz ⟨bw 1 rfl ⟨rfl,?_⟩⟩⟩⟩);refine J (sn _ pr) (J map_append ?_);rfl
  |_=>exact(if_neg (by simp[RK.no])).mpr ⟨rfl,by refine J (sn _ pr) ?_;simp⟩
 refine aA zq λq1 q2=>?_;clear zq;subst q1 q2;refine J (length_map _) (J take_length ?_);have fl:(ns.filterMap (pA rs)).length<=ns.length:=length_filterMap_le _ _;have em:(ns.filterMap (pA rs)).map pid=((ns.filterMap (pA rs)).map λk:Nat=>(k:Int)).map .int:=by refine J map_map ?_;rfl
 refine J em ?_;refine⟨zo ae (by refine J (length_map _) ?_;exact LO nz fl) λD4 ns' hD4 hp sD=>⟨dn ae ?_ (h _ ns' (λa o e=>ai hD4 (ai hD3 (k2 a o e))) ?_ ?_)⟩⟩
 ·refine J (length_map _) (J hp.length_eq (J (length_map _) ?_));exact UZ zl nz fl
 ·have:ns'≠[]↔ns.filterMap (pA rs)≠[]:=by
   constructor
   ·intro a b;rw[b] at hp;exact a (perm_nil.mp hp)
   ·intro a b;rw[b] at hp;have:=nil_perm.mp hp;exact a (map_eq_nil_iff.mp this)
  refine rI this ?_;constructor
  ·intro q
   refine me (exists_cons_of_ne_nil q) λj r e=>?_;have:j∈ns.filterMap (pA rs):=by refine J e ?_;exact .head _
   refine ah (mem_filterMap.mp this) λx h1 h2=>?_;refine(fN x j ((mem x).mp h1) ?_);unfold pA at h2
   split at h2
   ·obtain rfl:=sI h2;assumption
   ·exact bL h2
  ·rintro ⟨x,j,h1,h2⟩
   exact ne_nil_of_mem (mem_filterMap.mpr (aj x ((mem x).mpr h1) (by unfold pA;exact J h2 rfl)))
 ·refine J hp.length_eq (J (length_map _) ?_);exact UY nz fl
theorem Gz(ft:Ft c)(hA:Rm 5 A)(T:dc t V rs bs)(hz:rs.length<1000000){d:Nat}(hk:tok rs d k)(hs:pZ rs d k<60)
  (h:∀σ' b,Kp V σ'->(b=true↔∃x j,Reach rs k x/\rs[x]? =some (.par j))->Q (.bool b) σ'):aw c A φ (.ref 265) [.ref t.x,pid k] V Q:=by
 have zl:sizeLine=2^24:=rfl;refine enter ft "has_params" (hA:Rm (4+1) A) rfl rfl rfl rfl (pF λ_ _=>rfl) rfl λL A' aG=>go ft ⟨Jb ft aG T hz hk hs λσ₁ ns k1 hn nz=>⟨ib (by refine J (length_map _) ?_;exact nZ zl nz) (h _ _ k1 ?_)⟩⟩;rw[decide_eq_true_eq,<-hn,length_map];cases ns<;>simp
end
section
open PySem.NumText
theorem wd(h:c6 l=true):∃i:Int,PySem.intText? (S l)=some i/\shown i=l/\i.natAbs.log2<1920/\l.length<=20:=by
 unfold c6 at h;simp only[Bool.and_eq_true,Bool.not_eq_true',beq_iff_eq] at h;refine ur h λh1 h2 h3 h4 h5 h6=>?_;clear h;have ad:=xC h3;have hl:=Nat.le_of_ble_eq_true h2;have gL:aH l≠[]:=by intro q;rw[q] at h1;exact rB h1
 have hd:digitsVal (aH l)<10^16:=Nat.lt_of_lt_of_le (jO rfl ad) (Nat.pow_le_pow_right (by decide) hl);have lg:(digitsVal (aH l)).log2<1920:=Nat.lt_of_le_of_lt (yx hd) (by decide)
 by_cases q:l.take 1=[45]
 ·have e:=mX l q
  have YY:1<=digitsVal (aH l):=by
   rw[Bool.or_eq_true,beq_iff_eq] at h6;rcases h6 with h|h
   ·exact Nat.le_of_ble_eq_true h
   ·have:l.length=(aH l).length+1:=congrArg length e
    rw[h] at this;exact UX this
  refine(dg (-((digitsVal (aH l):Nat):Int)) (intText_neg (x:=S l) (cs:=aH l) e ad gL (by refine J (bI _) ?_;have:=congrArg length e;simp at this;exact UW hl this)) ?_ (by refine J (Int.natAbs_neg _) (J (Int.natAbs_natCast _) ?_);exact lg) (by have:=congrArg length e;simp at this;exact UU hl this));obtain ⟨m,hm⟩:∃m,digitsVal (aH l)=m+1:=⟨digitsVal (aH l)-1,by exact UT YY⟩;refine J hm (J (sd _) (rS hm (rS (je _) (J h5 ?_))));exact e.symm
 ·have e:=nS l q
  rw[e] at ad gL hl h5 lg;exact(dg ((digitsVal l:Nat):Int) (intText_digits (x:=S l) ad gL (by refine J (bI _) ?_;exact cz hl)) h5 (by refine J (Int.natAbs_natCast _) ?_;exact lg) (by exact cz hl))
section
variable {hx hd:Addr}
theorem Cq(ft:Ft c)(hA:Rm 1 A)(W:Wd t hx hd bs V rs)(hz:rs.length<800000){s:Nat}{r':RK}(hr:rs[s]? =some r)(gK:rs[k]? =some r')(hn:r.no≠3)(h:Q (.bool false) V):aw c A φ (.ref 409) [.ref hx,pid s,pid k] V Q:=by refine enter ft "tpl_holds" (hA:Rm (0+1) A) rfl rfl rfl rfl (wI λ_ _ _=>rfl) rfl λL A' aG=>go ft ⟨nU ft W.H ⟨di ft W.T ⟨fa W.T hr (by exact m9 hz) ⟨di ft W.T ⟨fa W.T gK (by exact m9 hz) ⟨eI ?_⟩⟩⟩⟩⟩⟩;exact Dp (by rw[bne_iff_ne];exact hn) h
theorem E2(ft:Ft c)(hA:Rm 6 A)(W:Wd t hx hd bs V rs)(hz:rs.length<800000){s f d:Nat}{w0:LN}{mid:List LN}(hr:rs[s]? =some (.str l f))(gK:rs[k]? =some (.eG (w0::(mid++[wn])) ks))(hk:tok rs d k)(hs:pZ rs d k<60)
  (mK:ks.length=mid.length+1) (hl:l.length<=1000) (hw:∀w∈w0::(mid++[wn]),w.length<=1000) (hm:mid.length<=900) {Q:PV->St->Prop}
  (h:∀σ' b,Kp V σ'->(b=true↔(¬∃x j,Reach rs k x/\rs[x]? =some (.par j))/\gH l w0 mid wn ks≠none)->Q (.bool b) σ'):aw c A φ (.ref 409) [.ref hx,pid s,pid k] V Q:=by
 refine enter ft "tpl_holds" (hA:Rm (5+1) A) rfl rfl rfl rfl (wI λ_ _ _=>rfl) rfl λL A' aG=>go ft ⟨nU ft W.H ⟨di ft W.T ⟨fa W.T hr (by exact m9 hz) ⟨di ft W.T ⟨fa W.T gK (by exact m9 hz) ⟨eI ?_⟩⟩⟩⟩⟩⟩;refine⟨Gz ft aG W.T (by exact m9 hz) hk hs λσ₁ b k1 hb=>?_⟩;cases b with
 |true=>exact h σ₁ false k1 ⟨(λq=>by exact iD q),λq=>absurd (hb.mp rfl) q.1⟩
 |false=>
  have np:¬∃x j,Reach rs k x/\rs[x]? =some (.par j):=λq=>nomatch hb.mpr q;refine⟨bw 1 rfl ⟨bw 1 rfl ⟨bw 2 rfl ⟨tQ ft aG.le mK hl hw hm (λay D ps e k2 hD e2=>?_) λay e k2=>?_⟩⟩⟩⟩
  ·exact h ay true (λa o e=>k2 _ _ (k1 _ _ e)) ⟨λ_=>⟨np,by refine J e ?_;exact Option.some_ne_none ps⟩,λ_=>rfl⟩
  ·exact h ay false (λa o e=>k2 _ _ (k1 _ _ e)) ⟨(λq=>by exact iD q),λq=>absurd e q.2⟩
theorem Cr(ft:Ft c)(hA:Rm 6 A)(W:Wd t hx hd bs V rs)(hz:rs.length<800000){s f:Nat}(hr:rs[s]? =some (.str l f))(gK:rs[k]? =some (.eG [w0] []))
  (h:∀σ',Kp V σ'->Q (.bool (l==w0)) σ'):aw c A φ (.ref 409) [.ref hx,pid s,pid k] V Q:=by
 have ek:cB rs k=[]:=by unfold cB;refine J gK ?_;rfl
 refine enter ft "tpl_holds" (hA:Rm (5+1) A) rfl rfl rfl rfl (wI λ_ _ _=>rfl) rfl λL A' aG=>go ft ⟨nU ft W.H ⟨di ft W.T ⟨fa W.T hr (by exact m9 hz) ⟨di ft W.T ⟨fa W.T gK (by exact m9 hz) ⟨eI ?_⟩⟩⟩⟩⟩⟩;refine⟨Gz (d:=0) ft aG W.T (by exact m9 hz) ⟨(aj _ gK rfl),ek⟩ (by unfold pZ;decide) λσ₁ b k1 hb=>?_⟩
 have eb:b=false:=by
  cases b with
  |false=>rfl
  |true=>
   refine b0 (hb.mp rfl) λx j h1 h2=>?_
   have all:∀x,Reach rs k x->x=k:=λx r=>by
    induction r with
    |refl=>rfl
    |step r e kk ih=>subst ih;rw[gK] at e;obtain rfl:=sI e;cases kk
   rw[all x h1,gK] at h2;exact Ew h2
 subst eb;refine⟨bw 1 rfl ⟨bw 1 rfl ⟨bw 2 rfl ⟨vg ft aG.le (λe D hD=>?_) λe=>?_⟩⟩⟩⟩
 ·have:=h (upd σ₁ D (.lst [])) λa o e=>ai hD (k1 _ _ e)
  rw[beq_iff_eq.mpr e] at this;exact this
 ·have:=h σ₁ k1
  rw[beq_eq_false_iff_ne.mpr e] at this;exact this
end
end
section
open PySem.NumText
noncomputable abbrev jU:List PV:=[.int (-1),.int 7]
def kg(rs:List RK)(r:RK)(l:LN)(v:Nat):Prop:=if r=.par 1/\c6 l=true then∃i:Int,rs[v]? =some (.num i 0)/\shown i=l/\i.natAbs.log2<1920 else rs[v]? =some (.str l 0)
theorem kg.pre(h:rs<+:aW){v:Nat}(x:kg rs r l v):kg aW r l v:=by
 unfold kg at*
 by_cases q:r=.par 1/\c6 l=true
 ·rw[if_pos q] at x ⊢
  (refine ah x λi a b=>?_;clear x);exact aj i (cf h a) b
 ·rw[if_neg q] at x ⊢
  exact cf h x
section
variable {hx hd:Addr}
theorem dO(ft:Ft c){Q:AF->Map->St->Prop}(DV:Map->St->Prop)(h1:Ga c A φ env (vR c A φ env 100) m st V (Fv DV Q))(h2:∀m' σ',DV m' σ'->pg c A φ env rest m' σ' Q):pg c A φ env (st::rest) m V Q:=
 tG (WX.mono (s9 (rX ft 100) h1) λa m' σ' h=>by
  induction a with
  |next=>exact h2 m' σ' h
  |_=>exact h)
theorem nK(ft:Ft c){Q:AF->Map->St->Prop}(M:Map)(h1:Ga c A φ env (vR c A φ env 100) m st V (Fv (λm' σ'=>m'=M/\V=σ') Q))(h2:pg c A φ env rest M V Q):pg c A φ env (st::rest) m V Q:=
 dO ft _ h1 λ_ _ z=>z.1▸z.2▸h2
theorem vV(ft:Ft c){Q:AF->Map->St->Prop}(M:Map)(R:St->Prop)(h1:Ga c A φ env (vR c A φ env 100) m st V (Fv (λm' σ'=>m'=M/\R σ') Q))(h2:∀σ',R σ'->pg c A φ env rest M σ' Q):pg c A φ env (st::rest) m V Q:=
 dO ft _ h1 λ_ σ' z=>z.1▸h2 σ' z.2
theorem Wd.put(W:Wd t hx hd jU V rs)(T:dc t σ' (cJ rs r) jU)(F:Fix t V σ'):Wd t hx hd jU σ' (cJ rs r):=⟨T,W.H.fix W.T F,W.hb.trans (dq _ _),jE W.nd _⟩
theorem MB(ft:Ft c)(hA:Rm 4 A)(W:Wd t hx hd jU V rs)(hz:rs.length<800000)(hr:rs[k]? =some r)(IT:∀j,r=.par j->j=0∨j=1)(hl:l.length<=1000)
  (h:∀σ' aW v,Wd t hx hd jU σ' aW->Fix t V σ'->rs<+:aW->aW.length<=rs.length+2->kg aW r l v->Q (pid v) σ'):aw c A φ (.ref 596) [.ref hx,pid k,aC l] V Q:=by
 have p1:=dq rs (.str l 0);have g1:=du rs (.str l 0);have l1:=d7 rs (.str l 0);have DT:Base (cJ rs (.str l 0)):=W.hb.trans p1;have r7:(cJ rs (.str l 0))[7]? =some (.key "number"):=DT.at_ rfl
 have n7:((7:Int)==((dN rs (.str l 0):Nat):Int))=false:=by
  rw[beq_eq_false_iff_ne];intro q;have:dN rs (.str l 0)=7:=by exact US q
  rw[this,r7] at g1;exact Ew g1
 have p2:∀i,cJ rs (.str l 0)<+:cJ (cJ rs (.str l 0)) (.num i 0):=λi=>dq _ _;have l2:∀i,(cJ (cJ rs (.str l 0)) (.num i 0)).length<=rs.length+2:=λi=>by have:=d7 (cJ rs (.str l 0)) (.num i 0);exact UR l1 this
 refine enter ft "literal_for" (hA:Rm (3+1) A) rfl rfl rfl rfl (wI λ_ _ _=>rfl) rfl λL A' aG=>?_;refine nK ft ([(("host":Str),PV.ref hx),("target",pid k),("text",aC l),("tab",.ref t.x)]) ⟨nU ft W.H ⟨rfl,rfl⟩⟩ ?_;refine nK ft ([(("host":Str),PV.ref hx),("target",pid k),("text",aC l),("tab",.ref t.x),("row",.tup r.row)]) ⟨di ft W.T ⟨fa W.T hr (by exact m9 hz) ⟨rfl,rfl⟩⟩⟩ ?_;refine nK ft ([(("host":Str),PV.ref hx),("target",pid k),("text",aC l),("tab",.ref t.x),("row",.tup r.row),("parts",.tup [])]) ⟨rfl,rfl⟩ ?_;refine cut ft (λm' σ'=>∃ps:LN,mz (m'=[(("host":Str),PV.ref hx),("target",pid k),("text",aC l),("tab",.ref t.x),("row",.tup r.row),("parts",.tup (ps.map pid))]) (V=σ') (((ps=[]/\r≠.par 1)∨(ps=[7]/\r=.par 1)))) ⟨eI ?_⟩ λm' σ' zq=>?_
 ·induction r with
  |par j=>
   rcases IT j rfl with rfl|rfl
   ·exact⟨rj ft W.T ⟨bw 1 rfl ⟨cG (k:=0) W.T.bounds rfl (by decide) (dY [] rfl rfl (.inl ⟨rfl,by trivial⟩))⟩⟩⟩
   ·refine⟨rj ft W.T ⟨bw 1 rfl ⟨cG (k:=1) W.T.bounds rfl (by decide) ⟨_,_,vf ft W.H,qA ft,⟨rj ft W.T ⟨bw 1 rfl ⟨cG (k:=1) W.T.bounds rfl (by decide) ⟨yP ft aG.le ⟨pL (k:=7) ft aG.le W.T (W.hb.at_ rfl) (by exact m9 hz) ?_⟩⟩⟩⟩⟩⟩⟩⟩⟩
    have:aF rs 7=[7]:=by unfold aF;refine J (W.hb.at_ (k:=7) rfl) ?_;rfl
    refine J this ?_;exact dY [7] rfl rfl (.inr ⟨rfl,rfl⟩)
  |_=>exact(dY [] rfl rfl (.inl ⟨rfl,by simp⟩))
 refine gn zq λps e1 e2 e3=>?_;clear zq;subst e1 e2;refine⟨AZ (f:=0) ft aG W.T (by exact m9 hz) λσ₁ T1 F1 _=>?_⟩;have W1:=W.put T1 F1
 have plain:∀σ',Wd t hx hd jU σ' (cJ rs (.str l 0))->Fix t V σ'->(r=.par 1->c6 l=false)->Q (pid (dN rs (.str l 0))) σ':=λσ' W1 F1 q=>h _ _ _ W1 F1 p1 (by exact UQ l1) (by unfold kg;rw[if_neg (λz=>by have:=q z.1;rw[z.2] at this;exact rB this)];exact g1)
 rcases e3 with ⟨rfl,np⟩|⟨rfl,hp⟩
 ·refine⟨ig aG rfl rfl (by decide) ⟨ig aG rfl rfl (by decide) ⟨xy ft aG.le (by exact cz hl) (bZ (λe=>?_) λe=>?_)⟩⟩⟩
  ·refine cZ (wd e) λi i1 i2 i3 i4=>?_
   refine⟨int_text i1 (by refine J (bI _) ?_;exact cz i4) ⟨BM (f:=0) ft aG W1.T (by exact H9 hz l1) λay T2 F2 _=>⟨ig aG rfl rfl (by decide) ⟨ig aG rfl rfl (by decide) ⟨bP aG.handled (by rfl) (eh ft ?_)⟩⟩⟩⟩⟩;have W2:=W1.put T2 F2;refine⟨_,_,aO.tup _,λj m' σ'=>m'=[(("host":Str),PV.ref hx),("target",pid k),("text",aC l),("tab",.ref t.x),("row",.tup r.row),("parts",.tup []),("plain",pid (dN rs (.str l 0))),("t",pid (dN (cJ rs (.str l 0)) (.num i 0)))]/\ay=σ',⟨rfl,rfl⟩,λ_ _ _ _=>rfl,λj v c0 hv cw mm σ' zq=>by(refine aA zq λq1 q2=>?_;clear zq);exact bL hv,λmm σ' zq=>go ft ?_⟩;refine aA zq λq1 q2=>?_;clear zq;subst q1 q2;exact h _ _ _ W2 (F1.trans F2) (p1.trans (p2 i)) (l2 i) (by unfold kg;refine J (if_neg (λz=>np z.1)) ?_;exact cf (p2 i) g1)
  ·refine⟨bP aG.handled (by rfl) (eh ft ?_)⟩
   refine⟨_,_,aO.tup _,λj m' σ'=>m'=[(("host":Str),PV.ref hx),("target",pid k),("text",aC l),("tab",.ref t.x),("row",.tup r.row),("parts",.tup []),("plain",pid (dN rs (.str l 0)))]/\σ₁=σ',⟨rfl,rfl⟩,λ_ _ _ _=>rfl,λj v c0 hv cw mm σ' zq=>by(refine aA zq λq1 q2=>?_;clear zq);exact bL hv,λmm σ' zq=>go ft ?_⟩;refine aA zq λq1 q2=>?_;clear zq;subst q1 q2;exact plain _ W1 F1 λz=>absurd z np
 ·subst hp
  refine⟨ig aG rfl rfl (by decide) ⟨ig aG rfl rfl (by decide) (nR (by refine(?_:(((7:Int)==((dN rs (.str l 0):Nat):Int))||false)=false);refine J n7 ?_;rfl) ⟨xy ft aG.le (by exact cz hl) (bZ (λe=>?_) λe=>?_)⟩)⟩⟩
  ·refine cZ (wd e) λi i1 i2 i3 i4=>?_
   refine⟨int_text i1 (by refine J (bI _) ?_;exact cz i4) ⟨BM (f:=0) ft aG W1.T (by exact H9 hz l1) λay T2 F2 _=>⟨ig aG rfl rfl (by decide) ?_⟩⟩⟩;exact h _ _ _ (W1.put T2 F2) (F1.trans F2) (p1.trans (p2 i)) (l2 i) (by unfold kg;refine J (if_pos ⟨rfl,e⟩) ?_;exact(bb i (du _ _) i2 i3))
  ·refine⟨bP aG.handled (by rfl) (eh ft ?_)⟩
   refine⟨_,_,aO.tup _,λj m' σ'=>m'=[(("host":Str),PV.ref hx),("target",pid k),("text",aC l),("tab",.ref t.x),("row",.tup (RK.par 1).row),("parts",.tup [pid 7]),("plain",pid (dN rs (.str l 0)))]/\σ₁=σ',⟨rfl,rfl⟩,λ_ _ _ _=>rfl,λj v c0 hv cw mm σ' zq=>go ft ?_,λmm σ' zq=>go ft ?_⟩
   ·refine aA zq λq1 q2=>?_;clear zq
    subst q1 q2
    have:v=pid 7:=by
     match j,hv with
     |0,hv=>obtain rfl:=sI hv;rfl
     |j+1,hv=>exact bL hv
    subst this;refine⟨td ft aG.le W1.T r7 (by exact H9 hz l1) (λi f e=>nomatch e) ⟨FH aG .none (.str _) (by decide) (cK _ rfl rfl (Le.new rfl))⟩⟩
   ·refine aA zq λq1 q2=>?_;clear zq
    subst q1 q2;exact plain _ W1 F1 λ_=>e
end
end
noncomputable abbrev mu(k:Nat):Pc:=([[],[]],[k])
theorem yw(o:EE rs k):md rs (mu k):=by
 have nil:∀x∈([[],[]]:List LN),x=[]:=λx hx=>by simpa using hx
 refine⟨rfl,λt ht u hu=>?_,λx hx=>?_,(by decide:(1:Nat)<=3),λj hj=>?_⟩
 ·rw[nil t ht] at hu;exact km hu
 ·refine J (nil x hx) ?_;exact Nat.zero_le _
 ·refine J (mem_singleton.mp hj) ?_;exact o
theorem vh(hb:Base rs):Rd rs (fF rs (mu 6)) 6:=by
 have r6:rs[6]? =some (.key "string"):=hb.at_ rfl;have p6:aF rs 6=[6]:=by unfold aF;refine J r6 ?_;rfl
 have w6:bW rs 6=[83]:=by unfold bW;refine J r6 ?_;rfl
 have e:fF rs (mu 6)=[([[],[]],[6])]:=by
  unfold fF iT;simp only[map_cons,map_nil,p6];have:bQ rs 6=([[],[]],[6]):=by unfold bQ;exact J r6 rfl
  refine J this ?_;rfl
 refine J e ?_;refine⟨⟨_,r6⟩,by refine J p6 ?_;simp,λw=>?_,λk hk=>.inl ?_,by refine J p6 ?_;decide⟩
 ·refine J p6 (J map_cons (J map_nil (J w6 (rI mem_singleton ?_))))
  exact(Iff.of_eq (if_pos rfl)).symm
 ·rw[p6] at hk;exact DI (mem_singleton.mp hk) _ r6
section
variable {hx hd:Addr}
theorem vz(ft:Ft c)(hA:Rm 7 A)(W:Wd t hx hd jU V rs)(hz:rs.length<700000)(o:EE rs k)
  (h:∀σ' aW v,Wd t hx hd jU σ' aW->Fix t V σ'->rs<+:aW->aW.length<=rs.length+9->Rd aW (fF rs (mu k)) v->Q (pid v) σ'):aw c A φ (.ref 603) [.ref hx,pid k] V Q:=by
 refine enter ft "kindfind_hole_text" (hA:Rm (6+1) A) rfl rfl rfl rfl (pF λ_ _=>rfl) rfl λL A' aG=>go ft (bZ (λe=>?_) λe=>?_)
 ·have e:((k:Int)==((6:Nat):Int))=true:=e
  rw[eT,beq_iff_eq] at e;subst e;exact h V rs 6 W Fix.refl prefix_rfl (by exact UP) (vh W.hb)
 ·exact⟨_,_,yv ft W.H,sA ft,⟨yj ft aG W (by exact m9 hz) (yw o) h⟩⟩
theorem zd(ft:Ft c)(hA:Rm 8 A)(W:Wd t hx hd jU V rs)(hz:rs.length<600000){s:Nat}{ks ks':LN}(hr:rs[s]? =some (.eG ts ks))(mK:ks.length<=1000)(o:∀k∈ks,EE rs k)
  (h:∀σ' aW d (vs:LN),Wd t hx hd jU σ' aW->Fix t V σ'->rs<+:aW->aW.length<=rs.length+9*ks.length->V d=none->σ' d=some (.lst (vs.map pid))->vs.length=ks.length->(∀(i:Nat) k v,ks[i]? =some k->vs[i]? =some v->Rd aW (fF rs (mu k)) v)->Q (.ref d) σ'):
  aw c A φ (.ref 615) [.ref hx,pid s,.tup (RK.eG ts ks').row] V Q:=by
 have zl:sizeLine=2^24:=rfl;refine enter ft "template_pieces" (hA:Rm (7+1) A) rfl rfl rfl rfl (wI λ_ _ _=>rfl) rfl λL A' aG=>go ft ⟨nU ft W.H ⟨di ft W.T ⟨fa W.T hr (by exact m9 hz) ⟨eI ⟨bw 1 rfl ⟨bw 1 rfl ⟨GP aG (by exact(qz _)) (by exact(qz _)) (by simp[PV.dep,vP]) (Dp (PV.ik _) ⟨?_⟩)⟩⟩⟩⟩⟩⟩⟩;refine bF (λm v=>bh m "hole" v) aG.handled (by rfl) (eh ft ⟨bw 2 rfl ?_⟩);refine eU ft (aO.tup _) (by exact nZ zl mK) (λi acc σ'=>mh λ(aW:List RK) (vs:LN)=>DX (acc=vs.map pid) (vs.length=i) (i<=ks.length) (Wd t hx hd jU σ' aW) (Fix t V σ') (rs<+:aW) (aW.length<=rs.length+9*i) (∀(j:Nat) (k v:Nat),ks[j]? =some k->vs[j]? =some v->Rd aW (fF rs (mu k)) v)) (gk rs [] rfl rfl (Nat.zero_le _) W Fix.refl prefix_rfl (Nat.le_refl _) (λj p v _ e=>by exact bL e)) (λ_ _ _ _=>rfl) (λC i k c0 hi cw acc σ' zq=>?_) (λacc σ' D zq hD=>?_)
 ·refine gp zq λaW vs q1 q2 q3 q4 q5 q6 q7 q8=>?_;clear zq
  subst q1 q2;have EL:=ar hi;have ok:=o k (mem_of_getElem? hi);have okp:=yw ok;refine⟨vz ft aG q4 (by exact UO hz mK q7 EL) (ok.pre q6).1 λay bu v W2 F2 P2 L2 R2=>?_⟩;refine(gk bu (vs++[v]) (by refine J map_append ?_;rfl) (by refine J length_append ?_;rfl) EL W2 (q5.trans F2) (q6.trans P2) (by exact LQ q7 L2) (λj p' v' h1 h2=>?_))
  by_cases q:j<vs.length
  ·rw[getElem?_append_left q] at h2
   exact(q8 j p' v' h1 h2).pre P2
  ·rw[getElem?_append_right (by exact wB q)] at h2
   have:j=vs.length:=by have:=ar h2;replace this:=Nat.lt_one_iff.mp this;exact BJ q this
   subst this;rw[hi] at h1;obtain rfl:=sI h1;simp at h2;subst h2;rw[(okp.pre q6).2] at R2;exact R2
 ·refine gp zq λaW vs q1 q2 q3 q4 q5 q6 q7 q8=>?_;clear zq
  subst q1
  have xk:V D=none:=by
   induction q:V D with
   |none=>rfl
   |some o=>
    have a:D≠t.rows:=by rintro rfl;rw[q4.T.rows] at hD;exact fB hD
    have b:D≠t.index:=by rintro rfl;rw[q4.T.index] at hD;exact fB hD
    rw[q5 _ _ q a b] at hD;exact fB hD
  exact h _ aW D vs (q4.kp (Kp.new hD)) (q5.trans (Fix.new hD)) q6 q7 xk ae q2 q8
theorem Ei(ft:Ft c)(hA:Rm 3 A)(W:Wd t hx hd jU V rs)(hz:rs.length<600000){s:Nat}(hr:rs[s]? =some r)(hn:dC r≠6)(Y6:∀i f,r=.num i f->i.natAbs.log2<1920){row:List PV}(h:Q .none V):aw c A φ (.ref 615) [.ref hx,pid s,.tup row] V Q:=by
 have n18:r.no≠18:=by induction r<;>first|(simp[RK.no];done)|(exact absurd rfl hn)
 have b18:(r.no==18)=false:=by rw[beq_eq_false_iff_ne];exact n18
 have un:(∃x,oR r s=.str x)∨oR r s=.none:=by
  have last:(∃x,(if s=5 then PV.str "null" else if s=4 then .str "undefined" else .none)=.str x)∨(if s=5 then PV.str "null" else if s=4 then .str "undefined" else .none)=.none:=by
   by_cases a:s=5
   ·refine J (if_pos a) ?_;exact .inl ⟨_,rfl⟩
   ·refine J (if_neg a) ?_;by_cases b:s=4
    ·refine J (if_pos b) ?_;exact .inl ⟨_,rfl⟩
    ·refine J (if_neg b) ?_;exact .inr rfl
  induction r with
  |str l f=>exact .inl ⟨_,rfl⟩
  |num i f=>exact .inl ⟨_,rfl⟩
  |bool v f=>
  unfold oR;simp only
  by_cases a:v=1
  ·refine J (if_pos a) ?_;exact .inl ⟨_,rfl⟩
  ·refine J (if_neg a) ?_;exact .inl ⟨_,rfl⟩
  |_=>exact last
 refine enter ft "template_pieces" (hA:Rm (2+1) A) rfl rfl rfl rfl (wI λ_ _ _=>rfl) rfl λL A' aG=>go ft ⟨nU ft W.H ⟨di ft W.T ⟨fa W.T hr (by exact m9 hz) ⟨eI (nR b18 ⟨eI (nR b18 ⟨td ft aG.le W.T hr (by exact m9 hz) Y6 ?_⟩)⟩)⟩⟩⟩⟩;rcases un with ⟨x,e⟩|e<;>refine J e ?_
 ·exact⟨sX ft aG.le (Dp (by rw[bne_iff_ne];exact hn) h)⟩
 ·exact h
theorem zc(ft:Ft c)(hA:Rm 5 A)(W:Wd t hx hd jU V rs)(hz:rs.length<600000){s f:Nat}{w0:LN}{mid:List LN}{ks:LN}(hr:rs[s]? =some (.str l f))(mK:ks.length=mid.length+1)(hl:l.length<=1000)(hw:∀w∈w0::(mid++[wn]),w.length<=1000)(hm:mid.length<=900)
  (z5:∀k∈ks,∃r,rs[k]? =some r/\∀j,r=.par j->j=0∨j=1) {Q:PV->St->Prop}
  (h1:∀σ' aW d ps (vs:LN),gH l w0 mid wn ks=some ps->Wd t hx hd jU σ' aW->Fix t V σ'->rs<+:aW->aW.length<=rs.length+2*ks.length->V d=none->σ' d=some (.lst (vs.map pid))->vs.length=ks.length->(∀(i:Nat) k p v r,ks[i]? =some k->ps[i]? =some p->vs[i]? =some v->rs[k]? =some r->kg aW r p v)->Q (.ref d) σ')
  (h2:∀σ',gH l w0 mid wn ks=none->Kp V σ'->Q .none σ'):aw c A φ (.ref 615) [.ref hx,pid s,.tup (RK.eG (w0::(mid++[wn])) ks).row] V Q:=by
 have zl:sizeLine=2^24:=rfl;refine enter ft "template_pieces" (hA:Rm (4+1) A) rfl rfl rfl rfl (wI λ_ _ _=>rfl) rfl λL A' aG=>go ft ⟨nU ft W.H ⟨di ft W.T ⟨fa W.T hr (by exact m9 hz) ⟨eI ⟨eI ⟨td ft aG.le W.T hr (by exact m9 hz) (λi f e=>nomatch e) ⟨sX ft aG.le ?_⟩⟩⟩⟩⟩⟩⟩;refine⟨bw 1 rfl ⟨bw 2 rfl ⟨tQ ft aG.le mK hl hw hm (λσ₁ d ps e k1 I3 e1=>?_) λσ₁ e k1=>h2 σ₁ e k1⟩⟩⟩
 have c12:ps.length=mid.length+1/\∀p∈ps,p.length<=l.length:=by
  unfold gH at e;induction q:qW l w0 mid wn with
  |none=>rw[q] at e;exact bL e
  |some Gl=>
   rw[q] at e;simp only at e;induction q':eY ks Gl with
   |false=>rw[q'] at e;exact bL e
   |true=>rw[q'] at e;obtain rfl:=sI e;exact vW q
 refine aA c12 λc1 c2=>?_;clear c12;have W1:=W.kp k1;have nd:d≠t.rows/\d≠t.index:=⟨(by rintro rfl;have:=W.T.rows;rw[I3] at this;exact bL this),(by rintro rfl;have:=W.T.index;rw[I3] at this;exact bL this)⟩;refine⟨bF (λm v=>bh m "place" v) aG.handled (by rfl) (eh ft ⟨iJ e1 (by refine J (length_map _) ?_;exact UN hm zl c1) ⟨iS λrg ky=>?_⟩⟩)⟩;refine J (length_map _) ?_;have W2:=W1.kp (Kp.new (o:=.gx 0 ps.length) ky);have F2:Fix t V (upd σ₁ rg (.gx 0 ps.length)):=Kp.fix λa o e=>ai ky (k1 a o e);have e2:upd σ₁ rg (.gx 0 ps.length) d=some (.lst (ps.map aC)):=ai ky e1
 refine⟨_,_,aO.gx ae (by decide) (by exact UM hm c1) (by decide) (by exact HW),by refine J (length_map _) (J length_range ?_);exact UL hm zl c1,λi acc σ'=>mh λ(aW:List RK) (vs:LN)=>DX (acc=vs.map pid) (vs.length=i) (Wd t hx hd jU σ' aW) (Fix t V σ') (σ' d=some (.lst (ps.map aC))) (rs<+:aW) (aW.length<=rs.length+2*i) (∀(j k:Nat) (p:LN) (v:Nat) (r:RK),ks[j]? =some k->ps[j]? =some p->vs[j]? =some v->rs[k]? =some r->kg aW r p v),
  (gk rs [] rfl rfl W2 F2 e2 prefix_rfl (Nat.le_refl _) (λj k p v r _ _ e=>by exact bL e)),λ_ _ _ _=>rfl,λC c0 m' σ' x Q' _ hq=>fM (by rfl) hq,λm' x y _ _=>de m' _ x y,λC i x c0 gE cw acc σ' zq=>?_,λacc σ' D zq hD=>?_⟩
 ·refine gp zq λaW vs q1 q2 q4 q5 qd q6 q7 q8=>?_;clear zq
  subst q1 q2;refine aA (kJ gE) λhi au=>?_;subst au;obtain ⟨k,hk⟩:∃k,ks[vs.length]? =some k:=⟨_,getElem?_eq_getElem (by exact Ox mK c1 hi)⟩;obtain ⟨p,hp⟩:∃p,ps[vs.length]? =some p:=⟨_,getElem?_eq_getElem hi⟩;refine ah (z5 k (mem_of_getElem? hk)) λr hrk IT=>?_;have pz:=c2 p (mem_of_getElem? hp);refine jy ((if_pos rfl).mpr (eh ft ⟨bw 2 rfl ⟨bw vs.length (by refine J getElem?_map (J hk ?_);rfl) ⟨cG (k:=vs.length) qd (by refine J getElem?_map (J hp ?_);rfl) (by exact UK hm c1 hi) ⟨MB ft aG q4 (by exact UJ hz hm c1 q7 hi) (cf q6 hrk) IT (by exact LM hl pz) λay bu v W3 F3 P3 L3 R3=>?_⟩⟩ (by exact UI hm c1 hi)⟩⟩));refine(gk bu (vs++[v]) (by refine J map_append ?_;rfl) (by refine J length_append ?_;rfl) W3 (q5.trans F3) (F3 _ _ qd nd.1 nd.2) (q6.trans P3) (by exact UH q7 L3) (λj k' p' v' r' h1 h2 h3 h4=>?_))
  by_cases q:j<vs.length
  ·rw[getElem?_append_left q] at h3
   exact(q8 j k' p' v' r' h1 h2 h3 h4).pre P3
  ·rw[getElem?_append_right (by exact wB q)] at h3
   have:j=vs.length:=by have:=ar h3;simp at this;exact BJ q this
   subst this;rw[hk] at h1;obtain rfl:=sI h1;rw[hp] at h2;obtain rfl:=sI h2;rw[hrk] at h4;obtain rfl:=sI h4;simp at h3;subst h3;exact R3
 ·refine gp zq λaW vs q1 q2 q4 q5 qd q6 q7 q8=>?_;clear zq
  subst q1;rw[length_map,length_range] at q2 q7
  have xk:V D=none:=by
   induction q:V D with
   |none=>rfl
   |some o=>
    have a:D≠t.rows:=by rintro rfl;rw[q4.T.rows] at hD;exact fB hD
    have b:D≠t.index:=by rintro rfl;rw[q4.T.index] at hD;exact fB hD
    rw[q5 _ _ q a b] at hD;exact fB hD
  exact h1 _ aW D ps vs e (q4.kp (Kp.new hD)) (q5.trans (Fix.new hD)) q6 (by exact UG mK c1 q7) xk ae (by exact UE mK c1 q2) q8
end
noncomputable def ff(l:LN):Bool:=!((aH l).isEmpty||decide (45∈aH l)||decide (97∈aH l)||decide (98∈aH l))&&(l==[48]||!((aH l).take 1==[48]))
section
variable {hx hd:Addr}
theorem so(ft:Ft c)(hA:Rm 1 A)(hz:l.length<=1000)(h:Q (.bool (ff l)) V):aw c A φ (.ref 643) [aC l] V Q:=by
 have bz:(aH l).length<=1000:=by unfold aH;split<;>(first|(simp only[length_cons] at hz;exact Tt hz)|exact hz)
 refine enter ft "_law_printed" (hA:Rm (0+1) A) rfl rfl rfl rfl (Dq λ_=>rfl) rfl λL A' aG=>?_;refine cut ft (λm' σ'=>m'=[(("word":Str),aC l),("body",aC (aH l))]/\V=σ') ⟨r8 (b:=1) ?_ (by exact cz hz)⟩ λm' σ' zq=>?_
 ·refine bZ (λe=>⟨Bi (a:=1) ?_ (by exact cz hz)⟩) λe=>?_
  ·have q:l=45::aH l:=mX l (by
    have:(S (l.take 1)==S [45])=true:=e;rw[cH] at this;exact eq_of_beq this)
   have:l.drop 1=aH l:=(congrArg (List.drop 1) q).trans rfl;refine J this ?_;exact⟨rfl,rfl⟩
  ·have q:aH l=l:=nS l λe'=>by
    have:(S (l.take 1)==S [45])=false:=e;rw[cH,e'] at this;exact rB this
   refine J q ?_;exact⟨rfl,rfl⟩
 refine aA zq λe1 e2=>?_;clear zq;subst e1 e2
 have no:((aH l).isEmpty||decide (45∈aH l)||decide (97∈aH l)||decide (98∈aH l))=true->Q (.bool false) V:=λq=>by unfold ff at h;rw[q] at h;exact h
 refine bZ (λe=>?_) λe=>?_
 ·have e:(S (aH l)==S [])=true:=e
  rw[cH] at e;exact no (by refine J (eq_of_beq e) ?_;rfl)
 have e:(S (aH l)==S [])=false:=e;rw[cH,beq_eq_false_iff_ne] at e;refine⟨xx (u:=45) (bZ (λe1=>no (by rw[e1,Bool.or_true,Bool.true_or,Bool.true_or])) λe1=>⟨xx (u:=97) (bZ (λe2=>no (by exact J e2 (J (Bool.or_true _) (J (Bool.true_or _) rfl)))) λe2=>⟨xx (u:=98) (bZ (λe3=>no (by exact J e3 (J (Bool.or_true _) rfl))) λe3=>?_)⟩)⟩)⟩
 have h':Q (.bool (l==[48]||!((aH l).take 1==[48]))) V:=by
  unfold ff at h;have:(aH l).isEmpty=false:=by induction q:aH l using LC with|nil=>exact absurd q e|cons a r=>rfl
  rw[this,e1,e2,e3] at h;exact h
 refine bZ (λe4=>?_) λe4=>?_
 ·have wH:(S l==S [48])=true:=e4
  rw[cH] at wH;refine(?_:Q (.bool (S l==S [48])) V);refine J (cH _ _) (J wH ?_);rw[wH,Bool.true_or] at h';exact h'
 ·have wH:(S l==S [48])=false:=e4
  rw[cH] at wH;refine me (exists_cons_of_ne_nil e) λu r eb=>?_;refine⟨J5 (j:=0) (u:=u) (by decide) (by refine J eb ?_;simp[seqIndex?]) (by refine J eb ?_;rfl) ?_⟩;refine(?_:Q (.bool (S [u] !=S [48])) V);rw[bne,cH];rw[wH,Bool.false_or,eb] at h';exact h'
end
def oM(V:St)(kd:Addr)(kf:Nat->Option (Nat×Addr)):Prop:=∃lk:List (Str×PV),V kd=some (.dS lk)/\∀u,cO lk (S [u])=(kf u).map λp=>.tup [pid p.1,.ref p.2]
theorem oM.kp(h:oM V kd kf)(k:Kp V σ'):oM σ' kd kf:=by (refine ah h λlk a b=>?_;clear h);exact aj lk (k _ _ a) b
noncomputable def lM(kf:Nat->Option Nat)(p:Pc)(u:Nat):Pc:=match kf u with
 |some k=>(p.1++[[]],p.2++[k])
 |none=>(p.1.dropLast++[bR p.1++[u]],p.2)
noncomputable def fA(kf:Nat->Option Nat)(l:LN):Pc:=l.foldl (lM kf) ([[]],[])
noncomputable abbrev kk(kf:Nat->Option (Nat×Addr)):Nat->Option Nat:=λu=>(kf u).map (·.1)
theorem lN(kf:Nat->Option Nat)(l:LN)(u:Nat):fA kf (l++[u])=lM kf (fA kf l) u:=by unfold fA;refine J foldl_append ?_;rfl
theorem yg(kf:Nat->Option Nat)(l:LN):(fA kf l).1≠[]/\(fA kf l).1.length<=l.length+1/\(fA kf l).2.length<=l.length/\∀t∈(fA kf l).1,t.length<=l.length:=by
 refine fZ (P:=λl=>(fA kf l).1≠[]/\(fA kf l).1.length<=l.length+1/\(fA kf l).2.length<=l.length/\∀t∈(fA kf l).1,t.length<=l.length) (cj (by exact(cons_ne_self _ _)) (by exact(Std.le_refl _)) (by simp[fA]) (λt ht=>by simp[fA] at ht;refine J ht ?_;exact Nat.zero_le _)) (λl u zq=>?_) l;refine cT zq λa b d e=>?_;clear zq;refine J (lN _ _ _) ?_;unfold lM;induction kf u with
 |some k=>
  refine(cj (by exact concat_ne_nil [] (fA kf l).fst) (by simp;omega) (by simp;omega) (λt ht=>?_));rcases mem_append.mp ht with h|h
  ·have:=e t h;simp;exact Lr this
  ·refine J (mem_singleton.mp h) ?_;exact Nat.zero_le _
 |none=>
  have la:bR (fA kf l).1∈(fA kf l).1:=by unfold bR;refine J (getLast?_eq_some_getLast a) ?_;exact getLast_mem a
  refine(cj (by exact concat_ne_nil (bR (fA kf l).fst++[u]) (fA kf l).fst.dropLast) (by simp;omega) (by simp;omega) (λt ht=>?_));rcases mem_append.mp ht with h|h
  ·have:=e t ((dropLast_sublist _).subset h);simp;exact Lr this
  ·refine J (mem_singleton.mp h) ?_;have:=e _ la;simp;exact PL this
section
variable {hx hd:Addr}
theorem p7{v:PV}(h:((S l).cps.toList.map λu=>PV.str ⟨#[u]⟩)[i]? =some v):∃u,l[i]? =some u/\v=.str (S [u]):=by have h:(l.map λu=>PV.str ⟨#[u]⟩)[i]? =some v:=h;refine ah (iE h) λu q zr=>?_;clear h;subst zr;exact aj u q rfl
theorem vi(ft:Ft c)(hA:Rm 1 A)(K:oM V kd kf)(hz:l.length<=1000)(h:∀σ',Kp V σ'->Q (dx (fA (kk kf) l)) σ'):aw c A φ (.ref 650) [.ref kd,aC l] V Q:=by
 have zl:sizeLine=2^24:=rfl;refine enter ft "_law_row" (hA:Rm (0+1) A) rfl rfl rfl rfl (pF λ_ _=>rfl) rfl λL A' aG=>go ft ⟨λT hT=>⟨λY hY=>⟨bP aG.handled (by rfl) (eh ft ?_)⟩⟩⟩;have Zs:V Y=none:=c9 (Kp.new hT) hY;have Zu:T≠Y:=by rintro rfl;rw[ae] at hY;exact fB hY
 refine⟨_,_,aO.str _,λi m' σ'=>m'=[(("kinds":Str),PV.ref kd),("piece",aC l),("texts",.ref T),("types",.ref Y)]/\Kp V σ'/\σ' T=some (.lst ((fA (kk kf) (l.take i)).1.map aC))/\σ' Y=some (.lst ((fA (kk kf) (l.take i)).2.map pid)),
  (cj rfl (λa o e=>ai hY (ai hT e)) (ai hY ae) ae),λ_ _ _ _=>rfl,λi v c0 hv cw mm σ' zq=>go ft ?_,λmm σ' zq=>go ft ?_⟩
 ·refine cT zq λe1 e2 e3 e4=>?_;clear zq
  subst e1;refine ah (p7 hv) λu hu au=>?_;subst au;refine ah (K.kp e2) λlk k1 k2=>?_;have tk:l.take (i+1)=l.take i++[u]:=by refine J take_add_one (J hu ?_);rfl
  refine cT (yg (kk kf) (l.take i)) λn1 n2 n3 n4=>?_;have tl:(l.take i).length<=1000:=by refine J length_take ?_;exact Ts hz
  refine⟨MJ ft.sys k1 ?_⟩;have kpT:∀o,Kp V (upd σ' T o):=λo=>Kp.upd e2 hT;induction hk:kf u with
  |some p=>
   have e:cO lk (S [u])=some (.tup [pid p.1,.ref p.2]):=by refine J (k2 u) (J hk ?_);rfl
   have aW:fA (kk kf) (l.take (i+1))=((fA (kk kf) (l.take i)).1++[[]],(fA (kk kf) (l.take i)).2++[p.1]):=by refine J tk (J (lN _ _ _) ?_);unfold lM;rw[show kk kf u=some p.1 by unfold kk;refine J hk ?_;rfl]
   refine Dp (by refine J e ?_;rfl) ⟨_,_,bD e4,a9,⟨nC k1 e ⟨bw 0 rfl ⟨bN e4 (by refine J (length_map _) ?_;exact Tr zl n3 tl) ?_⟩⟩⟩⟩;have ux:∀o,upd σ' Y o T=some (.lst ((fA (kk kf) (l.take i)).1.map aC)):=λo=>by refine J (aB Zu) ?_;exact e3
   refine⟨_,_,bD (ux _),a9,⟨bN (ux _) (by refine J (length_map _) ?_;exact Tq zl n2 tl) (aj _ ⟨rfl,?_,?_,?_⟩ (Le.new rfl))⟩⟩
   ·exact Kp.upd (Kp.upd e2 Zs) hT
   ·refine J ae (J aW (J map_append ?_));rfl
   ·refine J (aB (Ne.symm Zu)) (J ae (J aW (J map_append ?_)));rfl
  |none=>
   have e:cO lk (S [u])=none:=by refine J (k2 u) (J hk ?_);rfl
   refine me (dR n1) λa x ea=>?_;have ex:bR (fA (kk kf) (l.take i)).1=x:=by unfold bR;refine J ea (J getLast?_concat ?_);rfl
   have aW:fA (kk kf) (l.take (i+1))=(a++[x++[u]],(fA (kk kf) (l.take i)).2):=by refine J tk (J (lN _ _ _) ?_);unfold lM;rw[show kk kf u=none by unfold kk;refine J hk ?_;rfl];simp only[ex];exact J ea (J dropLast_concat rfl)
   have ux:σ' T=some (.lst (a.map aC++[aC x])):=by refine J e3 (J ea (J map_append ?_));rfl
   have al:a.length+1<=1001:=by have:=n2;rw[ea,length_append,length_singleton] at this;exact Tp tl this
   have xl:x.length<=1000:=by have:=n4 x (by refine J ea ?_;exact mem_concat_self);exact LM tl this
   refine nR (by refine J e ?_;rfl) ⟨I6 (k:=1) (p:=aC x) ux (by decide) (by simp) (by simp;exact To zl al) (by simp) ⟨qE (by refine J (bI _) (J (bI _) ?_);dsimp;exact Tn zl xl) ⟨se (k:=-1) (j:=a.length) ux (by have:=seqIndex_neg (k:=1) (n:=(a.map aC++[aC x]).length) (by decide) (by simp);simpa using this) (by simp) (by decide) (aj _ ⟨rfl,Kp.upd e2 hT,?_,?_⟩ (Le.new rfl))⟩⟩⟩
   ·refine J ae (J aW (J (iO _ _) (J map_append ?_)))
    simp
   ·refine J (aB (Ne.symm Zu)) (J aW ?_);exact e4
 ·refine cT zq λe1 e2 e3 e4=>?_;clear zq
  subst e1;have e0:((S l).cps.toList.map λu=>PV.str ⟨#[u]⟩).length=l.length:=by exact J (length_map _) rfl
  rw[e0,take_length] at e3 e4;refine cT (yg (kk kf) l) λn1 n2 n3 n4=>?_;exact⟨dn e3 (by refine J (length_map _) ?_;exact Tj hz zl n2) ⟨dn e4 (by refine J (length_map _) ?_;exact Ti hz zl n3) (h _ e2)⟩⟩
end
noncomputable def hN(kf:Nat->Option (Nat×Addr))(wf:Nat->List LN)(ws:List LN)(u:Nat):List LN:=ws.flatMap λw=>(match kf u with
 |some _=>wf u
 |none=>[[u]]).map (w++·)
noncomputable def ef(kf:Nat->Option (Nat×Addr))(wf:Nat->List LN)(l:LN):List LN:=l.foldl (hN kf wf) [[]]
theorem mI(kf:Nat->Option (Nat×Addr))(wf:Nat->List LN)(l:LN)(u:Nat):ef kf wf (l++[u])=hN kf wf (ef kf wf l) u:=by unfold ef;refine J foldl_append ?_;rfl
noncomputable def l8(w:LN):Bool:=!w.isEmpty&&(w==replicate w.length 83)
def uM(ss:List LN):Prop:=sortedS (ss.map S)=true
noncomputable def jJ(ws:List LN):List LN:=if ws.any l8 then [[83]] else ws
def rk(V:St)(kf:Nat->Option (Nat×Addr))(wf:Nat->List LN):Prop:=∀u p,kf u=some p->V p.2=some (.lst ((wf u).map aC))
theorem rk.kp(h:rk V kf wf)(k:Kp V σ'):rk σ' kf wf:=λu p e=>k _ _ (h u p e)
noncomputable def jL(l:List (Str×PV))(ws:List LN):List (Str×PV):=ws.foldl (λacc w=>dk acc (S w) (.int 1)) l
theorem vD{l:List (Str×PV)}:(cO l x).isSome=true↔x∈l.map (·.1):=by
 unfold cO;refine J Option.isSome_map (rI find?_isSome (rI mem_map ?_));constructor
 ·rintro ⟨p,h1,h2⟩;exact aj p h1 (of_decide_eq_true h2)
 ·rintro ⟨p,h1,h2⟩;exact aj p h1 (decide_eq_true h2)
theorem xf{l:List (Str×PV)}:(dk l x p).map (·.1)=if x∈l.map (·.1) then l.map (·.1) else l.map (·.1)++[x]:=by
 unfold dk
 by_cases h:x∈l.map (·.1)
 ·refine J (if_pos h) (J (if_pos (show (cO l x).isSome=true from vD.mpr h)) (J map_map ?_))
  apply map_congr_left;intro kv _;simp only[Function.comp]
  split<;>rfl
 ·refine J (if_neg h) (J (if_neg (show¬(cO l x).isSome=true from λq=>h (vD.mp q))) (J map_append ?_));rfl
theorem nD:∀(ws:List LN) (l:List (Str×PV)),(l.map (·.1)).Nodup->((jL l ws).map (·.1)).Nodup/\(∀x,x∈(jL l ws).map (·.1)↔x∈l.map (·.1)∨∃w∈ws,S w=x)/\(jL l ws).length<=l.length+ws.length
 |[],l,h=>⟨h,λx=>⟨.inl,λq=>q.elim id λzf=>ah zf λ_ a _=>nomatch a⟩,Nat.le_refl _⟩
 |k::ks,l,h=>by
  have h1:((dk l (S k) (.int 1)).map (·.1)).Nodup/\∀x,x∈(dk l (S k) (.int 1)).map (·.1)↔x∈l.map (·.1)∨S k=x:=by
   refine J xf ?_
   by_cases e:S k∈l.map (·.1)
   ·refine J (if_pos e) ?_;exact⟨h,λx=>⟨.inl,λq=>q.elim id λq=>q▸e⟩⟩
   ·refine J (if_neg e) ?_
    refine⟨nodup_append.mpr (aN h (by exact gY rfl) (λa ha b hb=>?_)),λx=>?_⟩
    ·refine J (mem_singleton.mp hb) ?_;rintro rfl;exact e ha
    ·refine rI mem_append (rI mem_singleton ?_);exact⟨λq=>q.imp id Eq.symm,λq=>q.imp id Eq.symm⟩
  have ih:=nD ks (dk l (S k) (.int 1)) h1.1;have hl:(dk l (S k) (.int 1)).length<=l.length+1:=by unfold dk;split<;>simp
  refine(aN ih.1 (λx=>?_) (by have:=ih.2.2;simp only[length_cons];refine(?_:(jL (dk l (S k) (.int 1)) ks).length<=_);omega));refine(?_:x∈(jL (dk l (S k) (.int 1)) ks).map (·.1)↔_);refine rI (ih.2.1 x) (rI (h1.2 x) (rI or_assoc ?_));apply or_congr_right;constructor
  ·rintro (e|⟨k',a,e⟩)
   ·exact aj k (.head _) e
   ·exact aj k' (.tail _ a) e
  ·rintro ⟨k',a,e⟩
   rcases mem_cons.mp a with rfl|a
   ·exact .inl e
   ·exact .inr (aj k' a e)
section
variable {hx hd:Addr}
theorem xN(ft:Ft c)(hA:Rm 1 A){kf:Nat->Option (Nat×Addr)}{wf:Nat->List LN}(K:oM V kd kf)(W:rk V kf wf)(hz:l.length<=1000)(hwf:∀u,(wf u).length<=1000)
  (hb:∀i,(ef kf wf (l.take i)).length<64/\∀w∈ef kf wf (l.take i),w.length<=1000) {Q:PV->St->Prop}
  (h:∀σ' d (ss:List LN),Kp V σ'->V d=none->σ' d=some (.lst (ss.map aC))->ss.Nodup->uM ss->(∀w,w∈ss↔w∈jJ (ef kf wf l))->Q (.ref d) σ'):aw c A φ (.ref 655) [.ref kd,aC l] V Q:=by
 have zl:sizeLine=2^24:=rfl;refine enter ft "_law_words" (hA:Rm (0+1) A) rfl rfl rfl rfl (pF λ_ _=>rfl) rfl λL A' aG=>go ft ⟨λT hT=>⟨bP aG.handled (by rfl) (eh ft ?_)⟩⟩
 refine⟨_,_,aO.str _,λi m' σ'=>∃T,rC (m'=[(("kinds":Str),PV.ref kd),("piece",aC l),("out",.ref T)]) (Kp V σ') (V T=none) (σ' T=some (.lst ((ef kf wf (l.take i)).map aC))),
  (fi T rfl (λa o e=>ai hT e) hT ae),λ_ _ _ _=>rfl,λi v c0 hv cw mm σ' zq=>go ft ?_,λmm σ' zq=>go ft ?_⟩
 ·refine cS zq λT e1 e2 e3 e4=>?_;clear zq
  subst e1;refine ah (p7 hv) λu hu au=>?_;subst au;have tk:l.take (i+1)=l.take i++[u]:=by refine J take_add_one (J hu ?_);rfl
  refine⟨rH aG.handled (by rfl) (by rfl) (λ_=>rfl) (λ_=>rfl) (by rfl) (by decide) (eh ft ?_)⟩;refine aA (hb i) λb1 b2=>?_;obtain ⟨JA,NX⟩:=hb (i+1);rw[tk,mI] at JA NX;generalize OK:ef kf wf (l.take i)=ws at e4 b1 b2 JA NX
  refine⟨_,_,aO.lst e4,λj acc av=>acc=((ws.take j).flatMap λw=>(match kf u with
   |some _=>wf u
   |none=>[[u]]).map (w++·)).map aC/\Kp σ' av,⟨rfl,λ_ _ e=>e⟩,λj acc av zf=>aA zf λ_ k=>k _ _ e4,λC j x n8 m₁ gE nB Gx hmz acc av zq=>?_,λacc av D zq hD=>?_⟩
  ·refine aA zq λq1 q2=>?_;clear zq
   subst q1;refine ah (iE gE) λw hj zr=>?_;clear gE;subst zr;have wz:=b2 w (mem_of_getElem? hj);have YD:dB m₁ "letter"=some (.str (S [u])):=hmz _ (by decide) (by decide);have m1k:dB m₁ "kinds"=some (.ref kd):=hmz _ (by decide) (by decide);refine ah ((K.kp e2).kp q2) λlk k1 k2=>?_;have tj:ws.take (j+1)=ws.take j++[w]:=by refine J take_add_one (J hj ?_);rfl
   have aae:∀(hs:List LN) (jj:Nat),(hs=match kf u with
     |some _=>wf u
     |none=>[[u]])->(((ws.take j).flatMap (λw=>hs.map (w++·))).map aC++((hs.take jj).map (w++·)).map aC).length<=sizeLine:=λhs jj q=>by
    have:(ws.take (j+1)).flatMap (λw=>hs.map (w++·))=(ws.take j).flatMap (λw=>hs.map (w++·))++hs.map (w++·):=by refine J tj (J flatMap_append ?_);exact J flatMap_cons (J flatMap_nil (J (append_nil _) (rfl)))
    have h2:ws.flatMap (λw=>hs.map (w++·))=(ws.take (j+1)).flatMap (λw=>hs.map (w++·))++(ws.drop (j+1)).flatMap (λw=>hs.map (w++·)):=by exact rS flatMap_append (J (take_append_drop _ _) rfl)
    have h3:(ws.flatMap (λw=>hs.map (w++·))).length<64:=by refine J q ?_;exact JA
    have h4:=congrArg length this;have h5:=congrArg length h2;rw[length_append] at h4 h5;rw[length_map] at h4;refine J length_append (J (length_map _) (J (length_map _) (J (length_map _) (J length_take ?_))));exact RL zl h3 h4 h5
   have stepI:∀(hs:List LN) (aD:St) (jj:Nat) (x2:PV) (pU:dG) (m₂:Map) (env:Env) (p1 p2 p3:Pos),(hs=match kf u with
     |some _=>wf u
     |none=>[[u]])->(hs.map aC)[jj]? =some x2->hX env "one"=true->hX env "some"=true->dB m₂ "one"=some (aC w)->dB m₂ "some"=some x2->∀eV,eV=((ws.take j).flatMap (λw=>hs.map (w++·))).map aC++((hs.take jj).map (w++·)).map aC->
     eV.length<=sizeLine/\WE c A' pU env m₂ (.BinOp (.Name "one" p1) .Add (.Name "some" p2) p3) aD λq bB=>aD=bB/\eV++[q]=((ws.take j).flatMap (λw=>hs.map (w++·))).map aC++((hs.take (jj+1)).map (w++·)).map aC:=λhs aD jj x2 pU m₂ env p1 p2 p3 hh xh n1 n2 ho IM eV z2=>by
    subst z2;rw[getElem?_map] at xh;induction hq:hs[jj]? with
    |none=>rw[hq] at xh;exact bL xh
    |some y=>
     rw[hq] at xh;obtain rfl:=sI xh
     have yz:y.length<=1000:=by
      have:=NX (w++y) (by unfold hN;refine rS hh ?_;exact mem_flatMap.mpr (aj w (mem_of_getElem? hj) (mem_map.mpr (aj y (mem_of_getElem? hq) rfl))))
      rw[length_append] at this;exact RJ this
     refine⟨aae hs jj hh,yW (jm n1 rfl ho (jm n2 rfl IM (lC (by refine J (bI _) (J (bI _) ?_);exact RI zl wz yz) ⟨rfl,?_⟩)))⟩;refine J take_add_one (J hq (J (iO _ _) (J map_append (J map_append (J (append_assoc _ _ _) ?_)))));rfl
   have Ny:∀(hs:List LN),(hs=match kf u with
     |some _=>wf u
     |none=>[[u]])->((ws.take j).flatMap (λw=>hs.map (w++·))).map aC++((hs.take (hs.map aC).length).map (w++·)).map aC=((ws.take (j+1)).flatMap λw=>hs.map (w++·)).map aC:=λhs hh=>by
    refine J (length_map _) (J take_length (J tj (J flatMap_append (J map_append ?_))));simp
   refine yU (r0 (jm rfl rfl YD (jm rfl rfl m1k (MJ ft.sys k1 (xT ?_)))));induction hk:kf u with
   |some p=>
    have e:cO lk (S [u])=some (.tup [pid p.1,.ref p.2]):=by refine J (k2 u) (J hk ?_);rfl
    rw[if_pos (by refine J e ?_;rfl)];refine C9 (C9 (jm rfl rfl m1k (jm rfl rfl YD (nC k1 e (C8 (bw 1 rfl ?_))))));have ew:=(W.kp e2).kp q2 u p hk;refine⟨_,_,aO.lst ew,λjj eV bB=>av=bB/\eV=((ws.take j).flatMap (λw=>(wf u).map (w++·))).map aC++(((wf u).take jj).map (w++·)).map aC,⟨rfl,by exact(append_nil _).symm⟩,λjj eV bB zq=>by(refine aA zq λq _=>?_;clear zq);refine rS q ?_;exact ew,λjj x2 pU m₂ xh _ ho IM _ eV bB zq=>?_,λeV bB zq=>?_⟩
    ·refine aA zq λz1 z2=>?_;clear zq
     subst z1;exact stepI (wf u) av jj x2 pU m₂ _ _ _ _ (by exact J hk rfl) xh rfl rfl ho IM eV z2
    ·refine aA zq λz1 z2=>?_;clear zq
     subst z1;refine J z2 ?_;exact⟨by rw[Ny (wf u) (by exact J hk rfl)],q2⟩
   |none=>
    have e:cO lk (S [u])=none:=by refine J (k2 u) (J hk ?_);rfl
    rw[if_neg (by refine J e ?_;decide)];refine Dc (xD (jm rfl rfl YD (DC (su (Nat.le_of_ble_eq_true rfl) λD hD=>?_))));refine⟨_,_,aO.lst (l:=[[u]].map aC) ae,λjj eV bB=>upd av D (.lst [PV.str (S [u])])=bB/\eV=((ws.take j).flatMap (λw=>[[u]].map (w++·))).map aC++(([[u]].take jj).map (w++·)).map aC,⟨rfl,by exact(append_nil _).symm⟩,λjj eV bB zq=>by(refine aA zq λq _=>?_;clear zq);refine rS q ?_;exact ae,λjj x2 pU m₂ xh _ ho IM _ eV bB zq=>?_,λeV bB zq=>?_⟩
    ·refine aA zq λz1 z2=>?_;clear zq
     subst z1;exact stepI [[u]] _ jj x2 pU m₂ _ _ _ _ (by exact J hk rfl) xh rfl rfl ho IM eV z2
    ·refine aA zq λz1 z2=>?_;clear zq
     subst z1;refine J z2 ?_;exact⟨by rw[Ny [[u]] (by exact J hk rfl)],λa o e=>ai hD (q2 a o e)⟩
  ·refine aA zq λq1 q2=>?_;clear zq
   subst q1;refine J (length_map _) (J take_length ?_);refine(aj _ ⟨D,rfl,λa o e=>ai hD (q2 _ _ (e2 a o e)),c9 e2 (c9 q2 hD),?_⟩ (Le.all (cj rfl rfl rfl trivial)));refine J ae (J tk (J (mI _ _ _ _) (J OK ?_)));rfl
 ·refine cS zq λT e1 e2 e3 e4=>?_;clear zq
  subst e1;have el:((S l).cps.toList.map λu=>PV.str ⟨#[u]⟩).length=l.length:=by exact J (length_map _) rfl
  rw[el,take_length] at e4;refine aA (hb l.length) λb1 b2=>?_;rw[take_length] at b1 b2;generalize ef kf wf l=ws at*;refine⟨bP aG.handled (by rfl) (eh ft ?_)⟩;refine⟨_,_,aO.lst e4,λi m' av=>mz (m'=[(("kinds":Str),PV.ref kd),("piece",aC l),("out",.ref T)]) (σ'=av) ((ws.take i).any l8=false),⟨rfl,rfl,rfl⟩,λi m' av zq=>by(refine fp zq λ_ q _=>?_;clear zq);refine rS q ?_;exact e4,λi v c0 hv cw mm av zq=>go ft ?_,λmm av zf=>fp zf λq1 q2 q3=>go ft ⟨xr aG.handled (by rfl) (λ_=>rfl) (eh ft ?_)⟩⟩
  ·refine fp zq λq1 q2 q3=>?_;clear zq
   subst q1 q2;refine ah (iE hv) λw hi zr=>?_;clear hv;subst zr;have wz:=b2 w (mem_of_getElem? hi);have next:l8 w=false->(ws.take (i+1)).any l8=false:=λq=>by refine J take_add_one (J hi (J any_append (J q3 ?_)));simp[q]
   refine bZ (λe=>⟨fg ⟨Dw (u:=83) (by exact cz wz) (bZ (λe'=>⟨λD hD=>?_⟩) λe'=>?_)⟩ (by exact cz wz)⟩) λe=>?_
   all_goals
    have e:(S w !=S [])=_:=e;rw[bne,cH] at e
   ·have e':(S w==S (replicate w.length 83))=true:=e'
    rw[cH] at e'
    have hw:l8 w=true:=by
     unfold l8;refine J e' (J (Bool.and_true _) ?_);induction w using LC with
     |nil=>assumption
     |cons a r=>rfl
    have any:ws.any l8=true:=any_eq_true.mpr (aj w (mem_of_getElem? hi) hw);refine h _ D [[83]] (λa o q=>ai hD (e2 a o q)) (c9 e2 hD) ae (by trivial) (by unfold uM;rfl) λx=>?_;unfold jJ;rw[if_pos any]
   ·have e':(S w==S (replicate w.length 83))=false:=e'
    rw[cH] at e';exact(gf _ rfl rfl (next (by unfold l8;exact J e' (J (Bool.and_false _) rfl))) (Le.new rfl))
   ·refine gf _ rfl rfl (next ?_) (Le.new rfl)
    unfold l8;induction w using LC with
    |nil=>rfl
    |cons a r=>exact rB e
  ·subst q1 q2
   rw[length_map,take_length] at q3;refine⟨_,_,aO.lst e4,by refine J (length_map _) ?_;exact Ia zl b1,λi acc av=>σ'=av/\acc=jL [] (ws.take i),⟨rfl,rfl⟩,λi acc av zq=>by(refine aA zq λq _=>?_;clear zq);refine rS q ?_;exact e4,λC i x c0 gE cw acc av zq=>?_,λacc av D zq hD=>?_⟩
   ·refine aA zq λz1 z2=>?_;clear zq
    subst z1 z2;refine ah (iE gE) λw hi zr=>?_;clear gE;subst zr;refine eh ft (aj _ rfl (eh ft ⟨rfl,?_⟩));refine J take_add_one (J hi ?_);unfold jL;refine J foldl_append ?_;rfl
   ·refine aA zq λz1 z2=>?_;clear zq
    subst z1 z2;refine J (length_map _) (J take_length ?_);refine bt (nD ws [] .nil) λg1 g2 g3=>?_;refine⟨zp ft.sys aG.handled ae (by simp at g3;exact LO b1 g3) λD2 ns Ad hp hs=>?_⟩
    have en:ns=(ns.map (·.cps.toList)).map S:=by
     refine J map_map ?_
     conv=>lhs;rw[<-map_id ns]
     apply map_congr_left;intro x _;exact(wm x).symm
    have nd:ns.Nodup:=(hp.nodup_iff).mpr g1;refine h _ D2 (ns.map (·.cps.toList)) (λa o q=>ai Ad (ai hD (e2 a o q))) (c9 e2 (c9 (Kp.new hD) Ad)) ?_ ?_ ?_ λw=>?_
    ·refine J ae ?_;conv=>lhs;rw[en]
     refine J map_map ?_;rfl
    ·rw[en] at nd
     rw[nodup_iff_pairwise_ne,pairwise_map] at nd;exact nodup_iff_pairwise_ne.mpr (nd.imp λq e=>q (by exact J e rfl))
    ·unfold uM;refine rS en ?_;exact hs
    ·unfold jJ;rw[if_neg (by refine J q3 ?_;decide)]
     have h1:w∈ns.map (·.cps.toList)↔S w∈ns:=by refine rI mem_map ?_;exact⟨λzq=>by(refine ah zq λx a b=>?_;clear zq);refine rS b (J (wm _) ?_);exact a,λa=>(aj _ a rfl)⟩
     refine rI h1 (rI hp.mem_iff (rI (g2 _) ?_));constructor
     ·rintro (q|⟨w',a,b⟩)
      ·exact km q
      ·refine rS (DE.mp b) ?_;exact a
     ·intro q;exact .inr (aj w q rfl)
end
noncomputable def Aw:List (Int×PV):=[(6,aC [83]),(7,aC [78]),(16,aC [84]),(17,aC [85])]
theorem Bn(k:Nat):(cO Aw (k:Int)).getD (aC [63])=aC (sgn k):=by
 unfold sgn
 by_cases h1:k=6
 ·subst h1;rfl
 by_cases h2:k=7
 ·subst h2;rfl
 by_cases h3:k=16
 ·subst h3;rfl
 by_cases h4:k=17
 ·subst h4;rfl
 refine J (if_neg h1) (J (if_neg h2) (J (if_neg h3) (J (if_neg h4) ?_)))
 have:cO Aw (k:Int)=none:=by unfold cO Aw;refine rI Option.map_eq_none_iff (rI find?_eq_none ?_);intro p hp;simp only[mem_cons,not_mem_nil,or_false] at hp;rw[decide_eq_true_eq];rcases hp with rfl|rfl|rfl|rfl<;>first|exact λe=>h1 (Int.ofNat.inj e).symm|exact λe=>h2 (Int.ofNat.inj e).symm|exact λe=>h3 (Int.ofNat.inj e).symm|exact λe=>h4 (Int.ofNat.inj e).symm
 refine J this ?_;rfl
theorem yD:∀(ts:List LN) (ks:LN) (t:LN) (k:Nat),ts.length=ks.length+1->il (ts++[t]) (ks++[k])=il ts ks++(sgn k++t)
 |[],_,_,_,h=>by exact qp h
 |[x],[],t,k,_=>by rfl
 |[x],_::_,_,_,h=>by cases h
 |x::y::r,[],_,_,h=>by cases h
 |x::y::r,j::ks,t,k,h=>by have:=yD (y::r) ks t k (by simpa using h);dsimp only[cons_append,il] at this ⊢;refine J this ?_;simp
theorem Ck:∀(ts:List LN) (ks:LN),(il ts ks).length<=wt ts+ks.length
 |[],_=>Nat.zero_le _
 |t::ts,[]=>by simp[il,wt];exact RH
 |t::ts,k::ks=>by
  have:=Ck ts ks;have hs:(sgn k).length=1:=by unfold sgn;repeat' split<;>try rfl
  simp only[il,wt,map_cons,sum_cons,length_append,length_cons] at*;exact RG this hs
def BK(rs:List RK)(k:Nat):Prop:=∃r,rs[k]? =some r/\match r with
 |.str l f=>l.length<=1000/\f<=10
 |.eG ts ks=>ts.length=ks.length+1/\wt ts<=1000/\ks.length<=100
 |.num i f=>f=0/\i.natAbs.log2<1920
 |.key _=>True
 |_=>False
theorem zv{i:Int}(h:i.natAbs.log2<1920):(shown i).length<=700:=by
 have key:∀m:Nat,m.log2<1920->(Nat.toDigits 10 m).length<=600:=λm hm=>by
  refine PySem.toDigits_len_pow (by decide) (by decide) (Nat.lt_of_lt_of_le (?_:m<2^1921) (by decide+kernel));rcases Nat.eq_zero_or_pos m with rfl|hp
  ·exact Nat.pow_pos (by decide)
  ·exact Nat.lt_of_lt_of_le ((Nat.log2_lt (by exact LS hp)).mp hm) (Nat.pow_le_pow_right (by decide) (by decide))
 obtain ⟨m,rfl|rfl⟩:=Int.eq_nat_or_neg i
 ·refine J (je _) (J (length_map _) ?_);rw[Int.natAbs_natCast] at h;have:=key m h;exact cz this
 ·induction m using NC with
  |zero=>refine J (show-((0:Nat):Int)=((0:Nat):Int) from rfl) (J (je _) (J (length_map _) ?_));have:=key 0 (by decide);exact cz this
  |succ m=>refine J (sd _) (J length_cons (J (length_map _) ?_));rw[Int.natAbs_neg,Int.natAbs_natCast] at h;have:=key (m+1) h;exact RE this
section
variable {hx hd sg:Addr}
theorem HG(ft:Ft c)(hA:Rm 2 A)(T:dc t V rs bs)(hs:V sg=some (.dI Aw))(hz:rs.length<1000000){v:Nat}(hr:rs[v]? =some r)(hp:∀p∈aF rs v,BK rs p)(hl:(aF rs v).length<64)
  (h:∀σ' d (ss:List LN),Kp V σ'->V d=none->σ' d=some (.lst (ss.map aC))->ss.Perm ((aF rs v).map (bW rs))->uM ss->Q (.ref d) σ'):aw c A φ (.ref 662) [.ref t.x,.ref sg,pid v] V Q:=by
 have zl:sizeLine=2^24:=rfl;refine enter ft "_law_read" (hA:Rm (1+1) A) rfl rfl rfl rfl (wI λ_ _ _=>rfl) rfl λL A' aG=>go ft ⟨λD hD=>⟨bP aG.handled (by rfl) (eh ft ⟨pL ft aG.le (T.new hD) hr hz ?_⟩)⟩⟩;refine⟨_,_,aO.tup _,λi m' σ'=>m'=[(("tab":Str),PV.ref t.x),("signs",.ref sg),("t",pid v),("out",.ref D)]/\Kp V σ'/\σ' D=some (.lst (((aF rs v).take i).map λp=>aC (bW rs p))),(aN rfl (λa o e=>ai hD e) ae),λ_ _ _ _=>rfl,λi x c0 hv cw mm σ' zq=>go ft ?_,λmm σ' zq=>go ft ?_⟩
 ·refine bt zq λe1 e2 e3=>?_;clear zq
  subst e1;refine ah (iE hv) λp hi zr=>?_;clear hv;subst zr;refine ah (hp p (mem_of_getElem? hi)) λq hq ok=>?_;have T':=T.fixed e2;have sD:=e2 _ _ hs;have tz:(((aF rs v).take i).map λp=>aC (bW rs p)).length<=sizeLine:=by refine J (length_map _) (J length_take ?_);exact RD hl zl
  have fin:∀(av:St),Kp V av->av D=some (.lst (((aF rs v).take i).map λp=>aC (bW rs p)))->Kp V (upd av D (.lst ((((aF rs v).take i).map λp=>aC (bW rs p))++[aC (bW rs p)])))/\upd av D (.lst ((((aF rs v).take i).map λp=>aC (bW rs p))++[aC (bW rs p)])) D=some (.lst (((aF rs v).take (i+1)).map λp=>aC (bW rs p))):=λav k e=>⟨Kp.upd k hD,by refine J ae (J take_add_one (J hi (J map_append ?_)));rfl⟩
  have wp:bW rs p=match (some q:Option RK) with
   |some (.str l f)=>l++replicate f 33
   |some (.eG ts ks)=>il ts ks
   |some (.num i f)=>if f=0 then 35::shown i else sgn p
   |_=>sgn p:=by refine rS hq ?_;rfl
  refine⟨di ft T' ⟨fa T' hq hz ⟨eI ?_⟩⟩⟩;induction q with
  |str l f=>
   refine⟨_,_,bD e3,a9,⟨bw 1 rfl ⟨bw 2 rfl ⟨Dw (u:=33) (by omega) ⟨lC (by refine J (bI _) (J (bI _) (J length_replicate ?_));omega) ⟨bN e3 tz ?_⟩⟩⟩⟩⟩⟩;refine J (iO _ _) (J (show l++replicate f 33=bW rs p from wp.symm) ?_);exact cK _ rfl (fin σ' e2 e3) (Le.all (aQ rfl rfl rfl rfl trivial))
  |eG ts ks=>
   refine bt ok λo1 o2 o3=>?_;clear ok;have wl:=sV ts;refine⟨eI ⟨bw 1 rfl ⟨ib (by refine J (length_map _) ?_;exact RC zl o1 o3) ⟨bw 2 rfl ⟨ib (by refine J (length_map _) ?_;exact nZ zl o3) (Dp (by rw[length_map,length_map,beq_iff_eq];exact RA o1) ?_)⟩⟩⟩⟩⟩;obtain ⟨t0,rZ,rfl⟩:=exists_cons_of_ne_nil (show ts≠[] by rintro rfl;exact qp o1);have Yu:rZ.length=ks.length:=by simpa using o1
   refine⟨bw 1 rfl ⟨bw 0 rfl ⟨bP aG.handled (by rfl) (eh ft ⟨bw 2 rfl ⟨ib (by refine J (length_map _) ?_;exact nZ zl o3) ⟨iS λrg ky=>?_⟩⟩⟩)⟩⟩⟩;refine J (length_map _) ?_;refine⟨_,_,aO.gx ae (by decide) (by exact Rz o3) (by decide) (by exact HW),λj m' av=>m'=[(("tab":Str),PV.ref t.x),("signs",.ref sg),("t",pid v),("out",.ref D),("part",pid p),("row",.tup (RK.eG (t0::rZ) ks).row),("one",aC (il (t0::rZ.take j) (ks.take j)))]/\upd σ' rg (.gx 0 ks.length)=av,⟨by dsimp [il];rfl,rfl⟩,λ_ _ _ _=>rfl,λj x n8 sC nB mm av zq=>go ft ?_,λmm av zq=>go ft ?_⟩
   ·refine aA zq λq1 q2=>?_;clear zq
    subst q1 q2;refine aA (kJ sC) λhj au=>?_;subst au;obtain ⟨k,hk⟩:∃k,ks[j]? =some k:=⟨_,getElem?_eq_getElem hj⟩;obtain ⟨x,gE⟩:∃x,rZ[j]? =some x:=⟨_,getElem?_eq_getElem (by exact Gn Yu hj)⟩
    have sn:il (t0::rZ.take (j+1)) (ks.take (j+1))=il (t0::rZ.take j) (ks.take j)++(sgn k++x):=by refine J take_add_one (J take_add_one (J hk (J gE (rS cons_append ?_))));exact yD _ _ _ _ (by refine J length_cons (J length_take (J length_take ?_));exact Ry Yu)
    have z1:(il (t0::rZ.take j) (ks.take j)++(sgn k++x)).length<=1200:=by
     refine rS sn ?_;refine Nat.le_trans (Ck _ _) ?_
     have a:wt (t0::rZ.take (j+1))<=wt (t0::rZ):=by have:=G8 (t0::rZ.take (j+1)) (rZ.drop (j+1));rw[cons_append,take_append_drop] at this;exact Rx this
     have b:(ks.take (j+1)).length<=100:=by refine J length_take ?_;exact Rw o3
     exact Ru o2 a b
    rw[length_append,length_append] at z1;refine⟨_,_,oW (ai ky sD),a9,⟨bw 2 rfl ⟨bw j (by refine J getElem?_map (J hk ?_);rfl) ⟨Dg ft.sys (ai ky sD) ?_⟩ (by exact Rt o3 hj)⟩⟩⟩;refine J (show (cO Aw (k:Int)).getD (.str "?")=aC (sgn k) from Bn k) ?_;refine⟨bw 1 rfl ⟨bw (j+1) (by refine J map_cons (J getElem?_cons_succ (J getElem?_map (J gE ?_)));rfl) ⟨lC (by refine J (bI _) (J (bI _) ?_);exact Rr zl z1) ⟨qE (by refine J (iO _ _) (J (bI _) (J (bI _) (J length_append ?_)));exact Rq zl z1) (cK _ rfl rfl (Le.all (cC rfl rfl rfl rfl rfl rfl ?_ trivial)))⟩⟩ (by exact Ro o3 hj)⟩⟩;rw[sn,iO,iO];rfl
   ·refine aA zq λq1 q2=>?_;clear zq
    subst q1 q2;have er:((range ((ks.length:Int)-0).toNat).map λj:Nat=>PV.int (0+(j:Int))).length=ks.length:=by refine J (length_map _) (J length_range ?_);exact Ib
    refine J er (J take_length (J (take_of_length_le (by exact JJ Yu)) ?_));have ux:upd σ' rg (.gx 0 ks.length) D=some (.lst (((aF rs v).take i).map λp=>aC (bW rs p))):=ai ky e3;refine⟨_,_,bD ux,a9,⟨bN ux tz ?_⟩⟩;refine J (show il (t0::rZ) ks=bW rs p from wp.symm) ?_;exact cK _ rfl (fin _ (λa o e=>ai ky (e2 a o e)) ux) (Le.all (aQ rfl rfl rfl rfl trivial))
  |num j f=>
   refine aA ok λau o2=>?_;clear ok;subst au;refine⟨eI ⟨eI ⟨bw 2 rfl ⟨_,_,bD e3,a9,⟨bw 1 rfl ⟨str_int o2 ?_⟩⟩⟩⟩⟩⟩;refine J (tw _) ?_;have sl:=zv o2;refine⟨lC (x:=S [35]) (by refine J (bI _) (J (bI _) (J length_singleton ?_));exact Rn zl sl) ⟨bN e3 tz ?_⟩⟩;refine J (iO _ _) (J (show [35]++shown j=bW rs p from wp.symm) ?_);exact cK _ rfl (fin σ' e2 e3) (Le.all (aQ rfl rfl rfl rfl trivial))
  |key x=>
   refine⟨eI ⟨eI ⟨_,_,bD e3,a9,⟨_,_,oW sD,a9,⟨Dg ft.sys sD ?_⟩⟩⟩⟩⟩;refine J (show (cO Aw (p:Int)).getD (.str "?")=aC (sgn p) from Bn p) (J (show sgn p=bW rs p from wp.symm) ?_);exact⟨bN e3 tz (cK _ rfl (fin σ' e2 e3) (Le.all (aQ rfl rfl rfl rfl trivial)))⟩
  |_=>exact ok.elim
 ·refine bt zq λe1 e2 e3=>?_;clear zq
  subst e1;rw[length_map,take_length] at e3;have ux:σ' D=some (.lst (((aF rs v).map (λp=>S (bW rs p))).map .str)):=by refine J e3 (J map_map ?_);rfl
  refine⟨zm ux (by refine J (length_map _) ?_;exact hl) λD2 ns Ad hpm YU=>?_⟩
  have en:ns=(ns.map (·.cps.toList)).map S:=by
   refine J map_map ?_
   conv=>lhs;rw[<-map_id ns]
   apply map_congr_left;intro x _;exact(wm x).symm
  refine h _ D2 (ns.map (·.cps.toList)) (λa o q=>ai Ad (e2 a o q)) (c9 e2 Ad) ?_ ?_ ?_
  ·refine J ae ?_;conv=>lhs;rw[en]
   refine J map_map ?_;rfl
  ·have:=hpm.map (·.cps.toList)
   rw[map_map] at this;exact this
  ·unfold uM;refine rS en ?_;exact YU
end
def LL(V:St)(d:Addr)(L:List (List LN)):Prop:=∃ds:List Addr,V d=some (.lst (ds.map .ref))/\ds.length=L.length/\∀(i:Nat) (dd:Addr) (ss:List LN),ds[i]? =some dd->L[i]? =some ss->V dd=some (.lst (ss.map aC))
theorem LL.kp(h:LL V d L)(k:Kp V σ'):LL σ' d L:=by (refine aK h λds a b e=>?_;clear h);exact bb ds (k _ _ a) b (λi dd ss h1 h2=>k _ _ (e i dd ss h1 h2))
noncomputable def sJ(L:List (List LN)):PyData:=.list (L.map λss=>.list (ss.map λw=>.str (S w)))
theorem vN:∀ss:List LN,FY V (ss.map aC) (ss.map λw=>PyData.str (S w))
 |[]=>.nil
 |w::ss=>.cons (.str _) (vN ss)
theorem LL.dv(h:LL V d L):Dv V (.ref d) (sJ L):=by
 refine aK h λds a b e=>?_;clear h;refine .lst a ?_;clear a;induction ds generalizing L with
 |nil=>induction L using LC with
  |nil=>exact .nil
  |cons _ _=>exact qp b
 |cons x ds ih=>induction L using LC with
  |nil=>exact Mr b
  |cons ss L=>exact .cons (.lst (e 0 x ss rfl rfl) (vN ss)) (ih (by simpa using b) λi dd jw h1 h2=>e (i+1) dd jw (by simpa using h1) (by simpa using h2))
theorem iN(L:List (List LN)):(sJ L).depth<=64:=by
 have h1:∀ss:List LN,PyData.depthAll (ss.map λw=>PyData.str (S w))<=0:=λss=>by
  induction ss with
  |nil=>exact Nat.le_refl _
  |cons w ss ih=>simp only[map_cons,PyData.depthAll,PyData.depth];exact Rl ih
 have h2:PyData.depthAll (L.map λss=>PyData.list (ss.map λw=>PyData.str (S w)))<=1:=by
  induction L with
  |nil=>exact Nat.zero_le _
  |cons ss L ih=>simp only[map_cons,PyData.depthAll,PyData.depth];have:=h1 ss;exact Rk ih this
 unfold sJ PyData.depth;exact Rj h2
theorem C5(ss:List LN):PyData.eqvAll (ss.map λw=>PyData.str (S w)) (ss.map λw=>PyData.str (S w))=true:=by
 induction ss with
 |nil=>rfl
 |cons w ss ih=>rw[map_cons,PyData.eqvAll,ih,PyData.eqv];exact J BEq.rfl (J (Bool.and_self _) (rfl))
theorem qS(L:List (List LN)):PyData.eqv (sJ L) (sJ L)=true:=by
 unfold sJ;rw[PyData.eqv];induction L with
 |nil=>rfl
 |cons ss L ih=>rw[map_cons,PyData.eqvAll,ih,PyData.eqv,C5];rfl
section
variable {hx hd sg w st:Addr}
theorem BS{e:Addr}(hA:Rm n A)(h1:LL V d L)(h2:LL V e L)(h:Q (.bool false) V):W2 c A φ Vr (compareOp .NotEq) (.ref d) (.ref e) V Q:=
 yY hA h1.dv h2.dv rfl rfl (iN L) (by refine J (qS _) ?_;exact h)
noncomputable def wL(t:TA)(hx st sg:Addr):List (Str×PV):=[("tab",.ref t.x),("host",.ref hx),("stock",.ref st),("signs",.ref sg)]
theorem tE(ft:Ft c)(hA:Rm 1 A)(h:Q .none V):aw c A φ (.ref 667) [.ref w,.none] V Q:=
 enter ft "_law_seen" (hA:Rm (0+1) A) rfl rfl rfl rfl (pF λ_ _=>rfl) rfl λL A' aG=>go ft h
theorem tC(ft:Ft c)(hA:Rm 3 A)(T:dc t V rs bs)(hs:V sg=some (.dI Aw))(hw:V w=some (.dS (wL t hx st sg)))(hz:rs.length<1000000){vs:LN}(hd:V d=some (.lst (vs.map pid)))(hv:vs.length<=1000)
  (hp:∀v∈vs,(∃r,rs[v]? =some r)/\(∀p∈aF rs v,BK rs p)/\(aF rs v).length<64) {Q:PV->St->Prop}
  (h:∀σ' D L,Kp V σ'->V D=none->LL σ' D L->L.length=vs.length->(∀(i:Nat) ss v,L[i]? =some ss->vs[i]? =some v->ss.Perm ((aF rs v).map (bW rs))/\uM ss)->Q (.ref D) σ'):aw c A φ (.ref 667) [.ref w,.ref d] V Q:=by
 have zl:sizeLine=2^24:=rfl;refine enter ft "_law_seen" (hA:Rm (2+1) A) rfl rfl rfl rfl (pF λ_ _=>rfl) rfl λL A' aG=>go ft ⟨?_⟩;refine bF (λm v=>bh m "t" v) aG.handled (by rfl) (eh ft ?_);refine eU ft (aO.lst hd) (by exact nZ zl hv) (λi acc σ'=>∃(ds:List Addr) (L:List (List LN)),acc=ds.map .ref/\ds.length=i/\L.length=i/\Kp V σ'/\(∀(i:Nat) (dd:Addr) (ss:List LN),ds[i]? =some dd->L[i]? =some ss->σ' dd=some (.lst (ss.map aC)))/\(∀(i:Nat) (ss:List LN) (v:Nat),L[i]? =some ss->vs[i]? =some v->ss.Perm ((aF rs v).map (bW rs))/\uM ss)) ⟨[],[],rfl,rfl,rfl,λ_ _ e=>e,λi dd ss e=>by exact bL e,λi ss v e=>by exact bL e⟩ (λi acc σ' zf=>g0 zf λ_ _ _ _ _ k _=>k _ _ hd) (λC i v c0 hi cw acc σ' zq=>?_) (λacc σ' D zq hD=>?_)
 ·refine dj zq λds L q1 q2 q3 q4 q5 q6=>?_;clear zq
  subst q1 q2;refine FU (hp v (mem_of_getElem? hi)) λr hr p1 p2=>?_;have IJ:=q4 _ _ hw;refine⟨nC IJ rfl ⟨nC IJ rfl ⟨HG ft aG (T.fixed q4) (q4 _ _ hs) hz hr p1 p2 λay D ss k2 hD e2 Y3 IM=>?_⟩⟩⟩;refine(fO (ds++[D]) (L++[ss]) (by refine J map_append ?_;rfl) (by refine J length_append ?_;rfl) (by refine J length_append (J q3 ?_);rfl) (λa o e=>k2 _ _ (q4 a o e)) (λj dd jw h1 h2=>?_) (λj jw v' h1 h2=>?_))
  ·by_cases q:j<ds.length
   ·rw[getElem?_append_left q] at h1
    rw[getElem?_append_left (by exact Gn q3 q)] at h2;exact k2 _ _ (q5 j dd jw h1 h2)
   ·rw[getElem?_append_right (by exact wB q)] at h1
    have:j=ds.length:=by have:=ar h1;replace this:=Nat.lt_one_iff.mp this;exact BJ q this
    subst this;rw[getElem?_append_right (by exact JJ q3),q3] at h2;simp at h1 h2;subst h1 h2;exact e2
  ·by_cases q:j<L.length
   ·rw[getElem?_append_left q] at h1
    exact q6 j jw v' h1 h2
   ·rw[getElem?_append_right (by exact wB q)] at h1
    have:j=ds.length:=by have:=ar h1;replace this:=Nat.lt_one_iff.mp this;exact H3 q3 q this
    subst this;rw[hi] at h2;obtain rfl:=sI h2;rw[q3,Nat.sub_self] at h1
    replace h1:=(Option.some.injEq _ _).mp h1;subst h1;exact⟨Y3,IM⟩
 ·refine dj zq λds L q1 q2 q3 q4 q5 q6=>?_;clear zq
  subst q1;exact h _ D L (λa o e=>ai hD (q4 a o e)) (c9 q4 hD) (bb ds ae (by exact H0 q2 q3) (λi dd ss h1 h2=>ai hD (q5 i dd ss h1 h2))) q3 q6
end
noncomputable def gB(sg w:LN)(i e:Nat):Bool:=((sg.take (e+w.length)).drop e==w)&&(!(w==[])||e==i+1)
noncomputable abbrev Way:=List LN×Nat
noncomputable def bH(sg w:LN)(p:Way)(n:Nat):List Way:=(range n).filterMap λj=>if gB sg w p.2 (p.2+j) then some (p.1++[(sg.take (p.2+j)).drop p.2],p.2+j+w.length) else none
noncomputable def bT(sg:LN)(stop:Nat)(ws:List Way)(w:LN):List Way:=ws.flatMap λp=>bH sg w p (stop+1-w.length-p.2)
noncomputable def jo(sg:LN)(stop:Nat)(mid:List LN)(i:Nat):List Way:=mid.foldl (bT sg stop) [([],i)]
noncomputable def cX(sg w0:LN)(mid:List LN)(wn:LN):List (List LN):=if w0.length+wn.length<=sg.length/\sg.take w0.length=w0/\sg.drop (sg.length-wn.length)=wn then
 (jo sg (sg.length-wn.length) mid w0.length).map λp=>p.1++[(sg.take (sg.length-wn.length)).drop p.2] else []
theorem mn(sg w:LN)(p:Way)(n:Nat):bH sg w p (n+1)=bH sg w p n++(if gB sg w p.2 (p.2+n) then [(p.1++[(sg.take (p.2+n)).drop p.2],p.2+n+w.length)] else []):=by
 unfold bH;refine J range_succ (J filterMap_append ?_)
 congr 1
 refine J filterMap_cons ?_
 split<;>simp_all
theorem tq(sg w:LN)(p:Way)(n:Nat):(bH sg w p n).length<=n:=Nat.le_trans (length_filterMap_le _ _) (by simp)
theorem tp{p q:Way}(h:q∈bH sg w p n):q.1.length=p.1.length+1:=by
 unfold bH at h;refine ah (mem_filterMap.mp h) λj _ h2=>?_
 split at h2
 ·obtain rfl:=sI h2;exact length_append
 ·exact bL h2
theorem xO(sg:LN)(stop:Nat):∀(mid:List LN) (ws:List Way) (k:Nat),(∀p∈ws,p.1.length<=k)->(mid.foldl (bT sg stop) ws).length<=ws.length*(stop+1)^mid.length/\∀p∈mid.foldl (bT sg stop) ws,p.1.length<=k+mid.length
 |[],ws,k,h=>⟨by simp,λp hp=>by have:=h p hp;simp;exact PL this⟩
 |w::mid,ws,k,h=>by
  have h1:(bT sg stop ws w).length<=ws.length*(stop+1):=by
   unfold bT;induction ws with
   |nil=>simp
   |cons p ws ih=>
    refine J flatMap_cons (J length_append (J length_cons (J (Nat.succ_mul _ _) ?_)));have a:=ih λq hq=>h q (.tail _ hq);have b:=tq sg w p (stop+1-w.length-p.2);exact Ri a b
  obtain ⟨i1,i2⟩:=xO sg stop mid (bT sg stop ws w) (k+1) (λq hq=>by refine ah (mem_flatMap.mp hq) λp p1 p2=>?_;refine J (tp p2) ?_;have:=h p p1;exact Rh this)
  refine⟨?_,λp hp=>by have:=i2 p hp;refine J length_cons ?_;exact LK this⟩;refine J foldl_cons (J length_cons (J (Nat.pow_succ _ _) ?_));refine Nat.le_trans i1 ?_;refine J (Nat.mul_comm ((stop+1)^mid.length) _) (rS (Nat.mul_assoc _ _ _) ?_);exact Nat.mul_le_mul_right _ h1
theorem xP(sg:LN)(stop:Nat):∀(mid:List LN) (ws:List Way),(∀p∈ws,p.2<=stop)->∀p∈mid.foldl (bT sg stop) ws,p.2<=stop
 |[],ws,h=>h
 |w::mid,ws,h=>xP sg stop mid (bT sg stop ws w) λq hq=>by
  refine ah (mem_flatMap.mp hq) λp p1 p2=>?_;unfold bH at p2;refine ah (mem_filterMap.mp p2) λj j1 j2=>?_;rw[mem_range] at j1
  split at j2
  ·obtain rfl:=sI j2;refine(?_:p.2+j+w.length<=stop);exact Md j1
  ·exact bL j2
theorem NQ{b1 b2:Bool}{X Y:Prop}(h:(b1||b2)=true->X)(h':(b1||b2)=false->Y):br b1 X (br b2 X Y):=by
 induction b1
 ·induction b2
  ·exact h' rfl
  ·exact h rfl
 ·exact h rfl
theorem Gg(h:x≠y)(a b a' b':PV):∀m:Map,bh (bh (bh (bh m x a) y b) x a') y b'=bh (bh m x a') y b'
 |[]=>by simp[bh,h,Ne.symm h]
 |(z,u)::r=>by
  by_cases h1:x=z
  ·subst h1
   have:y≠x:=Ne.symm h;simp only[bh,if_true,if_neg this,de]
  ·by_cases h2:y=z
   ·subst h2
    simp only[bh,if_neg h,if_true,de]
   ·simp only[bh,if_neg h1,if_neg h2,Gg h a b a' b' r]
def iq(V:St)(d:Addr)(ws:List Way):Prop:=∃items:List PV,V d=some (.lst items)/\items.length=ws.length/\∀(i:Nat) (p:Way),ws[i]? =some p->∃a,a≠d/\items[i]? =some (.tup [.ref a,.int p.2])/\V a=some (.lst (p.1.map aC))
theorem iq.kp{ws:List Way}(h:iq V d ws)(k:Kp V σ'):iq σ' d ws:=by refine aK h λitems a b e=>?_;clear h;exact(bb items (k _ _ a) b (λi p q=>by refine aK (e i p q) λx x1 x2 x3=>?_;exact(bb x x1 x2 (k _ _ x3))))
theorem iq.add{ws:List Way}{items:List PV}(h:iq V d ws)(hd:V d=some (.lst items)){p:Way}(ha:a≠d)(e:V a=some (.lst (p.1.map aC))):iq (upd V d (.lst (items++[.tup [.ref a,.int p.2]]))) d (ws++[p]):=by
 refine aK h λqB h1 h2 h3=>?_;clear h;rw[hd] at h1;cases h1;refine(bb _ ae (by simp[h2]) (λi q hq=>?_))
 by_cases c:i<ws.length
 ·rw[getElem?_append_left c] at hq
  refine aK (h3 i q hq) λx x1 x2 x3=>?_;exact(bb x x1 (by refine J (getElem?_append_left (by exact Gn h2 c)) ?_;exact x2) (by refine J (aB x1) ?_;exact x3))
 ·rw[getElem?_append_right (by exact wB c)] at hq
  have:i=ws.length:=by have:=ar hq;replace this:=Nat.lt_one_iff.mp this;exact BJ c this
  subst this;simp at hq;subst hq;exact(bb a ha (by refine J (getElem?_append_right (by exact JJ h2)) (J h2 (J (Nat.sub_self _) ?_));rfl) (by refine J (aB ha) ?_;exact e))
theorem HE{hi:Int}{v:PV}(h:((range (hi-(lo:Int)).toNat).map λj:Nat=>PV.int ((lo:Int)+(j:Int)))[i]? =some v):i<(hi-(lo:Int)).toNat/\v=.int ((lo+i:Nat):Int):=by
 rw[getElem?_map] at h
 have nc:i<(hi-(lo:Int)).toNat:=by have:=ar (show ((range (hi-(lo:Int)).toNat).map λj:Nat=>PV.int ((lo:Int)+(j:Int)))[i]? =some v by refine J getElem?_map ?_;exact h);simpa using this
 rw[getElem?_range nc] at h;obtain rfl:=sI h;exact⟨nc,congrArg PV.int (by exact Rg)⟩
section
theorem Es{k:Nat}{px py pt:Pos}{orelse:List Stmt}{pos:Pos}{Q:AF->Map->St->Prop}(hh:A.handled=none)(hx:setOk env x=true)(hy:setOk env y=true)
  (h:WE c A φ env m iter V λp σ₁=>∃k l,aO σ₁ p k l/\∃Inv:Nat->Map->St->Prop,Inv 0 m σ₁/\(∀i m' σ',Inv i m' σ'->rn σ' k l)/\
   (∀i v c0,l[i]? =some v->(∀f∈φ,f∈c0)->∀mm σ',Inv i mm σ'->∃a b,v=.tup [a,b]/\pg c A c0 env body (bh (bh mm x a) y b) σ' λa fS aD=>match a with
    |.next|.cont=>∃Mw,Inv (i+1) Mw aD/\Le Mw fS
    |.brk=>Q .next fS aD
    |.ret p=>Q (.ret p) fS aD)/\
   (∀mm σ',Inv l.length mm σ'->pg c A φ env orelse mm σ' Q))
  (hs:∀x,foldedSetIterable iter env x=pure x:=by intro _;rfl):WS c A φ env (.For (.Tuple [.Name x px,.Name y py] k pt) iter body orelse pos) m V Q:=
 Gi hh (WG.mono h λp σ₁ zf=>i8 zf λk l pC Inv h0 uw hb he=>⟨k,l,pC,λi m' σ'=>∃mm,Inv i mm σ'/\Le mm m',⟨m,h0,Le.refl⟩,λi m' σ' zf=>ah zf λmm hI _=>uw i mm σ' hI,
  λi v c0 hv cw m' σ' zf=>ah zf λmm hI hle=>by refine b0 (hb i v c0 hv cw mm σ' hI) λa b au hw=>?_;subst au;exact ui hh hx hy (WX.less hle.set.set (WX.mono hw λa fS aD q=>by induction a<;>exact q)),
  λm' σ' zf=>ah zf λmm hI hle=>WX.less hle (he mm σ' hI)⟩) hs
theorem Hp{a b:Nat}{z:Int}(e:z=(b:Int))(h:Q (aC ((l.take b).drop a)) V)(hz:l.length<=100000):eZ c V (aC l) (some (a:Int)) (some z) Q:=by subst e;exact oT h hz
theorem sy(ft:Ft c)(hA:Rm 1 A){w0:LN}{mid:List LN}(hz:sg.length<=60)(hw:∀w∈w0::(mid++[wn]),w.length<=1000)(hm:mid.length<=3)
  (h:∀σ' D,Kp V σ'->V D=none->LL σ' D (cX sg w0 mid wn)->Q (.ref D) σ'):aw c A φ (.ref 636) [aC sg,.tup ((w0::(mid++[wn])).map aC)] V Q:=by
 have zl:sizeLine=2^24:=rfl;have D1:=hw w0 (.head _);have J6:=hw wn (by simp);have lw:((w0::(mid++[wn])).map aC).length<=100000:=by simp;exact cz hm
 have Io:((w0::(mid++[wn])).map aC).getLast? =some (aC wn):=kU aC (getLast?_concat (l:=w0::mid))
 have no:(¬(w0.length+wn.length<=sg.length/\sg.take w0.length=w0/\sg.drop (sg.length-wn.length)=wn))->∀D,V D=none->Q (.ref D) (upd V D (.lst [])):=λq D hD=>h _ D (Kp.new hD) hD (by unfold cX;refine J (if_neg q) ?_;exact(bb [] ae rfl (λi dd ss e=>by exact bL e)))
 refine enter ft "_law_cuts" (hA:Rm (0+1) A) rfl rfl rfl rfl (pF λ_ _=>rfl) rfl λL A' aG=>go ft ⟨bw 0 rfl ⟨fg ⟨fg ⟨wK Io ⟨fg (bZ (λe=>⟨no ?_⟩) λe=>?_) (by exact cz J6)⟩ lw⟩ (by exact cz hz)⟩ (by exact cz D1)⟩⟩
 ·have e:=of_decide_eq_true e
  omega
 have e:=of_decide_eq_false e;have Jg:(sg.length:Int)-(wn.length:Int)=((sg.length-wn.length:Nat):Int):=by exact LD e
 refine J Jg ?_;refine⟨r8 ⟨bw 0 rfl (bZ (λe2=>⟨no ?_⟩) λe2=>?_)⟩ (by exact cz hz)⟩
 ·have e2:(S (sg.take w0.length) !=S w0)=true:=e2
  rw[bne,cH,Bool.not_eq_true',beq_eq_false_iff_ne] at e2;exact λq=>e2 q.2.1
 have e2:(S (sg.take w0.length) !=S w0)=false:=e2;rw[bne,cH,Bool.not_eq_false',beq_iff_eq] at e2;refine⟨Bi ⟨wK Io (bZ (λe3=>⟨no ?_⟩) λe3=>?_) lw⟩ (by exact cz hz)⟩
 ·have e3:(S (sg.drop (sg.length-wn.length)) !=S wn)=true:=e3
  rw[bne,cH,Bool.not_eq_true',beq_eq_false_iff_ne] at e3;exact λq=>e3 q.2.2
 have e3:(S (sg.drop (sg.length-wn.length)) !=S wn)=false:=e3;rw[bne,cH,Bool.not_eq_false',beq_iff_eq] at e3;have ec:cX sg w0 mid wn=(jo sg (sg.length-wn.length) mid w0.length).map λp=>p.1++[(sg.take (sg.length-wn.length)).drop p.2]:=by unfold cX;exact J (if_pos (aN (by exact LB e) e2 e3)) rfl
 rw[ec] at h;generalize EX:sg.length-wn.length=stop at*
 have bdw:∀i,(jo sg stop (mid.take i) w0.length).length<=226981/\∀p∈jo sg stop (mid.take i) w0.length,p.1.length<=3:=λi=>by
  have:=xO sg stop (mid.take i) [([],w0.length)] 0 (λp hp=>by refine J (mem_singleton.mp hp) ?_;exact Nat.le_refl _);have hl:(mid.take i).length<=3:=by refine J length_take ?_;exact LJ hm
  refine⟨Nat.le_trans this.1 ?_,λp hp=>by have:=this.2 p hp;exact Ic hl this⟩;refine J length_singleton (J (Nat.one_mul _) ?_);exact Nat.le_trans (Nat.pow_le_pow_left (show stop+1<=61 by exact Rf hz Jg) _) (Nat.le_trans (Nat.pow_le_pow_right (by decide) hl) (by decide))
 have bda:∀i,∀p∈jo sg stop (mid.take i) w0.length,p.2<=stop:=λi=>xP sg stop _ _ λp hp=>by refine J (mem_singleton.mp hp) ?_;refine(?_:w0.length<=stop);exact Rc e Jg
 refine⟨λA0 hA0=>⟨λD0 Nq=>⟨bP aG.handled (by rfl) (eh ft ⟨xX ?_ (by exact cz hm)⟩)⟩⟩⟩;have kA0:Kp V (upd V A0 (.lst [])):=Kp.new hA0;have nAD:A0≠D0:=by rintro rfl;rw[ae] at Nq;exact fB Nq
 refine⟨_,_,aO.tup _,λi m' σ'=>∃D,rC (m'=[(("signs":Str),aC sg),("wanted",.tup ((w0::(mid++[wn])).map aC)),("first",.int w0.length),("stop",.int stop),("ways",.ref D)]) (Kp V σ') (V D=none) (iq σ' D (jo sg stop (mid.take i) w0.length)),
  (fi D0 rfl (λa o q=>ai Nq (kA0 a o q)) (c9 kA0 Nq) ?_),λ_ _ _ _=>rfl,λi v c0 hv cw mm σ' zq=>go ft ?_,λmm σ' zq=>go ft ?_⟩
 ·refine bb _ ae rfl (λi p q=>?_)
  have:i=0:=by have:=ar q;simp[jo] at this;exact this
  subst this;obtain rfl:=sI q;exact bb A0 nAD rfl (ai Nq ae)
 ·refine cS zq λD e1 k1 d1 W1=>?_;clear zq
  subst e1;rw[getElem?_map] at hv;induction hi:mid[i]? with
  |none=>rw[hi] at hv;exact bL hv
  |some w=>
  rw[hi] at hv;obtain rfl:=sI hv;have wz:=hw w (by refine rI mem_cons (rI mem_append ?_);exact .inr (.inl (mem_of_getElem? hi)))
  have cs:jo sg stop (mid.take (i+1)) w0.length=bT sg stop (jo sg stop (mid.take i) w0.length) w:=by refine J take_add_one (J hi ?_);unfold jo;refine J foldl_append ?_;rfl
  refine aA (bdw i) λb1 b2=>?_;obtain ⟨JA,NX⟩:=bdw (i+1);rw[cs] at JA NX;have b3:=bda i;generalize OK:jo sg stop (mid.take i) w0.length=ws at*;refine⟨λM hM=>⟨Es aG.handled (by rfl) (by rfl) (eh ft ?_)⟩⟩;have kM:Kp σ' (upd σ' M (.lst [])):=Kp.new hM;refine aK W1 λitems w1 w2 w3=>?_;clear W1
  refine⟨_,_,aO.lst (kM _ _ w1),λj m' av=>m'=[(("signs":Str),aC sg),("wanted",.tup ((w0::(mid++[wn])).map aC)),("first",.int w0.length),("stop",.int stop),("ways",.ref D),("word",aC w),("more",.ref M)]/\Kp σ' av/\iq av M ((ws.take j).flatMap λp=>bH sg w p (stop+1-w.length-p.2)),
   ⟨rfl,kM,⟨[],ae,rfl,λi p q=>by exact bL q⟩⟩,λj m' av zf=>bt zf λ_ k _=>k _ _ w1,λj v n8 hv nB mm av zq=>?_,λmm av zq=>go ft ?_⟩
  ·refine bt zq λq1 k2 W2=>?_;clear zq
   subst q1;obtain ⟨p,hp⟩:∃p,ws[j]? =some p:=⟨_,getElem?_eq_getElem (by have:=ar hv;exact ED w2 this)⟩;refine aK (w3 j p hp) λa a1 a2 a3=>?_;rw[a2] at hv;obtain rfl:=sI hv;have pz:=b2 p (mem_of_getElem? hp);refine(fN _ _ rfl (go ft ⟨bP aG.handled (by rfl) (eh ft ⟨fg ⟨wX λrg ky=>?_⟩ (by exact cz wz)⟩)⟩));have tj:ws.take (j+1)=ws.take j++[p]:=by refine J take_add_one (J hp ?_);rfl
   have en:((stop:Int)-(w.length:Int)+1-(p.2:Int)).toNat=stop+1-w.length-p.2:=by exact Rb
   have szM:∀l,l<=stop+1-w.length-p.2->(((ws.take j).flatMap λp=>bH sg w p (stop+1-w.length-p.2))++bH sg w p l).length<=226981:=λl hl=>by
    have h1:ws=ws.take j++p::ws.drop (j+1):=by have:=take_append_drop j ws;rw[drop_eq_getElem_cons (ar hp)] at this;rw[getElem?_eq_getElem (ar hp)] at hp;rw[sI hp] at this;exact this.symm
    have h2:=congrArg (λx=>(bT sg stop x w).length) h1;unfold bT at h2;rw[flatMap_append,flatMap_cons,length_append,length_append] at h2
    have h3:(bH sg w p l).length<=(bH sg w p (stop+1-w.length-p.2)).length:=by unfold bH;exact((range_sublist.mpr hl).filterMap _).length_le
    unfold bT at JA;refine J length_append ?_;exact Ra JA h2 h3
   refine⟨_,_,aO.gx (lo:=(p.2:Int)) ae (by exact HW) (by exact Q9 hz Jg) (by have:=b3 p (mem_of_getElem? hp);exact Q8 hz Jg this) (by have:=b3 p (mem_of_getElem? hp);exact Q7 wz),λl m' aD=>m'=[(("signs":Str),aC sg),("wanted",.tup ((w0::(mid++[wn])).map aC)),("first",.int w0.length),("stop",.int stop),("ways",.ref D),("word",aC w),("more",.ref M),("taken",.ref a),("at",.int p.2)]/\Kp σ' aD/\iq aD M (((ws.take j).flatMap λp=>bH sg w p (stop+1-w.length-p.2))++bH sg w p l),
    (aN rfl (λx o q=>ai ky (k2 x o q)) (by refine J (show bH sg w p 0=[] from rfl) (J (append_nil _) ?_);exact W2.kp (Kp.new ky))),λ_ _ _ _=>rfl,λl v pU hv IK mm aD zq=>go ft ?_,λmm aD zq=>go ft ?_⟩
   ·refine bt zq λq1 k3 W3=>?_;clear zq
    subst q1;refine aA (HE hv) λhl au=>?_;subst au;rw[en] at hl
    have Gq:gB sg w p.2 (p.2+l)=false->iq aD M (((ws.take j).flatMap λp=>bH sg w p (stop+1-w.length-p.2))++bH sg w p (l+1)):=λq=>by refine J (mn _ _ _ _) (J q ?_);simpa using W3
    have yes:gB sg w p.2 (p.2+l)=true->∀(cW:St) (x:Addr) (items:List PV),Kp aD cW->aD x=none->cW x=some (.lst ((p.1++[(sg.take (p.2+l)).drop p.2]).map aC))->aD M=some (.lst items)->Kp σ' (upd cW M (.lst (items++[.tup [.ref x,.int ((p.2+l+w.length:Nat):Int)]])))/\iq (upd cW M (.lst (items++[.tup [.ref x,.int ((p.2+l+w.length:Nat):Int)]]))) M (((ws.take j).flatMap λp=>bH sg w p (stop+1-w.length-p.2))++bH sg w p (l+1)):=λq cW x items k5 hx e5 eM=>by
     have xM:x≠M:=by rintro rfl;rw[eM] at hx;exact fB hx
     refine⟨Kp.upd (λa o z=>k5 _ _ (k3 a o z)) hM,?_⟩;have:=(W3.kp k5).add (k5 _ _ eM) (p:=(p.1++[(sg.take (p.2+l)).drop p.2],p.2+l+w.length)) xM e5;refine J (mn _ _ _ _) (J q (J (if_pos rfl) (rS (append_assoc _ _ _) ?_)));exact this
    have eq2:(((p.2+l:Nat):Int)==(p.2:Int)+1)=(p.2+l==p.2+1):=eT _ (p.2+1);refine⟨fg ⟨Hp (a:=p.2+l) (b:=p.2+l+w.length) (by exact Q6) (bZ (λc1=>NQ (λc2=>?_) λc2=>?_) λc1=>?_) (by exact cz hz)⟩ (by exact cz wz)⟩
    ·have c1:(S ((sg.take (p.2+l+w.length)).drop (p.2+l))==S w)=true:=c1
     rw[cH] at c1;have c2:((S w !=S [])||(((p.2+l:Nat):Int)==(p.2:Int)+1))=true:=c2;rw[bne,cH,eq2] at c2;have cc:gB sg w p.2 (p.2+l)=true:=by unfold gB;refine J c1 (J c2 ?_);rfl
     refine aK (id W3) λCf v1 v2 v3=>?_;have ea:=k3 _ _ a3
     have il:Cf.length<=sizeLine:=by refine J v2 ?_;have:=szM l (by exact Q5 hl);exact nZ zl this
     refine⟨_,_,bD v1,a9,⟨oT (a:=p.2) (b:=p.2+l) ⟨λy hy=>⟨Dz (ai hy ea) ae (by refine J (length_map _) ?_;dsimp;exact K7 zl pz) λx hx=>⟨fg ⟨bN (ai hx (ai hy v1)) il ?_⟩ (by exact cz wz)⟩⟩⟩ (by exact cz hz)⟩⟩;obtain ⟨f1,f2⟩:=yes cc (upd (upd aD y (.lst [aC ((sg.take (p.2+l)).drop p.2)])) x (.lst (p.1.map aC++[aC ((sg.take (p.2+l)).drop p.2)]))) x Cf (λa o z=>ai hx (ai hy z)) (c9 (Kp.new hy) hx) (by refine J ae (J map_append ?_);rfl) v1;exact jt _ rfl f1 f2 (Le.all (cC rfl rfl rfl rfl rfl rfl rfl ⟨rfl,rfl,trivial⟩))
    ·have c2:((S w !=S [])||(((p.2+l:Nat):Int)==(p.2:Int)+1))=false:=c2
     rw[bne,cH,eq2] at c2;exact(jt _ rfl k3 (Gq (by unfold gB;exact J c2 (J (Bool.and_false _) rfl))) (Le.new rfl))
    ·have c1:(S ((sg.take (p.2+l+w.length)).drop (p.2+l))==S w)=false:=c1
     rw[cH] at c1;exact(jt _ rfl k3 (Gq (by unfold gB;exact J c1 (J (Bool.false_and _) rfl))) (Le.new rfl))
   ·refine bt zq λq1 k3 W3=>?_;clear zq
    subst q1;rw[length_map,length_range,en] at W3;refine(jt _ rfl k3 ?_ (Le.all (cC rfl rfl rfl rfl rfl rfl rfl trivial)));refine J tj (J flatMap_append ?_);simpa using W3
  ·refine bt zq λq1 k2 W2=>?_;clear zq
   subst q1;rw[w2,take_length] at W2;refine(aj _ ⟨M,rfl,λx o q=>k2 _ _ (k1 x o q),c9 k1 hM,?_⟩ (Le.all (dZ rfl rfl rfl rfl rfl trivial)));refine J cs ?_;exact W2
 ·refine cS zq λD e1 k1 d1 W1=>?_;clear zq
  subst e1;rw[length_map,take_length] at W1;refine aA (bdw mid.length) λc1 c2=>?_;rw[take_length] at c1 c2;generalize jo sg stop mid w0.length=ws at*;refine aK W1 λitems w1 w2 w3=>?_;clear W1;have lk2:∀(m:Map) (a b:PV),dB (bh (bh m "taken" a) "at" b) "taken"=some a/\dB (bh (bh m "taken" a) "at" b) "at"=some b:=λm a b=>⟨by exact J (d9 _ _ _ _) (J (if_neg (by decide)) (J (d9 _ _ _ _) (J (if_pos rfl) rfl))),by exact J (d9 _ _ _ _) (J (if_pos rfl) rfl)⟩
  refine⟨bF (λm v=>match v with
   |.tup [a,b]=>bh (bh m "taken" a) "at" b
   |_=>m) aG.handled (by rfl) (eh ft ?_)⟩
  have YK:∀x∈items,∃a b,x=.tup [a,b]:=λx hx=>by refine bK (mem_iff_getElem?.mp hx) λi hi=>?_;obtain ⟨p,hp⟩:∃p,ws[i]? =some p:=⟨_,getElem?_eq_getElem (by have:=ar hi;exact ED w2 this)⟩;refine aK (w3 i p hp) λa _ a2 _=>?_;rw[a2] at hi;obtain rfl:=sI hi;exact DH _ _ rfl
  refine⟨_,_,aO.lst w1,by exact Q4 zl c1 w2,λi acc av=>∃ds:List Addr,rC (acc=ds.map .ref) (ds.length=i) (Kp σ' av) (∀(j:Nat) (dd:Addr) (p:Way),ds[j]? =some dd->ws[j]? =some p->av dd=some (.lst ((p.1++[(sg.take stop).drop p.2]).map aC))),
   ⟨[],rfl,rfl,λ_ _ q=>q,λj dd p q=>by exact bL q⟩,λi acc av zf=>cS zf λ_ _ _ k _=>k _ _ w1,λC c0 m' av x Q' gE hq=>?_,λm' x y gE YQ=>?_,λC i x c0 gE cw acc av zq=>?_,λacc av D2 zq Ad=>?_⟩
  ·refine me (YK x gE) λa b au=>?_;subst au
   exact ui aG.handled (by rfl) (by rfl) hq
  ·refine me (YK x gE) λa b au=>?_;subst au
   refine me (YK y YQ) λa' b' au=>?_;subst au;exact Gg (by decide) a b a' b' m'
  ·refine cS zq λds q1 q2 q3 q4=>?_;clear zq
   subst q1 q2;obtain ⟨p,hp⟩:∃p,ws[ds.length]? =some p:=⟨_,getElem?_eq_getElem (by have:=ar gE;exact ED w2 this)⟩;refine aK (w3 _ p hp) λa a1 a2 a3=>?_;rw[a2] at gE;obtain rfl:=sI gE;have pz:=c2 p (mem_of_getElem? hp);refine jy ((if_pos rfl).mpr (eh ft ⟨oT (a:=p.2) (b:=stop) ⟨λy hy=>⟨Dz (ai hy (q3 _ _ a3)) ae (by refine J (length_map _) ?_;dsimp;exact K7 zl pz) λx hx=>?_⟩⟩ (by exact cz hz)⟩));refine(fi (ds++[x]) (by refine J map_append ?_;rfl) (by refine J length_append ?_;rfl) (λz o q=>ai hx (ai hy (q3 z o q))) (λj dd p' h1 h2=>?_))
   by_cases q:j<ds.length
   ·rw[getElem?_append_left q] at h1
    exact ai hx (ai hy (q4 j dd p' h1 h2))
   ·rw[getElem?_append_right (by exact wB q)] at h1
    have:j=ds.length:=by have:=ar h1;simp at this;exact BJ q this
    subst this;simp at h1;subst h1;rw[hp] at h2;obtain rfl:=sI h2;refine J ae (J map_append ?_);rfl
  ·refine cS zq λds q1 q2 q3 q4=>?_;clear zq
   subst q1;refine h _ D2 (λa o q=>ai Ad (q3 _ _ (k1 a o q))) (c9 k1 (c9 q3 Ad)) (bb ds ae (by refine J (length_map _) ?_;exact Lm w2 q2) (λi dd ss h1 h2=>?_));refine ah (iE h2) λp hp zr=>?_;clear h2;subst zr;exact ai Ad (q4 i dd p h1 hp)
end
noncomputable abbrev mC:Stmt:=eK (fU 114) 4
noncomputable abbrev HD(env:Env)(qual:Str)(doc pm cv rA:Value):FuncData:=fnX "roll" qual (DA mC) (bodyOf mC) (c7 mC) (fw env (c7 mC).names []) .none .none doc pm none cv rA
structure bG (φ:dG) (V:St) (rl cb nA:Addr) (ns:LN) (i:Nat):Prop where
 fn:∃env qual doc pm cv rA,Au V rl (HD env qual doc pm cv rA) (bodyOf mC)/\∃Lg cs ml,(Lg,Fr.ns true cs ml)∈φ/\(∀x a,(x,a)∈fw env (c7 mC).names []->cs.lookup x=some a)/\dB ml "at"=some (.ref cb)/\dB ml "nums"=some (.ref nA)
 at_:V cb=some (.lst [.int i])
 nums:V nA=some (.lst (ns.map pid))
 ne:ns≠[]
 z:ns.length<=1000
def iF(cb:Addr)(V σ':St):Prop:=∀a o,V a=some o->a≠cb->σ' a=some o
theorem iF.trans{av:St}(x:iF cb V σ')(y:iF cb σ' av):iF cb V av:=λa o e h=>y a o (x a o e h) h
theorem Kp.iZ(h:Kp V σ'):iF cb V σ':=λa o e _=>h a o e
theorem bG.move(h:bG φ V rl cb nA ns i)(f:iF cb V σ')(e:σ' cb=some (.lst [.int j]))(gL:nA≠cb):bG φ σ' rl cb nA ns j:=by obtain ⟨⟨env,qual,doc,pm,cv,rA,F,r⟩,a,b,c,d⟩:=h;have na:∀x o,V x=some (.fn o)->σ' x=some (.fn o):=λx o q=>f _ _ q (by rintro rfl;rw[a] at q;exact kB q);exact⟨(jY env qual doc pm cv rA (F.kp na) r),e,f _ _ b gL,c,d⟩
theorem bG.sub{φ c0:dG}(h:bG φ V rl cb nA ns i)(f:∀g∈φ,g∈c0):bG c0 V rl cb nA ns i:=by obtain ⟨⟨env,qual,doc,pm,cv,rA,F,Lg,cs,ml,r1,r⟩,a,b,c,d⟩:=h;exact⟨(jY env qual doc pm cv rA F ⟨Lg,cs,ml,f _ r1,r⟩),a,b,c,d⟩
theorem bG.kp(h:bG φ V rl cb nA ns i)(k:Kp V σ'):bG φ σ' rl cb nA ns i:=by obtain ⟨⟨env,qual,doc,pm,cv,rA,F,r⟩,a,b,c,d⟩:=h;exact⟨(jY env qual doc pm cv rA (F.kp λx o q=>k _ _ q) r),k _ _ a,k _ _ b,c,d⟩
theorem Ms{y:Nat}(h:y<=1000)(x:Int):Builtin.divisionGoesByPylong x (y:Int)=false:=by
 unfold Builtin.divisionGoesByPylong;simp only;refine rI Bool.and_eq_false_iff ?_
 left
 refine rI decide_eq_false_iff_not ?_
 split
 ·decide
 ·have:((y:Int).natAbs).log2<=1000:=by refine J (Int.natAbs_natCast _) ?_;exact Nat.le_trans (Nat.log2_le_self _) h
  exact Q3 this
section
theorem zH(ft:Ft c)(hA:Rm 1 A){pV:dG}(cw:∀g∈pV,g∈φ)(R:bG pV V rl cb nA ns i)(hn:nA≠cb)(hk:0<k)
  (h:∀r σ',r<k->iF cb V σ'->bG pV σ' rl cb nA ns (i+1)->Q (.int (r:Nat)) σ'):aw c A φ (.ref rl) [.int k] V Q:=by
 have zl:sizeLine=2^24:=rfl;obtain ⟨Jh,qual,doc,pm,cv,rA,F,Lg,cs,ml,r1,r2,r3,r4⟩:=R.fn;have hlen:0<ns.length:=length_pos_iff.mpr R.ne;have hz:=R.z;refine Dm ft.ok (hA:Rm (0+1) A) F rfl rfl rfl rfl (cw _ r1) r2 (λ_=>rfl) (marg:=[("k",.int k)]) (mm:=[("k",.int k),("at",.ref cb),("nums",.ref nA)]) (λx hx=>?_) (λx a p hx hp=>?_) (bind1 λ_=>rfl) rfl λL A' aG=>go ft ?_
 ·have:dB [(("at":Str),PV.ref cb),("nums",.ref nA)] x=none:=by
   by_cases e1:x=("at":Str)
   ·subst e1;exact fB hx
   by_cases e2:x=("nums":Str)
   ·subst e2;exact fB hx
   simp only[dB,if_neg e1,if_neg e2]
  simp only[dB] at this ⊢;exact J this rfl
 ·by_cases e1:x=("at":Str)
  ·subst e1;obtain rfl:=sI hp;exact r3
  by_cases e2:x=("nums":Str)
  ·subst e2;obtain rfl:=sI hp;exact r4
  by_cases e3:x=("k":Str)
  ·subst e3;exact bL hx
  simp only[dB,if_neg e1,if_neg e2,if_neg e3] at hp;exact bL hp
 have lz:((ns.length:Nat):Int)≠0:=by exact K5 hlen
 refine⟨cG (k:=0) R.at_ rfl (by decide) ⟨iJ R.nums (by refine J (length_map _) ?_;exact nZ zl hz) ⟨Dx (by refine J (length_map _) ?_;exact lz) ?_⟩⟩⟩;refine J (length_map _) ?_;have em:(i:Int).fmod (ns.length:Int)=((i % ns.length:Nat):Int):=by refine J (Int.fmod_eq_emod_of_nonneg _ (by exact HZ)) ?_;rfl
 refine J em ?_;obtain ⟨x,hx⟩:∃x,ns[i % ns.length]? =some x:=⟨_,getElem?_eq_getElem (Nat.mod_lt _ hlen)⟩;refine⟨cG (k:=i % ns.length) R.nums (by refine J getElem?_map (J hx ?_);rfl) (by have:=Nat.mod_lt i hlen;exact Q2 hz this) ⟨cG (k:=0) R.at_ rfl (by decide) ⟨iJ R.nums (by refine J (length_map _) ?_;exact nZ zl hz) ?_⟩⟩⟩;refine J (length_map _) ?_;refine⟨Dy aG.handled lz (Ms hz _) ⟨GS (.of_left (by decide)) ?_⟩⟩;have ed:(i:Int).fdiv (ns.length:Int)=((i/ns.length:Nat):Int):=by refine J (Int.fdiv_eq_ediv_of_nonneg _ (by exact HZ)) ?_;rfl
 refine J ed ?_;refine⟨GA (k:=0) R.at_ rfl (by decide) ⟨se (k:=0) (j:=0) R.at_ rfl Nat.zero_lt_one (by decide) ⟨Dx (by exact K5 hk) ?_⟩⟩⟩
 have e2:((x:Int)+31*((i/ns.length:Nat):Int)).fmod (k:Int)=(((x+31*(i/ns.length)) % k:Nat):Int):=by refine J (Int.fmod_eq_emod_of_nonneg _ (by exact HZ)) ?_;norm_cast
 refine J e2 ?_;have f:iF cb V (upd V cb (.lst ([PV.int i].set 0 (.int ((i:Int)+1))))):=λa o q gL=>by refine J (aB gL) ?_;exact q
 exact h _ _ (Nat.mod_lt _ hk) f (R.move f ae hn)
theorem gO(ft:Ft c)(hA:Rm 1 A){pV:dG}(cw:∀g∈pV,g∈aZ env m::φ){p kp:Pos}(hl:hX env "roll"=true)(hv:dB m "roll"=some (.ref rl))(R:bG pV V rl cb nA ns i)(hn:nA≠cb)(hk:0<k)
  (h:∀r σ',r<k->iF cb V σ'->bG pV σ' rl cb nA ns (i+1)->Q (.int (r:Nat)) σ'):WE c A φ env m (.Call (.Name "roll" p) [.Constant (.int (k:Int)) u kp] [] pos) V Q:=by
 obtain ⟨Jh,qual,doc,pm,cv,rA,⟨⟨ob,o1,o2⟩,_,_⟩,_⟩:=R.fn;exact Fn hl rfl hv o1 o2 (xD (C8 (DC ⟨o1,zH ft hA cw R hn hk h⟩)))
end
noncomputable def g5(u:Nat):Bool:=u==45||u==48||u==49||u==97||u==98
noncomputable def lows(l:LN):Nat:=(l.filter g5).length
noncomputable def oX(l:LN):Nat:=(l.filter λu=>!g5 u).length
theorem jh(a b:LN):lows (a++b)=lows a+lows b:=by simp[lows]
theorem gX(a b:LN):oX (a++b)=oX a+oX b:=by simp[oX]
theorem kT(l:LN):l.length=lows l+oX l:=by
 induction l with
 |nil=>rfl
 |cons u r ih=>
  unfold lows oX at*;induction h:g5 u<;>simp[h,ih]<;>first|rfl|exact Nat.add_right_comm _ _ _
noncomputable def sO:List LN:=[[],[97],[49],[48,49],[45,49],[98],[49,48],[45],[72],[97,72],[72,49],[72,97,72],[72,72],[98,72,45]]
noncomputable def wO:List LN:=[[],[97],[49],[45],[97,98],[98],[48],[]]
theorem FK:pN=sO.map S:=by decide+kernel
theorem AW:qx=wO.map S:=by decide+kernel
theorem Dr:∀l∈sO,lows l<=2/\l.length<=3/\∀u∈l,g5 u=true∨u=72:=by decide+kernel
theorem GR:∀l∈sO.take 8,l.length<=2/\∀u∈l,g5 u=true:=by decide+kernel
theorem zb:∀l∈wO,l.length<=2/\∀u∈l,g5 u=true:=by decide+kernel
structure ro (mk out:LN):Prop where
 c:∀u∈out,g5 u=true∨u∈mk
 l:lows out<=16
 h:oX out<=mk.length
theorem ia{l:LN}(h:∀u∈l,g5 u=true):lows l=l.length/\oX l=0:=by
 have:oX l=0:=by unfold oX;refine rI length_eq_zero_iff (rI filter_eq_nil_iff ?_);intro u hu;refine J (h u hu) ?_;decide
 have:=kT l;exact Q1 (by assumption) this
theorem jg{a b:LN}(h:a.Sublist b):lows a<=lows b/\oX a<=oX b:=⟨(h.filter _).length_le,(h.filter _).length_le⟩
section
theorem Hq(h:Q (aC l.dropLast) V)(hz:l.length<=100000):eZ c V (aC l) none (some (-1)) Q:=.str (by simp[sizeLine_eq];exact cz hz) (by
 have e:sl l none (some (-1))=l.dropLast:=by
  rcases eq_nil_or_concat l with rfl|⟨a,x,rfl⟩
  ·rfl
  ·exact J concat_eq_append (J (qc _ _) (J dropLast_concat rfl))
 refine J e ?_;exact h)
theorem yZ{r:Nat}(h:r<14):∃l,(pN.map PV.str)[r]? =some (aC l)/\sO[r]? =some l:=by obtain ⟨l,hl⟩:∃l,sO[r]? =some l:=⟨_,getElem?_eq_getElem (by exact h)⟩;exact(aj l (by refine J FK (J map_map (J getElem?_map (J hl ?_)));rfl) hl)
theorem CU(ft:Ft c)(hA:Rm 2 A)(R:bG φ V rl cb nA ns i)(hn:nA≠cb){w0:LN}{ws:List LN}{mk:LN}(hw:∀w∈w0::ws,w.length<=2/\∀u∈w,g5 u=true)(hl:ws.length<=3)(hm:mk.length<=3)(hmk:∀u∈mk,g5 u=false)
  (h:∀σ' i' out,iF cb V σ'->bG φ σ' rl cb nA ns i'->ro mk out->Q (aC out) σ'):aw c A φ (.ref 631) [.ref rl,.tup ((w0::ws).map aC),aC mk] V Q:=by
 have zl:sizeLine=2^24:=rfl;refine aA (hw w0 (.head _)) λD1 Og=>?_;refine enter ft "_law_fill" (hA:Rm (1+1) A) rfl rfl rfl rfl (wI λ_ _ _=>rfl) rfl λL A' aG=>go ft ⟨bw 0 rfl ⟨bP aG.handled (by rfl) (eh ft ⟨ib (by refine J (length_map _) (J length_cons ?_);exact Q0 hl zl) ⟨wX λrg ky=>?_⟩⟩)⟩⟩;refine J (length_map _) ?_;have kr:Kp V (upd V rg (.gx 1 ((w0::ws).length:Nat))):=Kp.new ky
 refine⟨_,_,aO.gx ae (by decide) (by refine J length_cons ?_;exact QZ hl) (by decide) (by exact HW),λj m' σ'=>DW λ(out:LN) (used i':Nat)=>DX (m'=[(("roll":Str),PV.ref rl),("wanted",.tup ((w0::ws).map aC)),("marks",aC mk),("out",aC out),("used",.int used)]) (iF cb V σ') (bG φ σ' rl cb nA ns i') ((∀u∈out,g5 u=true∨u∈mk)) (lows out<=2+4*j) (oX out<=used) (oX out<=mk.length) (used<=3*j),
  ⟨w0,0,i,rfl,Kp.iZ kr,R.kp kr,λu hu=>.inl (Og u hu),by have:=ia Og;exact QY D1 this,by have:=ia Og;exact QX this,by have:=ia Og;exact QW this,Nat.le_refl _⟩,λ_ _ _ _=>rfl,λj v c0 hv cw mm σ' zf=>i9 zf λout used i' e1 e2 e3 e4 e5 e6 e7 e8=>go ft ⟨bP aG.handled (by rfl) (eh ft ⟨?_⟩)⟩,λmm σ' zq=>go ft ?_⟩
 ·subst e1
  refine aA (uX (lo:=1) (hi:=(w0::ws).length) hv) λhj au=>?_;subst au;rw[length_cons] at hj;obtain ⟨w,hwj⟩:∃w,ws[j]? =some w:=⟨_,getElem?_eq_getElem (by exact KV hj)⟩;refine aA (hw w (.tail _ (mem_of_getElem? hwj))) λwz wg=>?_;refine gO ft aG (λg hg=>.tail _ (cw g hg)) (k:=14) (by rfl) rfl e3 hn (by decide) λr σ₁ hr F1 R1=>?_;refine ah (yZ hr) λbl DT Zp=>?_;refine bt (Dr bl (mem_of_getElem? Zp)) λbz bz3 bg=>?_;refine⟨bw r DT ?_ (by exact m9 hr)⟩
  refine⟨_,_,aO.str _,λk m' σ'=>mh λ(nq:LN) (eJ:Nat)=>DO (m'=[(("roll":Str),PV.ref rl),("wanted",.tup ((w0::ws).map aC)),("marks",aC mk),("out",aC nq),("used",.int eJ),("k",.int ((j+1:Nat):Int))]) (σ₁=σ') ((∀u∈nq,g5 u=true∨u∈mk)) (lows nq<=2+4*j+lows (bl.take k)) (oX nq<=eJ) (oX nq<=mk.length) (eJ<=used+k),
   ⟨out,used,rfl,rfl,e4,by simp[lows];exact e5,e6,e7,Nat.le_refl _⟩,λ_ _ _ _=>rfl,λk v n8 hv nB mm av zq=>go ft ?_,λmm av zq=>go ft ?_⟩
  ·refine nY zq λnq eJ q1 q2 q3 q4 q5 q6 q7=>?_;clear zq
   subst q1 q2;refine ah (p7 hv) λu hu au=>?_;subst au;have tk:bl.take (k+1)=bl.take k++[u]:=by refine J take_add_one (J hu ?_);rfl
   have lt3:=ar hu
   have ol:nq.length<=100:=by have:=kT nq;have:=(jg (take_sublist k bl)).1;exact QV hl hm hj bz q4 q6 (by assumption) this
   refine bZ (λe=>?_) λe=>?_
   ·have e:(S [u]==S [72])=true:=e
    rw[cH,beq_iff_eq] at e;cases e;refine⟨oT (a:=eJ) (b:=eJ+1) ⟨qE (by refine J (bI _) (J (bI _) (J length_drop (J length_take ?_)));exact QU zl ol) ?_⟩ (by exact cz hm)⟩;refine J (iO _ _) ?_;have MN:∀x∈(mk.take (eJ+1)).drop eJ,x∈mk:=λx hx=>mem_of_mem_take (mem_of_mem_drop hx);have zy:((mk.take (eJ+1)).drop eJ).length=if eJ<mk.length then 1 else 0:=by refine J length_drop (J length_take ?_);split<;>first|exact Qh (by assumption)|exact Qg (by assumption)
    have hle:oX ((mk.take (eJ+1)).drop eJ)<=((mk.take (eJ+1)).drop eJ).length:=by unfold oX;exact length_filter_le _ _
    refine(kh _ (nq++(mk.take (eJ+1)).drop eJ) (eJ+1) rfl rfl (λx hx=>?_) ?_ ?_ ?_ (by exact QT q7) (Le.all (iu rfl rfl rfl rfl rfl rfl trivial)))
    ·rcases mem_append.mp hx with hx|hx
     ·exact q3 x hx
     ·exact .inr (MN x hx)
    ·have:lows ((mk.take (eJ+1)).drop eJ)=0:=by
      unfold lows;refine rI length_eq_zero_iff (rI filter_eq_nil_iff ?_);intro x hx;refine J (hmk x (MN x hx)) ?_;decide
     have h2:=(jg (sublist_append_left (bl.take k) [72])).1;refine J tk (J (jh _ _) ?_);exact QS q4 this h2
    ·refine J (gX _ _) ?_;split at zy<;>first|exact Qf q5 hle zy|exact Qe q5 hle zy
    ·refine J (gX _ _) ?_;split at zy<;>first|exact Qd q5 hle (by assumption) zy|exact Qc q6 hle zy
   ·have e:(S [u]==S [72])=false:=e
    rw[cH,beq_eq_false_iff_ne] at e;have gu:g5 u=true:=(bg u (mem_of_getElem? hu)).elim id λz=>absurd (by exact J z rfl) e;refine⟨qE (by refine J (bI _) (J (bI _) (J length_singleton ?_));exact QR zl ol) ?_⟩;refine J (iO _ _) ?_;have l1:=ia (l:=[u]) (λx hx=>by refine J (mem_singleton.mp hx) ?_;exact gu);refine(kh _ (nq++[u]) eJ rfl rfl (λx hx=>?_) (by refine J tk (J (jh _ _) (J (jh _ _) ?_));exact QQ q4) (by refine J (gX _ _) ?_;exact KU q5 l1) (by refine J (gX _ _) ?_;exact KU q6 l1) (by exact QO q7) (Le.all (iu rfl rfl rfl rfl rfl rfl trivial)));rcases mem_append.mp hx with hx|hx
    ·exact q3 x hx
    ·refine J (mem_singleton.mp hx) ?_;exact .inl gu
  ·refine nY zq λnq eJ q1 q2 q3 q4 q5 q6 q7=>?_;clear zq
   subst q1 q2;have el:((S bl).cps.toList.map λu=>PV.str ⟨#[u]⟩).length=bl.length:=by exact J (length_map _) rfl
   rw[el] at q4 q7;rw[take_length] at q4;have ol:nq.length<=100:=by have:=kT nq;exact QN hl hm hj bz q4 q6 this
   refine⟨bw (j+1) (by refine J map_cons (J getElem?_cons_succ (J getElem?_map (J hwj ?_)));rfl) ⟨qE (by refine J (bI _) (J (bI _) ?_);exact QM zl wz ol) ?_⟩ (by exact QL hl hj)⟩;refine J (iO _ _) ?_;have lw:=ia wg;refine(aj _ ⟨nq++w,eJ,_,rfl,e2.trans F1,R1,λx hx=>?_,by refine J (jh _ _) ?_;exact QK wz bz q4 lw,by refine J (gX _ _) ?_;exact KU q5 lw,by refine J (gX _ _) ?_;exact KU q6 lw,by exact QJ e8 bz3 q7⟩ (Le.all ⟨rfl,rfl,rfl,rfl,rfl,trivial⟩));rcases mem_append.mp hx with hx|hx
   ·exact q3 x hx
   ·exact .inl (wg x hx)
 ·refine i9 zq λout used i' e1 e2 e3 e4 e5 e6 e7 e8=>?_;clear zq
  subst e1;have er:((range (((w0::ws).length:Int)-1).toNat).map λj:Nat=>PV.int (1+(j:Int))).length<=3:=by refine J (length_map _) (J length_range (J length_cons ?_));exact QI hl
  generalize ((range (((w0::ws).length:Int)-1).toNat).map λj:Nat=>PV.int (1+(j:Int))).length=len at er e5 e8;have ol:out.length<=100:=by have:=kT out;exact QH hm e7 er e5 this
  have sub:∀a:LN,a.Sublist out->ro mk a:=λa ha=>⟨λu hu=>e4 u (ha.subset hu),by have:=(jg ha).1;exact QG er e5 this,by have:=(jg ha).2;exact K4 e7 this⟩
  have Ds:∀r,r<8->∃l,(pN.map PV.str)[r]? =some (aC l)/\l.length<=2/\(∀u∈l,g5 u=true):=λr hr=>by obtain ⟨l,h1,h2⟩:=yZ (r:=r) (by exact m9 hr);have Gw:l∈sO.take 8:=mem_of_getElem? (i:=r) (by refine J (getElem?_take_of_lt hr) ?_;exact h2);exact bb l h1 ((GR l Gw).1) ((GR l Gw).2)
  refine⟨gO ft aG (λg hg=>.tail _ hg) (k:=7) (by rfl) rfl e3 hn (by decide) λr σ₁ hr F1 R1=>bZ (λq=>?_) λq=>bZ (λq=>?_) λq=>bZ (λq=>?_) λq=>bZ (λq=>?_) λq=>?_⟩
  ·exact⟨Bi (a:=1) (h _ _ _ (e2.trans F1) R1 (sub _ (drop_sublist 1 out))) (by exact cz ol)⟩
  ·exact⟨Hq (h _ _ _ (e2.trans F1) R1 (sub _ (dropLast_sublist out))) (by exact cz ol)⟩
  ·refine⟨gO ft aG (λg hg=>.tail _ hg) (k:=8) (by rfl) rfl R1 hn (by decide) λr' ay gK F2 R2=>?_⟩
   refine aK (Ds r' gK) λl l1 l2 l3=>?_;refine⟨bw r' l1 ⟨lC (by refine J (bI _) (J (bI _) ?_);exact QF zl ol l2) ?_⟩ (by exact m9 gK)⟩;refine J (iO _ _) ?_;have la:=ia l3;exact h _ _ _ (e2.trans (F1.trans F2)) R2 ⟨λu hu=>(mem_append.mp hu).elim (e4 u) λz=>.inl (l3 u z),by refine J (jh _ _) ?_;exact QE er e5 l2 la,by refine J (gX _ _) ?_;exact KU e7 la⟩
  ·refine⟨gO ft aG (λg hg=>.tail _ hg) (k:=8) (by rfl) rfl R1 hn (by decide) λr' ay gK F2 R2=>?_⟩
   refine aK (Ds r' gK) λl l1 l2 l3=>?_;refine⟨bw r' l1 ⟨lC (by refine J (bI _) (J (bI _) ?_);exact QD zl ol l2) ?_⟩ (by exact m9 gK)⟩;refine J (iO _ _) ?_;have la:=ia l3;exact h _ _ _ (e2.trans (F1.trans F2)) R2 ⟨λu hu=>(mem_append.mp hu).elim (λz=>.inl (l3 u z)) (e4 u),by refine J (jh _ _) ?_;exact QC er e5 l2 la,by refine J (gX _ _) ?_;exact QB e7 la⟩
  ·exact h _ _ _ (e2.trans F1) R1 (sub _ (Sublist.refl _))
end
theorem xp:oC=rows0.map RK.row:=by rfl
theorem zF:∀i,i<16->∀r,rows0[i]? =some r->cJ (rows0.take i) r=rows0.take (i+1):=by
 intro i hi r hr;have:∀j:Fin 16,cJ (rows0.take j.val) (rows0[j.val]'j.isLt)=rows0.take (j.val+1):=by decide+kernel
 have h:=this ⟨i,hi⟩;rw[getElem?_eq_getElem (show i<rows0.length from hi)] at hr;refine rS (sI hr) ?_;exact h
structure dz (t:TA) (V:St) (rs:List RK) (bs:List PV):Prop where
 T:dc t V rs bs
 ds:∃ds,V t.defaults=some (.lst ds)/\ds.length<=bs.length
 ns:∃ns,V t.names=some (.lst ns)/\ns.length<=bs.length
 n1:t.defaults≠t.rows/\t.names≠t.rows/\t.defaults≠t.bounds/\t.names≠t.bounds/\t.defaults≠t.names
 n2:t.defaults≠t.index/\t.names≠t.index
section
theorem dz.kp(h:dz t V rs bs)(k:Kp V σ'):dz t σ' rs bs:=by obtain ⟨a,⟨ds,d1,d2⟩,⟨ns,e1,e2⟩,f,g⟩:=h;exact⟨a.fixed k,(aj ds (k _ _ d1) d2),(aj ns (k _ _ e1) e2),f,g⟩
theorem dz.fix(h:dz t V rs bs)(T:dc t σ' aW bs)(k:Fix t V σ'):dz t σ' aW bs:=by obtain ⟨a,⟨ds,d1,d2⟩,⟨ns,e1,e2⟩,f,g⟩:=h;exact⟨T,(aj ds (k _ _ d1 f.1 g.1) d2),(aj ns (k _ _ e1 f.2.1 g.2) e2),f,g⟩
theorem Mu{α:Type}{l:List α}(nd:l.Nodup)(i j:Nat){a b:α}(hi:l[i]? =some a)(hj:l[j]? =some b)(h:i≠j):a≠b:=by intro e;subst e;exact h ((getElem?_inj (List.getElem?_eq_some_iff.mp hi).1 nd).mp (hi.trans hj.symm))
structure Mk (fC V:St) (x d C:Addr) (m:Map) (as:List (Addr×AO)):Prop where
 xd:V x=some (.inst C d)/\V d=some (.dh m)
 own:∀p∈as,V p.1=some p.2/\p.1≠d/\fC p.1=none
 nd:(as.map (·.1)).Nodup
 k:Kp fC V
 d0:fC d=none
theorem Mk.alloc{x:Addr}(M:Mk fC V x d C m as)(ha:V a=none):Mk fC (upd V a o) x d C m ((a,o)::as):=by
 refine⟨⟨ai ha M.xd.1,ai ha M.xd.2⟩,λp hp=>?_,?_,λb o' e=>ai ha (M.k b o' e),M.d0⟩
 ·rcases mem_cons.mp hp with rfl|hp
  ·exact(aN ae (by rintro rfl;rw[M.xd.2] at ha;exact fB ha) (c9 M.k ha))
  ·refine bt (M.own p hp) λh1 h2 h3=>?_
   exact aN (ai ha h1) h2 h3
 ·refine J map_cons (rI nodup_cons ?_)
  refine⟨λq=>?_,M.nd⟩;refine ah (mem_map.mp q) λp hp e=>?_;have:=(M.own p hp).1;rw[e] at this;have ha:V a=none:=ha;rw[ha] at this;exact bL this
theorem Mk.set{x:Addr}(M:Mk fC V x d C m as){m':Map}(e:σ' x=some (.inst C d)/\σ' d=some (.dh m'))(k:∀a,a≠d->σ' a=V a):Mk fC σ' x d C m' as:=
 ⟨e,λp hp=>by refine bt (M.own p hp) λh1 h2 h3=>?_;exact(aN (by refine J (k _ h2) ?_;exact h1) h2 h3),M.nd,λa o q=>by rw[k a (by rintro rfl;rw[M.d0] at q;exact bL q)];exact M.k a o q,M.d0⟩
theorem BP(ft:Ft c)(hA:Rm 5 A)(h:∀σ' t,dz t σ' rows0 []->Kp V σ'->(∀a,V a≠none->a≠t.rows/\a≠t.index/\a≠t.bounds/\a≠t.defaults/\a≠t.names)->Q (.ref t.x) σ'):aw c A φ (.ref 123) [] V Q:=by
 refine mW ft.ok (hA:Rm (4+1) A) ft.tt.made ft.tt.YN ft.tt.ID λx d A' aG hx hd gL=>?_;refine oF ft (aG:Rm (3+1) A') ft.tt.IF rfl rfl rfl (Dq λ_=>rfl) rfl λL A'' E4=>go ft ?_
 have M0:Mk V (upd (upd V d (.dh [])) x (.inst 123 d)) x d 123 [] []:=⟨⟨ae,by exact J (aB (Ne.symm gL)) (J ae rfl)⟩,(λp hp=>by exact km hp),.nil,(λa o e=>by rw[aB (by rintro rfl;rw[hx] at e;exact bL e),aB (by rintro rfl;rw[hd] at e;exact bL e)];exact e),hd⟩
 generalize upd (upd V d (.dh [])) x (.inst 123 d)=fC at M0;refine⟨λa1 h1=>⟨cI ft ft.tt (by decide) (M0.alloc h1).xd rfl λσ₁ e1 k1=>?_⟩⟩;have M1:=(M0.alloc h1).set e1 k1;refine⟨lV (.dT []) .t λa2 h2=>⟨cI ft ft.tt (by decide) (M1.alloc h2).xd rfl λay e2 k2=>?_⟩⟩;have M2:=(M1.alloc h2).set e2 k2;refine⟨λa3 h3=>⟨cI ft ft.tt (by decide) (M2.alloc h3).xd rfl λaD e3 k3=>?_⟩⟩;have M3:=(M2.alloc h3).set e3 k3;refine⟨λa4 h4=>⟨cI ft ft.tt (by decide) (M3.alloc h4).xd rfl λbB e4 k4=>?_⟩⟩;have M4:=(M3.alloc h4).set e4 k4;refine⟨λa5 h5=>⟨cI ft ft.tt (by decide) (M4.alloc h5).xd rfl λcW e5 k5=>?_⟩⟩;have M5:=(M4.alloc h5).set e5 k5;refine⟨λa6 h6=>⟨cI ft ft.tt (by decide) (M5.alloc h6).xd rfl λgv e6 k6=>?_⟩⟩;have M6:=(M5.alloc h6).set e6 k6;refine⟨lV (.dI []) .i λa7 h7=>⟨cI ft ft.tt (by decide) (M6.alloc h7).xd rfl λgR e7 k7=>?_⟩⟩;have M7:=(M6.alloc h7).set e7 k7;refine⟨lV (.dI []) .i λa8 h8=>⟨cI ft ft.tt (by decide) (M7.alloc h8).xd rfl λmi e8 k8=>?_⟩⟩;have M8:=(M7.alloc h8).set e8 k8;refine⟨cI ft ft.tt (by decide) M8.xd rfl λpW e9 k9=>?_⟩;have M9:=M8.set e9 k9;refine⟨cI ft ft.tt (by decide) M9.xd rfl λOf eA kA=>?_⟩;have MA:=M9.set eA kA;clear M0 M1 M2 M3 M4 M5 M6 M7 M8 M9 e1 e2 e3 e4 e5 e6 e7 e8 e9 k1 k2 k3 k4 k5 k6 k7 k8 k9 h1 h2 h3 h4 h5 h6 h7 h8 eA kA;have nd:=MA.nd;have ne:=λ(i j:Nat) {a b:Addr} hi hj h=>Mu nd i j (a:=a) (b:=b) hi hj h;have o1:=MA.own (a1,.lst []) (.tail _ (.tail _ (.tail _ (.tail _ (.tail _ (.tail _ (.tail _ (.head _))))))));have o2:=MA.own (a2,.dT []) (.tail _ (.tail _ (.tail _ (.tail _ (.tail _ (.tail _ (.head _)))))));have o4:=MA.own (a4,.lst []) (.tail _ (.tail _ (.tail _ (.tail _ (.head _)))));have o5:=MA.own (a5,.lst []) (.tail _ (.tail _ (.tail _ (.head _))));have o6:=MA.own (a6,.lst []) (.tail _ (.tail _ (.head _)))
 have T0:dz ⟨x,d,a1,a2,a3,a4,a5,a6,a7,a8⟩ Of [] []:=by exact⟨⟨MA.xd.1,MA.xd.2,o1.1,o2.1,o4.1,ne 4 7 rfl rfl (by decide)⟩,(aj [] o5.1 (Nat.le_refl _)),(aj [] o6.1 (Nat.le_refl _)),(aQ (ne 3 7 rfl rfl (by decide)) (ne 2 7 rfl rfl (by decide)) (ne 3 4 rfl rfl (by decide)) (ne 2 4 rfl rfl (by decide)) (ne 3 2 rfl rfl (by decide))),ne 3 6 rfl rfl (by decide),ne 2 6 rfl rfl (by decide)⟩
 have fr:∀a,V a≠none->a≠a1/\a≠a2/\a≠a4/\a≠a5/\a≠a6:=λa ha=>by
  refine(aQ ?_ ?_ ?_ ?_ ?_)<;>rintro rfl
  ·exact ha o1.2.2
  ·exact ha o2.2.2
  ·exact ha o4.2.2
  ·exact ha o5.2.2
  ·exact ha o6.2.2
 have kσ:=MA.k;clear MA nd ne o1 o2 o4 o5 o6;refine⟨bP E4.handled (by rfl) (eh ft ?_)⟩;refine⟨_,_,aO.tup _,λi m' σ'=>mz (m'=[(("self":Str),PV.ref x)]) (dz ⟨x,d,a1,a2,a3,a4,a5,a6,a7,a8⟩ σ' (rows0.take i) []) (Fix ⟨x,d,a1,a2,a3,a4,a5,a6,a7,a8⟩ Of σ'),⟨rfl,T0,Fix.refl⟩,λ_ _ _ _=>rfl,λi v c0 hv cw mm σ' zq=>go ft ?_,λmm σ' zq=>go ft ?_⟩
 ·refine fp zq λq1 q2 q3=>?_;clear zq
  subst q1;rw[xp,map_map,getElem?_map] at hv;induction hi:rows0[i]? with
  |none=>rw[hi] at hv;exact bL hv
  |some r=>
   rw[hi] at hv;obtain rfl:=sI hv;have ja:i<16:=ar hi;refine⟨_,_,fX ft q2.T,dJ ft,⟨jf ft E4.le q2.T r (by refine J length_take ?_;exact QA ja) λay T2 F2 _=>(gf _ rfl ?_ (q3.trans F2) (Le.new rfl))⟩⟩;refine rS (zF i ja r hi) ?_;exact q2.fix T2 F2
 ·refine fp zq λq1 q2 q3=>?_;clear zq
  subst q1;have:rows0.take (oC.map PV.tup).length=rows0:=by rw[take_of_length_le];exact Nat.le_refl _
  rw[this] at q2;exact⟨rfl,h σ' _ q2 (λa o e=>q3 a o (kσ a o e) (fr a (by refine J e ?_;exact Option.some_ne_none o)).1 (fr a (by refine J e ?_;exact Option.some_ne_none o)).2.1) fr⟩
end
section
theorem zP(ft:Ft c)(hA:Rm 3 A)(h:∀σ' hx hd,xE t hx hd σ'->Kp V σ'->Q (.ref hx) σ'):aw c A φ (.ref 587) [.ref t.x] V Q:=by
 refine mW ft.ok (hA:Rm (2+1) A) ft.th.made ft.th.YN ft.th.ID λx d A' aG hx hd gL=>?_;refine oF ft (aG:Rm (1+1) A') ft.th.IF rfl rfl rfl (pF λ_ _=>rfl) rfl λL A'' E4=>go ft ?_
 have M0:Mk V (upd (upd V d (.dh [])) x (.inst 587 d)) x d 587 [] []:=⟨⟨ae,by exact J (aB (Ne.symm gL)) (J ae rfl)⟩,(λp hp=>by exact km hp),.nil,(λa o e=>by rw[aB (by rintro rfl;rw[hx] at e;exact bL e),aB (by rintro rfl;rw[hd] at e;exact bL e)];exact e),hd⟩
 generalize upd (upd V d (.dh [])) x (.inst 587 d)=fC at M0;refine⟨cI ft ft.th (by decide) M0.xd rfl λσ₁ e1 k1=>?_⟩;have M1:=M0.set e1 k1;refine⟨cI ft ft.th (by decide) M1.xd rfl λay e2 k2=>?_⟩;have M2:=M1.set e2 k2;refine⟨cI ft ft.th (by decide) M2.xd rfl λaD e3 k3=>?_⟩;have M3:=M2.set e3 k3;refine⟨cI ft ft.th (by decide) M3.xd rfl λbB e4 k4=>?_⟩;have M4:=M3.set e4 k4;refine⟨cI ft ft.th (by decide) M4.xd rfl λcW e5 k5=>?_⟩;have M5:=M4.set e5 k5;exact⟨rfl,h _ x d ⟨M5.xd.1,M5.xd.2⟩ M5.k⟩
theorem dz.GQ(X:dz t V rs bs){bs':List PV}(hl:bs.length<=bs'.length):dz t (upd V t.bounds (.lst bs')) rs bs':=by
 obtain ⟨T,⟨ds,d1,d2⟩,⟨ns,e1,e2⟩,⟨f1,f2,f3,f4,f5⟩,g⟩:=X;refine j6 T.ne λn1 n2 n3 n4 n5 n6=>?_;have nx:t.x≠t.bounds:=λe=>by have:=T.x;rw[e,T.bounds] at this;exact kB this
 have nd:t.d≠t.bounds:=λe=>by have:=T.d;rw[e,T.bounds] at this;exact kB this
 exact⟨⟨by refine J (aB nx) ?_;exact T.x,by refine J (aB nd) ?_;exact T.d,by refine J (aB (Ne.symm T.bne)) ?_;exact T.rows,by refine J (aB (Ne.symm n6)) ?_;exact T.index,ae,T.bne⟩,(aj ds (by refine J (aB f3) ?_;exact d1) (Nat.le_trans d2 hl)),(aj ns (by refine J (aB f4) ?_;exact e1) (Nat.le_trans e2 hl)),(aQ f1 f2 f3 f4 f5),g⟩
theorem dz.dfl(X:dz t V rs bs){ds':List PV}(hz:ds'.length<=bs.length):dz t (upd V t.defaults (.lst ds')) rs bs:=by
 obtain ⟨T,⟨ds,d1,d2⟩,⟨ns,e1,e2⟩,⟨f1,f2,f3,f4,f5⟩,g⟩:=X;have nx:t.x≠t.defaults:=λe=>by have:=T.x;rw[e,d1] at this;exact kB this
 have nd:t.d≠t.defaults:=λe=>by have:=T.d;rw[e,d1] at this;exact kB this
 exact⟨⟨by refine J (aB nx) ?_;exact T.x,by refine J (aB nd) ?_;exact T.d,by refine J (aB (Ne.symm f1)) ?_;exact T.rows,by refine J (aB (Ne.symm g.1)) ?_;exact T.index,by refine J (aB (Ne.symm f3)) ?_;exact T.bounds,T.bne⟩,(aj ds' ae hz),(aj ns (by refine J (aB (Ne.symm f5)) ?_;exact e1) e2),(aQ f1 f2 f3 f4 f5),g⟩
theorem dz.nms(X:dz t V rs bs){ns':List PV}(hz:ns'.length<=bs.length):dz t (upd V t.names (.lst ns')) rs bs:=by
 obtain ⟨T,⟨ds,d1,d2⟩,⟨ns,e1,e2⟩,⟨f1,f2,f3,f4,f5⟩,g⟩:=X;have nx:t.x≠t.names:=λe=>by have:=T.x;rw[e,e1] at this;exact kB this
 have nd:t.d≠t.names:=λe=>by have:=T.d;rw[e,e1] at this;exact kB this
 exact⟨⟨by refine J (aB nx) ?_;exact T.x,by refine J (aB nd) ?_;exact T.d,by refine J (aB (Ne.symm f2)) ?_;exact T.rows,by refine J (aB (Ne.symm g.2)) ?_;exact T.index,by refine J (aB (Ne.symm f4)) ?_;exact T.bounds,T.bne⟩,(aj ds (by refine J (aB f5) ?_;exact d1) d2),(aj ns' ae hz),(aQ f1 f2 f3 f4 f5),g⟩
def m6(t:TA)(V σ':St):Prop:=∀a o,V a=some o->a≠t.rows->a≠t.index->a≠t.bounds->a≠t.defaults->a≠t.names->σ' a=some o
theorem lL(ft:Ft c)(T:dc t V rs bs)(hm:x∈pI)(hx:dB t.map x=some p)(h:Q p V):W1 c A φ Vr (λo=>getAttr o x true) (.ref t.x) V Q:=ni ft T hm hx h
theorem qo(ft:Ft c)(hA:Rm 2 A)(X:dz t V rs bs)(hb:bs.length<=50)(hz:rs.length<1000000){nm:PV}{L:Addr}
  (h:∀σ',dz t σ' (cJ rs (.par bs.length)) (bs++[.int b])->m6 t V σ'->Q (pid (dN rs (.par bs.length))) σ'):
  WX c A φ (callEnv (lj c.K 151 (fU 44) (.ref 144)) L 151) (execs (bodyOf (fU 44)) (callEnv (lj c.K 151 (fU 44) (.ref 144)) L 151)) [("tab",.ref t.x),("name",nm),("bound",.int b),("default",.int (-1))] V λr _ σ'=>Q (kK r) σ':=by
 have zl:sizeLine=2^24:=rfl;refine go ft ⟨lL ft X.T (by decide) rfl ⟨iJ X.T.bounds (by exact nZ zl hb) ⟨lL ft X.T (by decide) rfl ⟨_,_,bD X.T.bounds,a9,⟨bN X.T.bounds (by exact nZ zl hb) ?_⟩⟩⟩⟩⟩;have hl:(bs++[PV.int b]).length=bs.length+1:=by exact length_append
 have X1:=X.GQ (bs':=bs++[.int b]) (by exact Qz hl);refine ah X.ds λds d1 d2=>?_;have d1':upd V t.bounds (.lst (bs++[.int b])) t.defaults=some (.lst ds):=by refine J (aB X.n1.2.2.1) ?_;exact d1
 refine⟨lL ft X1.T (by decide) rfl ⟨_,_,bD d1',a9,⟨bN d1' (by exact K3 hb zl d2) ?_⟩⟩⟩;have X2:=X1.dfl (ds':=ds++[.int (-1)]) (by refine J length_append (J length_singleton ?_);exact K2 hl d2);refine ah X.ns λns s1 s2=>?_;have KD:upd (upd V t.bounds (.lst (bs++[.int b]))) t.defaults (.lst (ds++[.int (-1)])) t.names=some (.lst ns):=by refine J (aB (Ne.symm X.n1.2.2.2.2)) (J (aB X.n1.2.2.2.1) ?_);exact s1
 refine⟨lL ft X2.T (by decide) rfl ⟨_,_,bD KD,a9,⟨bN KD (by exact K3 hb zl s2) ?_⟩⟩⟩;have X3:=X2.nms (ns':=ns++[nm]) (by refine J length_append (J length_singleton ?_);exact K2 hl s2);refine⟨_,_,fX ft X3.T,dJ ft,⟨jf ft hA.le X3.T (.par bs.length) hz λσ' T' F' _=>?_⟩⟩;exact h σ' (X3.fix T' F') (λa o e n1 n2 n3 n4 n5=>F' _ _ (by refine J (aB n5) (J (aB n4) (J (aB n3) ?_));exact e) n1 n2)
theorem HO(ft:Ft c)(hA:Rm 3 A)(X:dz t V rs bs)(hb:bs.length<=50)(hz:rs.length<1000000)
  (h:∀σ',dz t σ' (cJ rs (.par bs.length)) (bs++[.int (-1)])->m6 t V σ'->Q (pid (dN rs (.par bs.length))) σ'):aw c A φ (.ref 151) [.ref t.x,aC nm] V Q:=by
 refine wq ft.d3 λoc od oe k t1 t2 hT=>?_;refine oG ft "new_param" (hA:Rm (2+1) A) rfl rfl rfl rfl rfl (mm:=[("tab",.ref t.x),("name",aC nm),("bound",.int (-1)),("default",.int (-1))]) (λs vs X hv=>?_) rfl λL A' aG=>qo ft aG X hb hz h;refine aV (pq hv) λa1 a2 au r1 r2=>?_;subst au;exact aj _ (BindsTo.of_defaults rfl (X _ _ hT) rfl rfl rfl) (.cons r1 (.cons r2 (.cons (.int (-1) t1) (.cons (.int (-1) t2) .nil))))
theorem HN(ft:Ft c)(hA:Rm 3 A)(X:dz t V rs bs)(hb:bs.length<=50)(hz:rs.length<1000000)
  (h:∀σ',dz t σ' (cJ rs (.par bs.length)) (bs++[.int b])->m6 t V σ'->Q (pid (dN rs (.par bs.length))) σ'):aw c A φ (.ref 151) [.ref t.x,aC nm,.int b] V Q:=by
 refine wq ft.d3 λoc od oe k t1 t2 hT=>?_;refine oG ft "new_param" (hA:Rm (2+1) A) rfl rfl rfl rfl rfl (mm:=[("tab",.ref t.x),("name",aC nm),("bound",.int b),("default",.int (-1))]) (λs vs X hv=>?_) rfl λL A' aG=>qo ft aG X hb hz h;refine fy (y7 hv) λa1 a2 a3 au r1 r2 r3=>?_;subst au;exact aj _ (BindsTo.of_defaults rfl (X _ _ hT) rfl rfl rfl) (.cons r1 (.cons r2 (.cons r3 (.cons (.int (-1) t2) .nil))))
end
noncomputable def aI:List RK:=rows0++[.par 0,.par 1,.str [97] 0,.str [49] 0,.mj [18,19],.num 0 0,.str [98] 0,.mj [21,22],.eG [[45],[]] [7],.str [] 0,.str [97,98] 0,.mj [25,26]]
theorem zE:∀j:Fin 12,cJ (aI.take (16+j.val)) (aI.getD (16+j.val) .obj)=aI.take (17+j.val)/\dN (aI.take (16+j.val)) (aI.getD (16+j.val) .obj)=16+j.val:=by decide+kernel
noncomputable def mB:List (Nat×List LN):=[(6,[[83]]),(7,[[78]]),(16,[[84]]),(17,[[85]]),(20,[[97],[49]]),(23,[[48],[98]]),(24,[[45,78]]),(27,[[],[97,98]])]
def lX(V:St)(st:Addr):Prop:=∃items,V st=some (.lst items)/\items.length=8/\∀(j:Nat) p,mB[j]? =some p->∃a,items[j]? =some (.tup [pid p.1,.ref a])/\V a=some (.lst (p.2.map aC))
theorem lX.kp{st:Addr}(h:lX V st)(k:Kp V σ'):lX σ' st:=by refine aK h λitems a l b=>?_;clear h;exact(bb items (k _ _ a) l (λj p q=>by refine ah (b j p q) λx x1 x2=>?_;exact(aj x x1 (k _ _ x2))))
theorem AQ{k1 k2 v:Nat}(ja:k1<k2)(ht:ki [((k1:Int),.int 1),((k2:Int),.int 1)]=-1)
  {r1 r2:RK} (q1:rs[k1]? =some r1) (q2:rs[k2]? =some r2) (w1:bV [((k1:Int),.int 1),((k2:Int),.int 1)] (dC r1)=false) (w2:bV [((k1:Int),.int 1),((k2:Int),.int 1)] (dC r2)=false)
  (U:Aq rs [((k1:Int),.int 1),((k2:Int),.int 1)] aW v):v=dN rs (.mj [k1,k2])/\aW=cJ rs (.mj [k1,k2]):=by
 rcases U with ⟨t0,_⟩|⟨_,ns,hp,hs,kept,hk,hv⟩
 ·rw[ht] at t0;exact absurd t0 (by decide)
 ·have en:ns=[(k1:Int),(k2:Int)]:=List.Perm.eq_of_pairwise (le:=(·<=·)) (λa b _ _ h1 h2=>Int.le_antisymm h1 h2) hs (by simp;exact Th ja) hp
  subst en
  have ek:kept=[k1,k2]:=by
   have:kept.map (λk:Nat=>(k:Int))=[k1,k2].map (λk:Nat=>(k:Int)):=by refine J hk ?_;simp only[filter_cons,filter_nil,Int.toNat_natCast,q1,q2,w1,w2,Bool.not_false,if_true];rfl
   exact(List.map_inj_right (λa b e=>Int.ofNat_inj.mp e)).mp this
  subst ek;rcases hv with ⟨e,_⟩|⟨e,_⟩|⟨_,e1,e2⟩
  ·exact MC e
  ·cases e
  ·exact⟨e1,e2⟩
structure Own (t:TA) (fC V:St) (as:List (Addr×AO)):Prop where
 own:∀p∈as,V p.1=some p.2/\p.1≠t.rows/\p.1≠t.index/\p.1≠t.bounds/\p.1≠t.defaults/\p.1≠t.names
 k:m6 t fC V
section
theorem Own.fix(A7:Own t fC V as)(f:m6 t V σ'):Own t fC σ' as:=
 ⟨λp hp=>by refine j6 (A7.own p hp) λa b c d e g=>?_;exact(dZ (f _ _ a b c d e g) b c d e g),λa o e n1 n2 n3 n4 n5=>f _ _ (A7.k a o e n1 n2 n3 n4 n5) n1 n2 n3 n4 n5⟩
theorem Fix.T(f:Fix t V σ'):m6 t V σ':=λa o e n1 n2 _ _ _=>f a o e n1 n2
theorem Kp.T(f:Kp V σ'):m6 t V σ':=λa o e _ _ _ _ _=>f a o e
theorem Own.alloc(A7:Own t fC V as)(X:dz t V rs bs)(ha:V a=none):Own t fC (upd V a o) ((a,o)::as):=by
 refine⟨λp hp=>?_,(A7.fix (Kp.new ha).T).k⟩;rcases mem_cons.mp hp with rfl|hp
 ·refine ah X.ds λds d1 _=>?_
  refine ah X.ns λns s1 _=>?_;refine(dZ ae ?_ ?_ ?_ ?_ ?_)<;>(intro e;have e:a=_:=e;rw[e] at ha)
  ·rw[X.T.rows] at ha;exact fB ha
  ·rw[X.T.index] at ha;exact fB ha
  ·rw[X.T.bounds] at ha;exact fB ha
  ·rw[d1] at ha;exact fB ha
  ·rw[s1] at ha;exact fB ha
 ·exact(A7.fix (Kp.new ha).T).own p hp
theorem y9(ft:Ft c)(hA:Rm 4 A)(X:dz t V rs bs)(hz:rs.length<100){k1 k2:Nat}(e:V a=some (.lst [pid k1,pid k2]))(hp:bO rs [k1,k2]=[k1,k2])(ja:k1<k2)(hG:aU [] [k1,k2]=[((k1:Int),.int 1),((k2:Int),.int 1)])
  (ht:ki [((k1:Int),.int 1),((k2:Int),.int 1)]=-1) (Cs:∀x∈([8,14,-1]:List Int),bV [((k1:Int),.int 1),((k2:Int),.int 1)] x=false) {r1 r2:RK} (q1:rs[k1]? =some r1) (q2:rs[k2]? =some r2) (f1:r1.fresh=false) (f2:r2.fresh=false) (w1:bV [((k1:Int),.int 1),((k2:Int),.int 1)] (dC r1)=false) (w2:bV [((k1:Int),.int 1),((k2:Int),.int 1)] (dC r2)=false) {Q:PV->St->Prop}
  (h:∀σ',dz t σ' (cJ rs (.mj [k1,k2])) bs->m6 t V σ'->Q (pid (dN rs (.mj [k1,k2]))) σ'):aw c A φ (.ref 198) [.ref t.x,.ref a] V Q:=by
 refine xR ft hA X.T (ks:=[k1,k2]) e (λk hk=>?_) (by exact m9 hz) (by refine J hp (J hG ?_);exact Nat.le_of_ble_eq_true rfl) (by refine J hp (J hG ?_);exact Cs 8 (by exact .head _)) (by refine J hp (J hG ?_);exact Cs 14 (by exact .tail _ (.head _))) (by refine J hp (J hG ?_);exact Cs (-1) (by exact .tail _ (.tail _ (.head _)))) (λx hx=>?_) λσ' aW v T' F' U=>?_
 ·rcases mem_cons.mp hk with rfl|hk
  ·exact⟨_,q1⟩
  ·refine J (mem_singleton.mp hk) ?_;exact⟨_,q2⟩
 ·rw[hp,hG] at hx
  simp only[map_cons,map_nil,mem_cons,not_mem_nil,or_false] at hx;rcases hx with rfl|rfl
  ·exact aj k1 rfl ⟨r1,q1,f1⟩
  ·exact aj k2 rfl ⟨r2,q2,f2⟩
 ·rw[hp,hG] at U
  refine aA (AQ ja ht q1 q2 w1 w2 U) λu1 u2=>?_;subst u1 u2;exact h σ' (X.fix T' F') F'.T
theorem kE(ft:Ft c)(hA:Rm 3 A)(X:dz t V rs bs)(hz:rs.length<1000000)(aW:List RK)(v:Nat)(hT:cJ rs (.str l 0)=aW)(hI:dN rs (.str l 0)=v)(h:∀σ',dz t σ' aW bs->m6 t V σ'->Q (pid v) σ'):aw c A φ (.ref 135) [.ref t.x,aC l] V Q:=by subst hT hI;exact wQ ft hA X.T hz λσ' T' F' _=>h σ' (X.fix T' F') F'.T
theorem Bd(ft:Ft c)(hA:Rm 3 A)(X:dz t V rs bs)(hz:rs.length<1000000){i:Int}(aW:List RK)(v:Nat)(hT:cJ rs (.num i 0)=aW)(hI:dN rs (.num i 0)=v)(h:∀σ',dz t σ' aW bs->m6 t V σ'->Q (pid v) σ'):aw c A φ (.ref 143) [.ref t.x,.int i] V Q:=by subst hT hI;exact BN ft hA X.T hz λσ' T' F' _=>h σ' (X.fix T' F') F'.T
theorem Bc(ft:Ft c)(hA:Rm 2 A)(X:dz t V rs bs)(hz:rs.length<1000000)(r:RK)(aW:List RK)(v:Nat)(hT:cJ rs r=aW)(hI:dN rs r=v)(h:∀σ',dz t σ' aW bs->m6 t V σ'->Q (pid v) σ'):aw c A φ (.ref 120) [.ref t.x,.tup r.row] V Q:=by subst hT hI;exact jf ft hA X.T r hz λσ' T' F' _=>h σ' (X.fix T' F') F'.T
theorem zj(ft:Ft c)(hA:Rm 3 A)(X:dz t V rs bs)(hb:bs.length<=50)(hz:rs.length<1000000)(aW:List RK)(v:Nat)(hT:cJ rs (.par bs.length)=aW)(hI:dN rs (.par bs.length)=v)
  (h:∀σ',dz t σ' aW (bs++[.int (-1)])->m6 t V σ'->Q (pid v) σ'):aw c A φ (.ref 151) [.ref t.x,aC nm] V Q:=by
 subst hT hI;exact HO ft hA X hb hz h
theorem zi(ft:Ft c)(hA:Rm 3 A)(X:dz t V rs bs)(hb:bs.length<=50)(hz:rs.length<1000000)(aW:List RK)(v:Nat)(hT:cJ rs (.par bs.length)=aW)(hI:dN rs (.par bs.length)=v)
  (h:∀σ',dz t σ' aW (bs++[.int b])->m6 t V σ'->Q (pid v) σ'):aw c A φ (.ref 151) [.ref t.x,aC nm,.int b] V Q:=by
 subst hT hI;exact HN ft hA X hb hz h
theorem p9(ft:Ft c)(hA:Rm 4 A)(X:dz t V rs bs)(hz:rs.length<100){k1 k2:Nat}(e:V a=some (.lst [pid k1,pid k2]))(aW:List RK)(v:Nat)(hT:cJ rs (.mj [k1,k2])=aW)(hI:dN rs (.mj [k1,k2])=v)(hp:bO rs [k1,k2]=[k1,k2])(ja:k1<k2)(hG:aU [] [k1,k2]=[((k1:Int),.int 1),((k2:Int),.int 1)])
  (ht:ki [((k1:Int),.int 1),((k2:Int),.int 1)]=-1) (Cs:∀x∈([8,14,-1]:List Int),bV [((k1:Int),.int 1),((k2:Int),.int 1)] x=false) {r1 r2:RK} (q1:rs[k1]? =some r1) (q2:rs[k2]? =some r2) (f1:r1.fresh=false) (f2:r2.fresh=false) (w1:bV [((k1:Int),.int 1),((k2:Int),.int 1)] (dC r1)=false) (w2:bV [((k1:Int),.int 1),((k2:Int),.int 1)] (dC r2)=false) {Q:PV->St->Prop}
  (h:∀σ',dz t σ' aW bs->m6 t V σ'->Q (pid v) σ'):aw c A φ (.ref 198) [.ref t.x,.ref a] V Q:=by
 subst hT hI;exact y9 ft hA X hz e hp ja hG ht Cs q1 q2 f1 f2 w1 w2 h
theorem Ek(ft:Ft c)(hA:Rm 5 A)(X:dz t V rows0 [])
  (h:∀σ' st,dz t σ' aI jU->m6 t V σ'->lX σ' st->Q (.ref st) σ'):aw c A φ (.ref 624) [.ref t.x] V Q:=by
 have zr:∀n,(aI.take n).length<100:=λn=>by refine J length_take ?_;exact Nat.lt_of_le_of_lt (Nat.min_le_right _ _) (by decide)
 have DY:∀n,(aI.take n).length<1000000:=λn=>Nat.lt_of_lt_of_le (zr n) (by decide);have st:=zE;have Nk:∀k1 k2:Nat,(∀x∈([8,14,-1]:List Int),bV [((k1:Int),.int 1),((k2:Int),.int 1)] x=false)∨True:=λ_ _=>.inr trivial;have O0:Own t V V []:=⟨(λp hp=>by exact km hp),λa o e _ _ _ _ _=>e⟩;have X0:dz t V (aI.take 16) []:=X;refine enter ft "_law_stock" (hA:Rm (4+1) A) rfl rfl rfl rfl (Dq λ_=>rfl) rfl λL A' aG=>go ft ?_;refine⟨zj (nm:=[84]) ft aG.le X0 (by decide) (DY _) (aI.take 17) 16 (st 0).1 (st 0).2 λσ₁ X1 F1=>?_⟩;refine⟨zi (nm:=[85]) ft aG.le X1 (by decide) (DY _) (aI.take 18) 17 (st 1).1 (st 1).2 λay X2 F2=>?_⟩;have O2:=(O0.fix F1).fix F2;refine⟨λa0 h0=>?_⟩;have O3:=O2.alloc X2 h0 (o:=.lst [.str "S"]);have X3:=X2.kp (Kp.new (o:=.lst [.str "S"]) h0);refine⟨λa1 h1=>?_⟩;have O4:=O3.alloc X3 h1 (o:=.lst [.str "N"]);have X4:=X3.kp (Kp.new (o:=.lst [.str "N"]) h1);refine⟨λa2 h2=>?_⟩;have O5:=O4.alloc X4 h2 (o:=.lst [.str "T"]);have X5:=X4.kp (Kp.new (o:=.lst [.str "T"]) h2);refine⟨λa3 h3=>?_⟩;have O6:=O5.alloc X5 h3 (o:=.lst [.str "U"]);have X6:=X5.kp (Kp.new (o:=.lst [.str "U"]) h3);generalize upd (upd (upd (upd ay a0 _) a1 _) a2 _) a3 _=aD at O6 X6;clear X0 X1 X2 X3 X4 X5 O0 O2 O3 O4 O5 F1 F2;refine⟨kE (l:=[97]) ft aG.le X6 (DY _) (aI.take 19) 18 (st 2).1 (st 2).2 λbB X7 F7=>⟨kE (l:=[49]) ft aG.le X7 (DY _) (aI.take 20) 19 (st 3).1 (st 3).2 λcW X8 F8=>⟨λb hb=>?_⟩⟩⟩;have X9:=X8.kp (Kp.new (o:=.lst [pid 18,pid 19]) hb);have O9:=((O6.fix F7).fix F8).fix (Kp.new (o:=.lst [pid 18,pid 19]) hb).T;refine⟨p9 (k1:=18) (k2:=19) ft aG X9 (zr _) ae (aI.take 21) 20 (st 4).1 (st 4).2 rfl (by decide) rfl rfl (by decide) (r1:=.str [97] 0) (r2:=.str [49] 0) rfl rfl rfl rfl rfl rfl λgv XA FA=>⟨λa4 h4=>?_⟩⟩;have OA:=(O9.fix FA).alloc XA h4 (o:=.lst [.str "a",.str "1"]);have XB:=XA.kp (Kp.new (o:=.lst [.str "a",.str "1"]) h4);generalize upd gv a4 _=gR at OA XB;clear X6 X7 X8 X9 XA O6 O9 F7 F8 FA hb h0 h1 h2 h3 h4;refine⟨Bd (i:=0) ft aG.le XB (DY _) (aI.take 22) 21 (st 5).1 (st 5).2 λmi X7 F7=>⟨kE (l:=[98]) ft aG.le X7 (DY _) (aI.take 23) 22 (st 6).1 (st 6).2 λpW X8 F8=>⟨λb hb=>?_⟩⟩⟩;have X9:=X8.kp (Kp.new (o:=.lst [pid 21,pid 22]) hb);have O9:=((OA.fix F7).fix F8).fix (Kp.new (o:=.lst [pid 21,pid 22]) hb).T;refine⟨p9 (k1:=21) (k2:=22) ft aG X9 (zr _) ae (aI.take 24) 23 (st 7).1 (st 7).2 rfl (by decide) rfl rfl (by decide) (r1:=.num 0 0) (r2:=.str [98] 0) rfl rfl rfl rfl rfl rfl λOf XA FA=>⟨λa5 h5=>?_⟩⟩;have OB:=(O9.fix FA).alloc XA h5 (o:=.lst [.str "0",.str "b"]);have XC:=XA.kp (Kp.new (o:=.lst [.str "0",.str "b"]) h5);generalize upd Of a5 _=σB at OB XC;clear XB X7 X8 X9 XA OA O9 F7 F8 FA hb h5;refine⟨_,_,fX ft XC.T,dJ ft,⟨Bc ft aG.le XC (DY _) (.eG [[45],[]] [7]) (aI.take 25) 24 (st 8).1 (st 8).2 λσC XD FD=>⟨λa6 h6=>?_⟩⟩⟩;have OD:=(OB.fix FD).alloc XD h6 (o:=.lst [.str "-N"]);have XE:=XD.kp (Kp.new (o:=.lst [.str "-N"]) h6);generalize upd σC a6 _=σD at OD XE;clear XC XD OB FD h6;refine⟨kE (l:=[]) ft aG.le XE (DY _) (aI.take 26) 25 (st 9).1 (st 9).2 λσE X7 F7=>⟨kE (l:=[97,98]) ft aG.le X7 (DY _) (aI.take 27) 26 (st 10).1 (st 10).2 λσF X8 F8=>⟨λb hb=>?_⟩⟩⟩;have X9:=X8.kp (Kp.new (o:=.lst [pid 25,pid 26]) hb);have O9:=((OD.fix F7).fix F8).fix (Kp.new (o:=.lst [pid 25,pid 26]) hb).T;refine⟨p9 (k1:=25) (k2:=26) ft aG X9 (zr _) ae (aI.take 28) 27 (st 11).1 (st 11).2 rfl (by decide) rfl rfl (by decide) (r1:=.str [] 0) (r2:=.str [97,98] 0) rfl rfl rfl rfl rfl rfl λσG XA FA=>⟨λa7 h7=>?_⟩⟩;have OF:=(O9.fix FA).alloc XA h7 (o:=.lst [.str "",.str "ab"]);have XF:=XA.kp (Kp.new (o:=.lst [.str "",.str "ab"]) h7);generalize upd σG a7 _=σH at OF XF;clear XE X7 X8 X9 XA OD O9 F7 F8 FA hb h7;refine⟨λD hD=>?_⟩;have e28:aI.take 28=aI:=take_of_length_le (by decide);rw[e28] at XF;have OG:=OF.fix (Kp.new (o:=.lst [.tup [pid 6,.ref a0],.tup [pid 7,.ref a1],.tup [pid 16,.ref a2],.tup [pid 17,.ref a3],.tup [pid 20,.ref a4],.tup [pid 23,.ref a5],.tup [pid 24,.ref a6],.tup [pid 27,.ref a7]]) hD).T;refine h _ D (XF.kp (Kp.new hD)) OG.k (bb _ ae rfl (λj p q=>?_))
 match j,q with
 |0,q=>obtain rfl:=sI q;exact(aj a0 rfl ((OG.own (a0,.lst [.str "S"]) (by exact mem_of_getLast? rfl)).1))
 |1,q=>obtain rfl:=sI q;exact(aj a1 rfl ((OG.own (a1,.lst [.str "N"]) (by exact mem_of_getElem? (i:=6) rfl)).1))
 |2,q=>obtain rfl:=sI q;exact(aj a2 rfl ((OG.own (a2,.lst [.str "T"]) (by exact mem_of_getElem? (i:=5) rfl)).1))
 |3,q=>obtain rfl:=sI q;exact(aj a3 rfl ((OG.own (a3,.lst [.str "U"]) (by exact mem_of_getElem? (i:=4) rfl)).1))
 |4,q=>obtain rfl:=sI q;exact(aj a4 rfl ((OG.own (a4,.lst [.str "a",.str "1"]) (by exact mem_of_getElem? (i:=3) rfl)).1))
 |5,q=>obtain rfl:=sI q;exact(aj a5 rfl ((OG.own (a5,.lst [.str "0",.str "b"]) (by exact .tail _ (.tail _ (.head _)))).1))
 |6,q=>obtain rfl:=sI q;exact(aj a6 rfl ((OG.own (a6,.lst [.str "-N"]) (by exact .tail _ (.head _))).1))
 |7,q=>obtain rfl:=sI q;exact(aj a7 rfl ((OG.own (a7,.lst [.str "",.str "ab"]) (by exact .head _)).1))
 |j+8,q=>exact bL q
end
noncomputable def eE(sg w:LN)(stop i:Nat):Option Nat:=match w with
 |[]=>if i<stop then some (i+1) else none
 |_::_=>gM sg w i stop
theorem nL{e:Nat}:gB sg [] i e=(e==i+1):=by unfold gB;simp
theorem kW{r:LN}{e:Nat}(h:e+(u::r).length<=stop):cY sg (u::r) stop e=gB sg (u::r) i e:=by unfold gB cY;refine J (decide_eq_true h) (J drop_take (J (Nat.add_sub_cancel_left _ _) ?_));exact(Bool.and_true _).symm
theorem I0{e:Nat}(h:cY sg w stop e=true):e+w.length<=stop:=by unfold cY at h;rw[(Bool.and_eq_true _ _),decide_eq_true_eq] at h;exact h.1
theorem qL(h:eE sg w stop i=none):∀e,i<=e->e+w.length<=stop->gB sg w i e=false:=by
 intro e h1 h2;induction w using LC with
 |nil=>
  unfold eE at h;simp only at h;rw[nL,beq_eq_false_iff_ne]
  split at h
  ·exact fB h
  ·simp at h2;exact W5 h2 (by assumption)
 |cons u r=>
  have h:gM sg (u::r) i stop=none:=h;unfold gM at h;rw[find?_eq_none] at h;have:=h e (by refine rI mem_range'_1 ?_;exact WZ h1 h2);refine rS (kW h2) ?_;simpa using this
theorem o7{c:Nat->Bool}:∀(n i e:Nat),(range' i n).find? c=some e->i<=e/\c e=true/\∀j,i<=j->j<e->c j=false
 |0,i,e,h=>by exact bL h
 |n+1,i,e,h=>by
  rw[range'_succ,find?_cons] at h;induction q:c i with
  |true=>rw[q] at h;obtain rfl:=sI h;exact(aN (Nat.le_refl _) q (λj h1 h2=>by exact False.elim (W4 h1 h2)))
  |false=>
   rw[q] at h;refine bt (o7 n (i+1) e h) λa b d=>?_
   exact(aN (by exact Ih a) b (λj h1 h2=>by
    by_cases e':j=i
    ·refine J e' ?_;exact q
    ·exact d j (by exact WY h1 e') h2))
theorem mR{e:Nat}(h:eE sg w stop i=some e):i<=e/\e+w.length<=stop/\gB sg w i e=true/\∀j,i<=j->j<e->gB sg w i j=false:=by
 induction w using LC with
 |nil=>
  unfold eE at h;simp only at h
  split at h
  ·obtain rfl:=sI h
   refine(cj (by exact Mf) (by simp;exact W0 (by assumption)) (by rw[nL,beq_self_eq_true]) (λj h1 h2=>?_));rw[nL,beq_eq_false_iff_ne];exact WW h2
  ·exact bL h
 |cons u r=>
  have h:gM sg (u::r) i stop=some e:=h;refine bt (o7 _ _ _ h) λa b d=>?_;have le:=I0 b;refine(cj a le (by refine rS (kW le) ?_;exact b) (λj h1 h2=>?_));refine rS (kW (stop:=stop) (by exact WQ le h2)) ?_;exact d j h1 h2
theorem yQ{α:Type}{c:Nat->Bool}{g:Nat->α}(h:∀j,j<n->c j=false):((range n).filterMap λj=>if c j then some (g j) else none)=[]:=by refine rI filterMap_eq_nil_iff ?_;intro j hj;refine J (h j (mem_range.mp hj)) ?_;rfl
theorem E9{α:Type}{c:Nat->Bool}{g:Nat->α}{j0:Nat}(hj:j0<n)(h0:c j0=true)(h:∀j,j<j0->c j=false):∃rest,((range n).filterMap λj=>if c j then some (g j) else none)=g j0::rest/\∀q∈rest,∃j,j0<j/\q=g j:=by
 have e:range n=range j0++j0::range' (j0+1) (n-j0-1):=by
  refine J range_eq_range' (J range_eq_range' (J (show n=j0+(1+(n-j0-1)) by exact WV hj) (rS range'_append_1 (J (Nat.zero_add _) (rS range'_append_1 ?_)))));refine J range'_one (J singleton_append (?_))
  congr 3;exact WO
 refine aj ((range' (j0+1) (n-j0-1)).filterMap λj=>if c j then some (g j) else none) ?_ (λq hq=>?_)
 ·refine J e (J filterMap_append (J (yQ h) (J (nil_append _) (J filterMap_cons (J h0 ?_)))));rfl
 ·refine ah (mem_filterMap.mp hq) λj j1 j2=>?_
  rw[mem_range'_1] at j1
  split at j2
  ·obtain rfl:=sI j2;exact(aj j (by exact WK j1) rfl)
  ·exact bL j2
theorem jN{p:Way}:(eE sg w stop p.2=none->bH sg w p (stop+1-w.length-p.2)=[])/\
  (∀e,eE sg w stop p.2=some e->∃rest,bH sg w p (stop+1-w.length-p.2)=(p.1++[(sg.take e).drop p.2],e+w.length)::rest/\∀q∈rest,e+w.length<=q.2):=by
 refine⟨λh=>yQ λj hj=>qL h _ (by exact Me) (by exact Md hj),λe h=>?_⟩;refine cT (mR h) λh1 h2 h3 h4=>?_
 obtain ⟨rest,r1,r2⟩:=E9 (c:=λj=>gB sg w p.2 (p.2+j)) (g:=λj=>((p.1++[(sg.take (p.2+j)).drop p.2],p.2+j+w.length):Way)) (n:=stop+1-w.length-p.2) (j0:=e-p.2) (by exact WM h1 h2)
  (by refine J (show p.2+(e-p.2)=e by exact Mb h1) ?_;exact h3) (λj hj=>h4 _ (by exact Me) (by exact WJ hj))
 have ee:p.2+(e-p.2)=e:=by exact Mb h1
 rw[ee] at r1;refine(aj rest r1 (λq hq=>?_));refine ah (r2 q hq) λj j1 au=>?_;subst au;refine(?_:e+w.length<=p.2+j+w.length);exact WI j1
theorem qM{i' e':Nat}(hle:i<=i')(h:eE sg w stop i'=some e'):∃e,eE sg w stop i=some e/\e<=e':=by
 refine cT (mR h) λh1 h2 h3 h4=>?_;induction w using LC with
 |nil=>
  rw[nL,beq_iff_eq] at h3;simp at h2;exact(aj (i+1) (by unfold eE;simp only;exact J (if_pos (by exact WU hle h2 h3)) rfl) (by exact WN hle h3))
 |cons u r=>
  have hc:gB sg (u::r) i e'=true:=by refine rS (kW h2) ?_;rw[<-kW h2] at h3;exact h3
  induction q:eE sg (u::r) stop i with
  |none=>rw[qL q e' (by exact Mc hle h1) h2] at hc;exact iD hc
  |some e=>
   refine(aj e rfl ?_);refine cT (mR q) λ_ _ _ g4=>?_;apply Nat.le_of_not_lt;intro ja;rw[g4 e' (by exact Mc hle h1) ja] at hc;exact iD hc
noncomputable def CE(sg:LN)(stop:Nat):List LN->Nat->Option (List LN)
 |[],i=>some [(sg.take stop).drop i]
 |w::ws,i=>match eE sg w stop i with
  |some e=>(CE sg stop ws (e+w.length)).map ((sg.take e).drop i::·)
  |none=>none
theorem ua(l:LN)(stop:Nat):∀(ws:List LN) (i:Nat),fK l stop ws i=CE l stop ws i
 |[],_=>rfl
 |w::ws,i=>by
  induction w using LC with
  |nil=>
   unfold fK CE eE;simp only
   split
   ·refine J (ua l stop ws (i+1)) ?_;rfl
   ·rfl
  |cons u r=>
   unfold fK CE eE;simp only;induction gM l (u::r) i stop with
   |some k=>simp only[ua l stop ws]
   |none=>rfl
theorem lI(sg:LN)(stop:Nat):∀(mid:List LN) (ws:List Way),match ws with
  |[]=>mid.foldl (bT sg stop) ws=[]
  |p::rest=>(∀q∈rest,p.2<=q.2)->((mid.foldl (bT sg stop) ws).map λp=>p.1++[(sg.take stop).drop p.2]).head? =(CE sg stop mid p.2).map (p.1++·)
 |[],[]=>rfl
 |[],p::rest=>λ_=>rfl
 |w::mid,[]=>lI sg stop mid []
 |w::mid,p::rest=>λh=>by
  refine J foldl_cons ?_;have es:bT sg stop (p::rest) w=bH sg w p (stop+1-w.length-p.2)++bT sg stop rest w:=by unfold bT;exact J flatMap_cons rfl
  refine aA (jN (sg:=sg) (w:=w) (stop:=stop) (p:=p)) λf1 f2=>?_;refine J es ?_;induction q:eE sg w stop p.2 with
  |none=>
   have e2:bT sg stop rest w=[]:=by
    unfold bT;refine rI flatMap_eq_nil_iff ?_;intro r hr;refine(jN (p:=r)).1 ?_;induction q':eE sg w stop r.2 with
    |none=>rfl
    |some e'=>
     refine ah (qM (h r hr) q') λe a _=>?_;rw[q] at a;exact bL a
   refine J (f1 q) (J e2 ?_);have:=lI sg stop mid [];simp only at this;refine J (append_nil _) (J this ?_);unfold CE;refine J q ?_;rfl
  |some e=>
   refine ah (f2 e q) λrst r1 r2=>?_;refine J r1 (J cons_append ?_);have:=lI sg stop mid ((p.1++[(sg.take e).drop p.2],e+w.length)::(rst++bT sg stop rest w));simp only at this;rw[this λx hx=>?_]
   ·conv=>rhs;unfold CE
    refine J q ?_;exact(qq _ _ _).symm
   ·rcases mem_append.mp hx with hx|hx
    ·exact r2 x hx
    ·unfold bT at hx
     refine ah (mem_flatMap.mp hx) λr hr hx=>?_;induction q':eE sg w stop r.2 with
     |none=>rw[(jN (p:=r)).1 q'] at hx;exact km hx
     |some e'=>
      refine ah (qM (h r hr) q') λe2 a b=>?_;rw[q] at a;obtain rfl:=sI a;refine ah ((jN (p:=r)).2 e' q') λaao s1 s2=>?_;rw[s1] at hx;rcases mem_cons.mp hx with rfl|hx
      ·refine(?_:e+w.length<=e'+w.length);exact WH b
      ·have:=s2 x hx
       refine(?_:e+w.length<=x.2);exact WD b this
theorem gW(sg w0:LN)(mid:List LN)(wn:LN):(cX sg w0 mid wn).head? =if w0.length+wn.length<=sg.length/\sg.take w0.length=w0/\sg.drop (sg.length-wn.length)=wn then CE sg (sg.length-wn.length) mid w0.length else none:=by
 unfold cX
 split
 ·have:=lI sg (sg.length-wn.length) mid [([],w0.length)]
  simp only at this;have:=this λq hq=>by exact km hq
  unfold jo;refine J this ?_;induction CE sg (sg.length-wn.length) mid w0.length<;>simp
 ·rfl
theorem Dj(l w0:LN)(mid:List LN)(wn:LN):qW l w0 mid wn=(cX l w0 mid wn).head?:=by
 refine J (gW _ _ _ _) ?_;unfold qW
 split
 ·exact ua l _ mid _
 ·rfl
noncomputable def qY(u:Nat):List LN->List LN
 |[]=>[[u]]
 |t::ts=>(u::t)::ts
noncomputable def aL(kf:Nat->Option Nat):LN->Pc
 |[]=>([[]],[])
 |u::r=>match kf u with
  |some k=>([]::(aL kf r).1,k::(aL kf r).2)
  |none=>(qY u (aL kf r).1,(aL kf r).2)
section
variable {kf:Nat->Option Nat}
theorem ck{r:LN}(h:kf u=some k):aL kf (u::r)=([]::(aL kf r).1,k::(aL kf r).2):=by refine(?_:(match kf u with|some k=>([]::(aL kf r).1,k::(aL kf r).2)|none=>(qY u (aL kf r).1,(aL kf r).2):Pc)=_);exact J h rfl
theorem dH{r:LN}(h:kf u=none):aL kf (u::r)=(qY u (aL kf r).1,(aL kf r).2):=by refine(?_:(match kf u with|some k=>([]::(aL kf r).1,k::(aL kf r).2)|none=>(qY u (aL kf r).1,(aL kf r).2):Pc)=_);exact J h rfl
theorem kI(l:LN):(aL kf l).1.length=(aL kf l).2.length+1:=by
 induction l with
 |nil=>rfl
 |cons u r ih=>
  induction q:kf u with
  |some k=>refine J (ck q) ?_;exact Eq.symm ((λ{a b}=>Nat.succ_inj.mp) (congrArg Nat.succ (congrFun (congrArg HAdd.hAdd (id (Eq.symm ih))) 1)))
  |none=>
   refine J (dH q) ?_;induction h:(aL kf r).1 using LC with
   |nil=>rw[h] at ih;exact qp ih
   |cons t ts=>rw[h] at ih;exact ih
theorem jD(l:LN):(aL kf l).1≠[]:=λh=>by have:=kI (kf:=kf) l;rw[h] at this;exact qp this
theorem Ae(u:Nat):∀{a b:List LN},a≠[]->cg (qY u a) b=qY u (cg a b)
 |[],_,h=>absurd rfl h
 |[x],b,_=>by induction b using LC<;>rfl
 |x::y::r,b,_=>rfl
theorem CF{a b:List LN}(h:a≠[]):cg ([]::a) b=[]::cg a b:=by
 induction a using LC with
 |nil=>exact absurd rfl h
 |cons x r=>rfl
theorem eN(a b:LN):aL kf (a++b)=(cg (aL kf a).1 (aL kf b).1,(aL kf a).2++(aL kf b).2):=by
 induction a with
 |nil=>
  refine(?_:aL kf b=(cg [[]] (aL kf b).1,[]++(aL kf b).2));induction h:(aL kf b).1 using LC with
  |nil=>exact absurd h (jD b)
  |cons t ts=>refine J (nil_append _) ?_;refine(?_:aL kf b=(t::ts,(aL kf b).2));exact rS h rfl
 |cons u r ih=>
  refine J cons_append ?_;induction q:kf u with
  |some k=>exact J (ck q) (J (ck q) (J ih (J (CF (jD r)) (J cons_append rfl))))
  |none=>exact J (dH q) (J (dH q) (J ih (J (Ae u (jD r)) rfl)))
theorem Bw(l:LN):fA kf l=aL kf l:=by
 refine fZ (P:=λl=>fA kf l=aL kf l) rfl (λl u ih=>?_) l;refine J (lN _ _ _) (J ih (J (eN _ _) ?_));unfold lM;refine me (dR (jD (kf:=kf) l)) λa x e=>?_;induction h:kf u with
 |some k=>
  have e2:aL kf [u]=([[],[]],[k]):=by refine J (ck h) ?_;rfl
  refine J e2 (J e (J (df _ _ _ _) ?_));exact J (append_assoc _ _ _) (J cons_append (J (nil_append _) (J (append_nil _) (rfl))))
 |none=>
  have e2:aL kf [u]=([[u]],[]):=by refine J (dH h) ?_;rfl
  refine J e2 (J e (J (df _ _ _ _) (J (append_nil _) ?_)));unfold bR;simp
def m8(kf:Nat->Option Nat)(l:LN):Prop:=∀u∈l,kf u=none
theorem fE(h:m8 kf l):aL kf l=([l],[]):=by
 induction l with
 |nil=>rfl
 |cons u r ih=>
  refine J (dH (h u (.head _))) (J (ih λv hv=>h v (.tail _ hv)) ?_);rfl
noncomputable def gF(kf:Nat->Option Nat)(a:LN):Nat×Nat:=((aL kf a).2.length,(bR (aL kf a).1).length)
theorem jA:∀b:LN,m8 kf b∨∃t h r k,b=t++h::r/\m8 kf t/\kf h=some k
 |[]=>.inl λu hu=>by exact km hu
 |u::r=>by
  induction q:kf u with
  |some k=>exact .inr (mZ [] u r k rfl (λv hv=>by exact km hv) q)
  |none=>
   rcases jA r with h|⟨t,h,s,k,e,h1,h2⟩
   ·exact .inl λv hv=>(mem_cons.mp hv).elim (λe=>e▸q) (h v)
   ·exact .inr (mZ (u::t) h s k (by refine J e ?_;rfl) (λv hv=>(mem_cons.mp hv).elim (λe=>e▸q) (h1 v)) h2)
theorem lO{t r:LN}{h:Nat}(ht:m8 kf t)(hh:kf h=some k):aL kf (t++h::r)=(t::(aL kf r).1,k::(aL kf r).2):=by refine J (eN _ _) (J (fE ht) ?_);refine J (ck hh) ?_;refine(?_:(cg [t] ([]::(aL kf r).1),_)=_);simp[cg]
end
theorem vK(l y:LN)(lo hi:Nat):gM l y lo hi=((range (hi+1-lo)).find? λj=>cY l y hi (lo+j)).map (lo+·):=by unfold gM;refine J range'_eq_map_range (J find?_map ?_);rfl
theorem sG{l' y:LN}{hi nc:Nat}(hn:hi+1-lo=nc+1)(h:∀j,cY l y hi (lo+j)=cY l' y nc j):gM l y lo hi=(gM l' y 0 nc).map (lo+·):=by refine J (vK _ _ _ _) (J (vK _ _ _ _) (J (Nat.sub_zero _) (rS hn ?_)));simp only[h,Nat.zero_add];induction find? (λj=>cY l' y nc j) (range (hi+1-lo))<;>rfl
theorem E8(a b y:LN):gM (a++b) y a.length (a++b).length=(gM b y 0 b.length).map (a.length+·):=by refine sG (by refine J length_append (?_);exact WC) λj=>?_;unfold cY;rw[length_append,drop_length_add_append,decide_eq_decide.mpr (show a.length+j+y.length<=a.length+b.length↔j+y.length<=b.length by exact WB)]
noncomputable def gd(w b:LN):Option Nat:=match w with
 |[]=>if b=[] then none else some 1
 |_::_=>gM b w 0 b.length
theorem CR(h1:i<=stop)(h2:stop<=sg.length):eE sg w stop i=(gd w ((sg.take stop).drop i)).map (i+·):=by
 have hl:((sg.take stop).drop i).length=stop-i:=by refine J length_drop (J length_take ?_);exact Wz h2
 induction w using LC with
 |nil=>
  unfold eE gd;simp only
  by_cases q:i<stop
  ·rw[if_pos q,if_neg];· rfl
   intro e;rw[e] at hl;simp at hl;exact False.elim (Wy hl q)
  ·rw[if_neg q,if_pos];· rfl
   exact length_eq_zero_iff.mp (by exact Wt hl q)
 |cons u r=>
  refine(?_:gM sg (u::r) i stop=(gM _ _ 0 _).map _);refine sG (by exact Wi h1 hl) λj=>?_;unfold cY;refine J hl ?_
  by_cases q:i+j+(u::r).length<=stop
  ·exact J (decide_eq_true q) (J (decide_eq_true (show j+(u::r).length<=stop-i by exact We q)) (J drop_drop (J drop_take (J take_take (J (Nat.min_eq_left (by exact Wc q)) rfl)))))
  ·refine J (decide_eq_false q) (J (decide_eq_false (by exact Wb h1 q)) ?_);rfl
theorem oD{b:LN}{e:Nat}(h:gd w b=some e):e+w.length<=b.length/\(b.drop e).take w.length=w:=by
 induction w using LC with
 |nil=>
  unfold gd at h;simp only at h
  split at h
  ·exact bL h
  ·next q=>
   obtain rfl:=sI h;refine⟨?_,by dsimp⟩;induction b using LC with
   |nil=>exact absurd rfl q
   |cons u r=>simp
 |cons u r=>
  have h:gM b (u::r) 0 b.length=some e:=h;unfold gM at h;have:=find?_some h;unfold cY at this;rw[(Bool.and_eq_true _ _),decide_eq_true_eq,beq_iff_eq] at this;exact this
noncomputable def Ax:List LN->LN->Option (List LN)
 |[],b=>some [b]
 |w::ws,b=>match gd w b with
  |some e=>(Ax ws (b.drop (e+w.length))).map (b.take e::·)
  |none=>none
theorem yK(h2:stop<=sg.length):∀(ws:List LN) (i:Nat),i<=stop->CE sg stop ws i=Ax ws ((sg.take stop).drop i)
 |[],_,_=>rfl
 |w::ws,i,h1=>by
  unfold CE Ax;refine J (CR h1 h2) ?_;induction q:gd w ((sg.take stop).drop i) with
  |none=>rfl
  |some e=>
   have:=(oD q).1;rw[length_drop,length_take] at this;simp only[Option.map_some];exact J (yK h2 ws (i+e+w.length) (by exact Ww h1 this)) (J drop_drop (J take_drop (J take_take (J (Nat.min_eq_left (by exact Wo h1 this)) (J (Nat.add_assoc _ _ _) rfl)))))
section
variable {kf:Nat->Option Nat}
noncomputable def comb(s q:Nat×Nat):Nat×Nat:=(s.1+q.1,if q.1=0 then s.2+q.2 else q.2)
theorem fW(a:LN):∃A,(aL kf a).1=A++[bR (aL kf a).1]/\A.length=(aL kf a).2.length:=by
 refine me (dR (jD (kf:=kf) a)) λA x e=>?_;have:bR (aL kf a).1=x:=by refine J e ?_;unfold bR;simp
 refine(aj A (by refine J this ?_;exact e) ?_);have l:=kI (kf:=kf) a;rw[e] at l;simp at l;exact l
theorem eS(a:LN):∃x A,(aL kf a).1=x::A/\A.length=(aL kf a).2.length:=by
 induction h:(aL kf a).1 using LC with
 |nil=>exact absurd h (jD a)
 |cons x A=>
  have l:=kI (kf:=kf) a;rw[h] at l;simp at l;exact fN x A rfl l
theorem ei(A:List LN)(x:LN):bR (A++[x])=x:=by unfold bR;simp
theorem pK(a x:LN):gF kf (a++x)=comb (gF kf a) (gF kf x):=by
 refine ah (fW (kf:=kf) a) λA ea la=>?_;refine b0 (eS (kf:=kf) x) λO X ex lx=>?_;unfold gF comb;refine J (eN _ _) ?_;simp only[length_append,Prod.mk.injEq,true_and];refine J ex (J ea (J (df _ _ _ _) ?_));refine J (ei _ _) ?_
 by_cases q:(aL kf x).2.length=0
 ·refine J (if_pos q) ?_
  have:X=[]:=length_eq_zero_iff.mp (by exact Wu lx q);subst this;refine J (ei _ _) ?_;refine(?_:_=_+(bR [O]).length);refine J length_append ?_;rfl
 ·refine J (if_neg q) ?_
  obtain ⟨X',z,e⟩:=dR (u:=X) (by rintro rfl;simp at lx;exact False.elim (Wk q lx));subst e;exact J (show A++(bR (aL kf a).1++O)::(X'++[z])=(A++(bR (aL kf a).1++O)::X')++[z] by simp) (J (ei _ _) (J (show O::(X'++[z])=(O::X')++[z] from rfl) (J (ei _ _) rfl)))
noncomputable def kH(w:LN):List LN->Option (Nat×Nat)
 |[]=>none
 |t::ts=>match gM t w 0 t.length with
  |some k=>some (0,k)
  |none=>(kH w ts).map λq=>(q.1+1,q.2)
theorem tr(h:m8 kf l):gF kf l=(0,l.length):=by unfold gF;refine J (fE h) ?_;rfl
theorem Bh{t r:LN}{h:Nat}(ht:m8 kf t)(hh:kf h=some k):gF kf (t++h::r)=((gF kf r).1+1,(gF kf r).2):=by unfold gF;refine J (lO ht hh) ?_;simp only[length_cons,Prod.mk.injEq,true_and];refine ah (fW (kf:=kf) r) λA e _=>?_;exact J e (rS cons_append (J (ei _ _) (J (ei _ _) rfl)))
theorem lb{y:LN}:gM l y 0 l.length=some k↔cY l y l.length k=true/\∀j,j<k->cY l y l.length j=false:=by
 unfold gM;refine rI find?_range'_eq_some ?_;simp only[Nat.zero_le,Nat.zero_add,Nat.sub_zero,mem_range'_1,true_and,true_implies];constructor
 ·rintro ⟨a,b,c⟩
  exact⟨a,λj hj=>by simpa using c j hj⟩
 ·rintro ⟨a,b⟩
  refine(aN a ?_ (λj hj=>by simpa using b j hj));unfold cY at a;simp only[Bool.and_eq_true,decide_eq_true_eq] at a
  omega
theorem qI{y:LN}:gM l y 0 l.length=none↔∀j,cY l y l.length j=false:=by
 unfold gM;refine rI find?_range'_eq_none ?_;constructor
 ·intro h j
  by_cases q:j<l.length+1
  ·simpa using h j (by exact Wx) (by exact Wv q)
  ·unfold cY;refine J (decide_eq_false (by exact Wq q)) ?_;rfl
 ·intro h j _ _;simpa using h j
theorem jl{t r:LN}{h:Nat}(hw:h∉w)(gL:w≠[])(j:Nat):cY (t++h::r) w (t++h::r).length j=(cY t w t.length j||(decide (t.length+1<=j)&&cY r w r.length (j-(t.length+1)))):=by
 have wl:0<w.length:=by induction w using LC with
  |nil=>exact absurd rfl gL
  |cons=>simp
 by_cases q1:j+w.length<=t.length
 ·have e1:((t++h::r).drop j).take w.length=(t.drop j).take w.length:=by
   exact J (drop_append_of_le_length (by exact Wr q1)) (J (take_append_of_le_length (by rw[length_drop];exact Wl q1)) rfl)
  unfold cY;refine J e1 (J (decide_eq_true q1) (J (decide_eq_true (show j+w.length<=(t++h::r).length by simp;exact Wh q1)) (J (decide_eq_false (show¬t.length+1<=j by exact Wg q1)) ?_)));exact(Bool.or_false _).symm
 ·have f1:cY t w t.length j=false:=by unfold cY;refine J (decide_eq_false q1) ?_;rfl
  refine J f1 (J (Bool.false_or _) ?_)
  by_cases q2:t.length+1<=j
  ·refine J (decide_eq_true q2) (J (Bool.true_and _) ?_)
   have ea:t++h::r=(t++[h])++r:=by simp
   have la:(t++[h]).length=t.length+1:=by exact length_append
   have:(t++h::r).drop j=r.drop (j-(t.length+1)):=by rw[ea,show j=(t++[h]).length+(j-(t.length+1)) by refine J la ?_;exact V9 q2,drop_length_add_append,la];congr 1;exact V8
   unfold cY;rw[this,decide_eq_decide.mpr (show j+w.length<=(t++h::r).length↔j-(t.length+1)+w.length<=r.length by refine J length_append (J length_cons (?_));exact V7 q2)]
  ·refine J (decide_eq_false q2) (J (Bool.false_and _) ?_)
   unfold cY;apply Bool.eq_false_iff.mpr;intro e;rw[(Bool.and_eq_true _ _),decide_eq_true_eq,beq_iff_eq] at e;apply hw;refine rS e.2 ?_;have:(t++h::r)[t.length]? =some h:=by simp
   refine mem_iff_getElem?.mpr ⟨t.length-j,?_⟩;exact J (getElem?_take_of_lt (by exact V6 q1 q2)) (J getElem?_drop (J (show j+(t.length-j)=t.length by exact V5 q2) (J this rfl)))
theorem Ah{t r:LN}{h:Nat}(hw:h∉w)(gL:w≠[]):gM (t++h::r) w 0 (t++h::r).length=match gM t w 0 t.length with
  |some k=>some k
  |none=>(gM r w 0 r.length).map (t.length+1+·):=by
 have wl:0<w.length:=by induction w using LC with
  |nil=>exact absurd rfl gL
  |cons=>simp
 induction q:gM t w 0 t.length with
 |some k=>
  refine aA (lb.mp q) λa b=>?_;have ka:k+w.length<=t.length:=by unfold cY at a;simp only[Bool.and_eq_true,decide_eq_true_eq] at a;exact a.1
  refine lb.mpr ⟨by refine J (jl hw gL _) (J a ?_);rfl,λj hj=>?_⟩;refine J (jl hw gL _) (J (b j hj) (J (decide_eq_false (by exact Wm ka hj)) ?_));rfl
 |none=>
  have a:=qI.mp q;refine(?_:_=(gM r w 0 r.length).map (t.length+1+·));induction q2:gM r w 0 r.length with
  |some k=>
   refine aA (lb.mp q2) λb d=>?_;refine(lb (k:=t.length+1+k)).mpr ⟨?_,λj hj=>?_⟩
   ·refine J (jl hw gL _) (J (a _) (J (decide_eq_true (by exact Wj)) (J (Nat.add_sub_cancel_left _ _) (J b ?_))));rfl
   ·refine J (jl hw gL _) (J (a _) ?_)
    by_cases z:t.length+1<=j
    ·refine J (d _ (by exact Wf hj z)) ?_;exact Bool.and_false _
    ·refine J (decide_eq_false z) ?_;rfl
  |none=>
   have b:=qI.mp q2;refine qI.mpr λj=>?_;refine J (jl hw gL _) (J (a _) (J (b _) ?_));exact Bool.and_false _
theorem zz(hw:m8 kf w)(gL:w≠[]):∀(n:Nat) (b:LN),b.length<=n->kH w (aL kf b).1=(gM b w 0 b.length).map λe=>gF kf (b.take e):=by
 intro n;induction n with
 |zero=>
  intro b hb;have:b=[]:=length_eq_zero_iff.mp (by exact Wn hb);subst this;refine(?_:kH w [[]]=_);unfold kH;induction q:gM [] w 0 ([]:LN).length with
  |some k=>
   have:=xo q;simp at this;exact absurd this.2 gL
  |none=>rfl
 |succ n ih=>
  intro b hb;rcases jA (kf:=kf) b with h|⟨t,h,r,k,e,h1,h2⟩
  ·refine J (fE h) ?_
   unfold kH;induction q:gM b w 0 b.length with
   |some k=>
    have:m8 kf (b.take k):=λu hu=>h u (mem_of_mem_take hu);have le:=xo q;refine(?_:_=some (gF kf (b.take k)));exact J (tr this) (J length_take (J (Nat.min_eq_left (by exact Ig le)) rfl))
   |none=>rfl
  ·subst e
   have hhw:h∉w:=λm=>by have:=hw h m;rw[h2] at this;exact fB this
   refine J (lO h1 h2) (J (Ah hhw gL) ?_);unfold kH;induction q:gM t w 0 t.length with
   |some j=>
    have le:=xo q;have:m8 kf (t.take j):=λu hu=>h1 u (mem_of_mem_take hu);refine(?_:_=some (gF kf ((t++h::r).take j)));exact J (take_append_of_le_length (by exact Ig le)) (J (tr this) (J length_take (J (Nat.min_eq_left (by exact Ig le)) rfl)))
   |none=>
    simp only;refine J (ih r (by simp at hb;exact Wa hb)) (J (Option.map_map _ _ _) (J (Option.map_map _ _ _) ?_))
    congr 1
    funext e
    simp only[Function.comp];exact J (show t.length+1+e=t.length+(e+1) by exact Ma) (J (take_length_add_append _) (J take_succ_cons (J (Bh h1 h2) rfl)))
end
section
variable {kf:Nat->Option Nat}
theorem kY(A:List LN)(x:LN)(B:List LN):(A++x::B).getD A.length []=x:=by refine J getD_eq_getElem?_getD (J (getElem?_append_right (Nat.le_refl _)) (J (Nat.sub_self _) ?_));rfl
theorem jc{s:Nat}(h:bR ts=tl)(hs:s<ts.length):cM ts tl s=ts.getD s []:=by
 unfold cM
 split
 ·next q=>
  refine rS h ?_;unfold bR;exact J getLast?_eq_getElem? (J getD_eq_getElem?_getD (J (show s=ts.length-1 by exact V4 q) rfl))
 ·rfl
theorem n9{a x d:LN}(e:aL kf (a++x++d)=(ts,ks))(ht:bR ts=tl):gw ts ks tl (gF kf a).1 (gF kf a).2 (gF kf (a++x)).1 (gF kf (a++x)).2=aL kf x:=by
 refine ah (fW (kf:=kf) a) λA ea la=>?_;refine b0 (eS (kf:=kf) d) λd0 D ed ld=>?_;refine b0 (eS (kf:=kf) x) λO X ex lx=>?_;rw[append_assoc,eN,eN,ed] at e;have e1:=congrArg Prod.fst e;have e2:=congrArg Prod.snd e;simp only at e1 e2;have s1:(gF kf a).1=A.length:=la.symm;have s2:(gF kf a).2=(bR (aL kf a).1).length:=rfl;refine J (pK _ _) ?_;unfold comb;generalize hla:bR (aL kf a).1=z at*
 by_cases q:X=[]
 ·subst q
  have kx:(aL kf x).2=[]:=length_eq_zero_iff.mp (by refine rS lx ?_;rfl);have sx:gF kf x=(0,O.length):=by unfold gF;refine J kx (J ex ?_);rfl
  rw[ex,ea] at e1;have e1:cg (A++[z]) ((O++d0)::D)=ts:=e1;rw[df] at e1;refine J sx (J s1 (J s2 ?_));simp only[Nat.add_zero,if_true];unfold gw;rw[if_pos rfl,jc ht (by refine rS e1 ?_;simp),<-e1,kY];refine rS (append_assoc _ _ _) (J (take_append_of_le_length (by simp)) (J (take_of_length_le (by simp)) (J drop_left ?_)));refine(?_:([O],[])=((aL kf x).1,(aL kf x).2));exact J ex (J kx rfl)
 ·refine me (dR (u:=X) q) λM y eM=>?_
  subst eM;have lk:(aL kf x).2.length=M.length+1:=by refine rS lx ?_;exact length_append
  have sx:gF kf x=(M.length+1,y.length):=by unfold gF;exact J lk (J ex (J (show O::(M++[y])=(O::M)++[y] from rfl) (J (ei _ _) rfl)))
  rw[ex,ea,show O::(M++[y])=(O::M)++[y] from rfl,df,show (O::M)++(y++d0)::D=O::(M++(y++d0)::D) from rfl,df] at e1;refine J sx (J s1 (J s2 ?_));simp only[Nat.add_eq_zero_iff,Nat.one_ne_zero,and_false,if_false];unfold gw;rw[if_neg (by exact V2),jc ht (by refine rS e1 ?_;simp)];have g1:ts.getD A.length []=z++O:=by exact rS e1 (J (kY _ _ _) rfl)
  have eB:A++(z++O)::(M++(y++d0)::D)=(A++(z++O)::M)++(y++d0)::D:=by simp
  have lB:A.length+(M.length+1)=(A++(z++O)::M).length:=by simp
  have g2:ts.getD (A.length+(M.length+1)) []=y++d0:=by exact rS e1 (J eB (J lB (J (kY _ _ _) rfl)))
  have g3:(ts.take (A.length+(M.length+1))).drop (A.length+1)=M:=by exact rS e1 (J eB (J lB (J take_left (J (show A++(z++O)::M=(A++[z++O])++M by simp) (J (show A.length+1=(A++[z++O]).length by simp) (J drop_left rfl))))))
  have g4:(ks.take (A.length+(M.length+1))).drop A.length=(aL kf x).2:=by exact rS e2 (J la (rS lk (rS (append_assoc _ _ _) (rS length_append (J take_left (J drop_left rfl))))))
  refine J g1 (J g2 (J g3 (J g4 (J drop_left (J take_left ?_)))));refine(?_:_=((aL kf x).1,(aL kf x).2));exact J ex rfl
theorem qg(w t:LN)(ts:List LN):kH w (t::ts)=match gM t w 0 t.length with
  |some k=>some (0,k)
  |none=>(kH w ts).map λq=>(q.1+1,q.2):=rfl
theorem yc(h:bR ts=tl):∀(n s:Nat),n+s=ts.length->mq ts tl w n s=(kH w (ts.drop s)).map λq=>(s+q.1,q.2)
 |0,s,hn=>by refine J (drop_of_length_le (by exact V3 hn)) ?_;rfl
 |n+1,s,hn=>by
  refine J (fV _ _ _ _ _) (J (jc h (by exact Oz hn)) (J getD_eq_getElem?_getD (J (drop_eq_getElem_cons (by exact Oz hn)) (J (getElem?_eq_getElem (by exact Oz hn)) (J Option.getD_some (J (yc h n (s+1) (by exact LZ hn)) ?_))))));refine J (qg _ _ _) ?_;induction gM ts[s] w 0 ts[s].length with
  |some k=>rfl
  |none=>
   simp only;refine J (Option.map_map _ _ _) ?_;induction kH w (ts.drop (s+1)) with
   |none=>rfl
   |some q=>simp only[Option.map_some,Function.comp];congr 2;exact Ma
theorem zA{a b:LN}(e:aL kf (a++b)=(ts,ks))(ht:bR ts=tl)(hw:m8 kf w)(gL:w≠[]):iH ts tl w (gF kf a).1 (gF kf a).2=(gM b w 0 b.length).map λe=>gF kf (a++b.take e):=by
 refine ah (fW (kf:=kf) a) λA ea la=>?_;refine b0 (eS (kf:=kf) b) λd0 D ed ld=>?_;rw[eN,ed] at e;have e1:=congrArg Prod.fst e;simp only at e1;have s1:(gF kf a).1=A.length:=la.symm;have s2:(gF kf a).2=(bR (aL kf a).1).length:=rfl;have sf:=zz hw gL _ b (Nat.le_refl _);simp only[pK];generalize gF kf a=S at*;refine J (show (λe=>comb S (gF kf (b.take e)))=comb S∘λe=>gF kf (b.take e) from rfl) (rS (Option.map_map _ _ _) (rS sf (J ed ?_)));generalize hla:bR (aL kf a).1=z at*;rw[ea,df] at e1;unfold iH;rw[s1,s2,jc ht (by refine rS e1 ?_;simp),<-e1,kY,E8,e1,yc ht _ _ (by refine rS e1 ?_;simp)];have:ts.drop (A.length+1)=D:=by exact rS e1 (J (show A++(z++d0)::D=(A++[z++d0])++D by simp) (J (show A.length+1=(A++[z++d0]).length by simp) (J drop_left rfl)))
 refine J this (J (qg _ _ _) ?_);unfold comb;refine J s1 (J s2 ?_);induction gM d0 w 0 d0.length with
 |some k=>rfl
 |none=>
  simp only[Option.map_none,Option.map_map];induction kH w D with
  |none=>rfl
  |some q=>simp[Nat.add_assoc,Nat.add_comm 1]
theorem Bb{a b:LN}{iB:List Pc}(e:aL kf (a++b)=(ts,ks))(ht:bR ts=tl)(hw:m8 kf w):kF ts ks tl w ((gF kf a).1,(gF kf a).2,iB)=(gd w b).map λe=>((gF kf (a++b.take (e+w.length))).1,(gF kf (a++b.take (e+w.length))).2,iB++[aL kf (b.take e)]):=by
 induction w using LC with
 |nil=>
  refine(?_:gI _ _ _ _=_);unfold gI;refine ah (fW (kf:=kf) a) λA ea la=>?_;refine b0 (eS (kf:=kf) b) λd0 D ed ld=>?_;have s1:(gF kf a).1=A.length:=la.symm;have s2:(gF kf a).2=(bR (aL kf a).1).length:=rfl;have e':=e;rw[eN,ed,ea,df] at e';have e1:=congrArg Prod.fst e';simp only at e1;have tx:cM ts tl (gF kf a).1=bR (aL kf a).1++d0:=by rw[s1,jc ht (by refine rS e1 ?_;simp),<-e1,kY]
  dsimp only;refine J tx (rS e1 ?_);simp only[length_append,length_cons,s2,s1];induction b using LC with
  |nil=>
   have:d0=[]/\D=[]:=by have:aL kf []=([[]],[]):=rfl;rw[this] at ed;cases ed;exact⟨rfl,rfl⟩
   refine J this.1 (J this.2 (J (if_neg (by simp)) (J (if_neg (by exact(Nat.lt_irrefl _))) ?_)));rfl
  |cons u r=>
   have fb:gd [] (u::r)=some 1:=by unfold gd;dsimp
   refine J fb ?_;have st:gF kf (a++[u])=comb (gF kf a) (gF kf [u]):=pK a [u];have tk:=n9 (kf:=kf) (a:=a) (x:=[u]) (d:=r) (ts:=ts) (ks:=ks) (tl:=tl) (by refine rS e ?_;simp) ht;rw[s1,s2] at tk;refine J e1 ?_;refine(?_:_=some ((gF kf (a++[u])).1,(gF kf (a++[u])).2,iB++[aL kf [u]]));induction q:kf u with
   |some k=>
    have ru:gF kf [u]=(1,0):=by unfold gF;refine J (ck q) ?_;rfl
    have:d0=[]/\D.length≠0:=by rw[ck q] at ed ld;cases ed;exact⟨rfl,by refine J ld ?_;exact Ne.symm (Nat.zero_ne_add_one (aL kf r).snd.length)⟩
    rw[st,ru] at tk ⊢;unfold comb at tk ⊢;simp only[s1,s2,Nat.one_ne_zero,if_false] at tk ⊢;exact J this.1 (J (if_neg (by simp)) (J (if_pos (by omega)) (J tk rfl)))
   |none=>
    have ru:gF kf [u]=(0,1):=by unfold gF;refine J (dH q) ?_;rfl
    have:0<d0.length:=by rw[dH q] at ed;have ed:qY u (aL kf r).1=d0::D:=ed;refine b0 (eS (kf:=kf) r) λx X ex _=>?_;rw[ex] at ed;cases ed;simp
    rw[st,ru] at tk ⊢;unfold comb at tk ⊢;simp only[s1,s2,if_true,Nat.add_zero] at tk ⊢;exact J (if_pos (by exact V1 this)) (J tk rfl)
 |cons u r=>
  refine(?_:toK _ _ _ _ _=_);unfold toK;simp only;refine J (zA e ht hw (by exact cons_ne_nil u r)) ?_;refine(?_:_=(gM b (u::r) 0 b.length).map _);induction q:gM b (u::r) 0 b.length with
  |none=>rfl
  |some k=>
   simp only[Option.map_some];have hb:=oD (w:=u::r) (b:=b) (e:=k) q;have tk:=n9 (kf:=kf) (a:=a) (x:=b.take k) (d:=b.drop k) (ts:=ts) (ks:=ks) (tl:=tl) (by exact rS e (J (append_assoc _ _ _) (J (take_append_drop _ _) rfl))) ht;refine J tk ?_;have:b.take (k+(u::r).length)=b.take k++(u::r):=by exact J take_add (J hb.2 rfl)
   refine J this (rS (append_assoc _ _ _) (J (pK (a++b.take k) _) (J (tr hw) ?_)));unfold comb
   rfl
theorem ye(ht:bR ts=tl):∀(ws:List LN) (a b:LN) (iB:List Pc),aL kf (a++b)=(ts,ks)->(∀w∈ws,m8 kf w)->
  (runK ts ks tl ws ((gF kf a).1,(gF kf a).2,iB)).map (λs=>s.2.2++[gw ts ks tl s.1 s.2.1 (ts.length-1) tl.length])=(Ax ws b).map λl=>iB++l.map (aL kf)
 |[],a,b,iB,e,hw=>by
  unfold runK Ax;simp only[Option.map_some];have tk:=n9 (kf:=kf) (a:=a) (x:=b) (d:=[]) (ts:=ts) (ks:=ks) (tl:=tl) (by refine rS e ?_;exact J (append_nil _) (rfl)) ht
  have:gF kf (a++b)=(ts.length-1,tl.length):=by unfold gF;have l:=kI (kf:=kf) (a++b);rw[e] at l ⊢;simp only at l ⊢;exact J ht (J l (J (Nat.add_sub_cancel _ _) rfl))
  rw[this] at tk;refine J tk ?_;rfl
 |w::ws,a,b,iB,e,hw=>by
  unfold runK Ax;refine J (Bb e ht (hw w (.head _))) ?_;induction q:gd w b with
  |none=>rfl
  |some k=>
   simp only[Option.map_some];have hb:=oD q;have:=ye ht ws (a++b.take (k+w.length)) (b.drop (k+w.length)) (iB++[aL kf (b.take k)]) (by refine J (append_assoc _ _ _) (J (take_append_drop _ _) ?_);exact e) λv hv=>hw v (.tail _ hv);refine J this (J (Option.map_map _ _ _) ?_);induction Ax ws (b.drop (k+w.length))<;>simp
end
section
variable {T:List LN} {z v:LN}
theorem lK(s:Nat):cM (T++[v]) z s=cM (T++[z]) z s:=by
 unfold cM;refine J (show (T++[v]).length=(T++[z]).length by simp) ?_
 split
 ·rfl
 ·next q=>
  refine J getD_eq_getElem?_getD (J getD_eq_getElem?_getD ?_)
  by_cases h:s<T.length
  ·exact J (getElem?_append_left h) (J (getElem?_append_left h) rfl)
  ·exact J (getElem?_eq_none (by simp at q ⊢;exact LV h q)) (J (getElem?_eq_none (by simp at q ⊢;exact LV h q)) rfl)
theorem nh{a p b q:Nat}(h:a<=b)(hb:b<T.length+1):gw (T++[v]) ks z a p b q=gw (T++[z]) ks z a p b q:=by
 unfold gw;refine J (lK _) ?_
 split
 ·rfl
 ·exact J getD_eq_getElem?_getD (J getD_eq_getElem?_getD (J (getElem?_append_left (by exact LY h hb (by assumption))) (J (getElem?_append_left (by exact LY h hb (by assumption))) (J (take_append_of_le_length (by exact Ie hb)) (J (take_append_of_le_length (by exact Ie hb)) rfl)))))
theorem uS(w:LN):∀(n s:Nat),mq (T++[v]) z w n s=mq (T++[z]) z w n s
 |0,_=>rfl
 |n+1,s=>by exact J (fV _ _ _ _ _) (J (fV _ _ _ _ _) (J (lK _) (J (uS w n _) rfl)))
theorem Bo(w:LN)(s p:Nat):iH (T++[v]) z w s p=iH (T++[z]) z w s p:=by unfold iH;exact J (lK _) (J (uS _ _ _) (J (show (T++[v]).length=(T++[z]).length by simp) rfl))
theorem uT:∀(n s:Nat) (q:Nat×Nat),mq ts tl w n s=some q->s<=q.1
 |0,_,_,h=>by exact bL h
 |n+1,s,q,h=>by
  rw[fV] at h
  split at h
  ·obtain rfl:=sI h;exact Nat.le_refl _
  ·have:=uT n (s+1) q h;exact Ih this
theorem Ep{s p:Nat}{q:Nat×Nat}(hs:s<ts.length)(h:iH ts tl w s p=some q):s<=q.1/\q.1<ts.length:=by
 unfold iH at h
 split at h
 ·obtain rfl:=sI h;exact⟨Nat.le_refl _,hs⟩
 ·have a:=uT _ _ _ h
  have b:=qf _ _ _ _ _ _ (by exact LX hs) h;exact⟨by exact Ih a,b⟩
theorem Be(w:LN)(s:CS)(hs:s.1<T.length+1):kF (T++[v]) ks z w s=kF (T++[z]) ks z w s:=by
 induction w using LC with
 |nil=>
  refine(?_:gI _ _ _ _=gI _ _ _ _);unfold gI;refine J (lK _) (J (nh (Nat.le_refl _) hs) (J (show (T++[v]).length=(T++[z]).length by simp) ?_))
  split
  ·rfl
  ·split
   ·next h=>exact J (nh (by exact Mf) (by simp at h;exact VY h)) rfl
   ·rfl
 |cons u r=>
  refine(?_:toK _ _ _ _ _=toK _ _ _ _ _);unfold toK;refine J (Bo _ _ _) ?_;induction h:iH (T++[z]) z (u::r) s.1 s.2.1 with
  |none=>rfl
  |some q=>
   obtain ⟨a,b⟩:=Ep (by simpa using hs) h;simp only;exact J (nh a (by simpa using b)) rfl
theorem yf:∀(ws:List LN) (s:CS),s.1<T.length+1->(runK (T++[v]) ks z ws s=runK (T++[z]) ks z ws s)/\∀s',runK (T++[z]) ks z ws s=some s'->s'.1<T.length+1
 |[],s,h=>⟨rfl,λs' e=>by obtain rfl:=sI e;exact h⟩
 |w::ws,s,h=>by
  unfold runK;refine J (Be w s h) ?_;induction q:kF (T++[z]) ks z w s with
  |none=>exact⟨rfl,λs' e=>by exact bL e⟩
  |some s1=>
   have:=(xW q (by simpa using h)).1;exact yf ws s1 (by simpa using this)
end
section
variable {kf:Nat->Option Nat}
theorem uN:∀b:LN,m8 kf b∨∃t h r k,b=r++h::t/\m8 kf t/\kf h=some k:=λb=>by
 rcases jA (kf:=kf) b.reverse with h|⟨t,h,r,k,e,h1,h2⟩
 ·exact .inl λu hu=>h u (mem_reverse.mpr hu)
 ·refine .inr (mZ t.reverse h r.reverse k ?_ (λu hu=>h1 u (mem_reverse.mp hu)) h2)
  have:=congrArg reverse e;simpa using this
theorem wW{t r:LN}{h:Nat}(ht:m8 kf t)(hh:kf h=some k):aL kf (r++h::t)=((aL kf r).1++[t],(aL kf r).2++[k]):=by
 refine ah (fW (kf:=kf) r) λA ea la=>?_;refine J (eN _ _) (J (ck hh) (J (fE ht) ?_));simp only
 conv=>lhs;rw[ea]
 refine J (df _ _ _ _) (J (append_nil _) ?_)
 conv=>rhs;rw[ea]
 simp
theorem uG{t r:LN}{h:Nat}(hh:kf h=some k)(hw:m8 kf w):(t++h::r).take w.length=w↔t.take w.length=w:=by
 constructor
 ·intro e
  by_cases q:w.length<=t.length
  ·rw[take_append_of_le_length q] at e;exact e
  ·exfalso
   have:(t++h::r)[t.length]? =some h:=by simp
   have m:h∈w:=by refine rS e ?_;refine mem_iff_getElem?.mpr ⟨t.length,?_⟩;exact J (getElem?_take_of_lt (by exact VZ q)) (J this rfl)
   have:=hw h m;rw[hh] at this;exact fB this
 ·intro e
  have:w.length<=t.length:=by have:=congrArg length e;rw[length_take] at this;exact PK this
  refine J (take_append_of_le_length this) ?_;exact e
theorem vO:(w.length<=l.length/\l.drop (l.length-w.length)=w)↔l.reverse.take w.reverse.length=w.reverse:=by
 refine J length_reverse (J take_reverse (rI reverse_inj ?_));constructor
 ·exact λh=>h.2
 ·intro e
  refine⟨?_,e⟩;have:=congrArg length e;rw[length_drop] at this;exact V0 this
theorem De{t r:LN}{h:Nat}(hh:kf h=some k)(hw:m8 kf w):(w.length<=(r++h::t).length/\(r++h::t).drop ((r++h::t).length-w.length)=w)↔(w.length<=t.length/\t.drop (t.length-w.length)=w):=by
 refine rI vO (rI vO ?_);have:(r++h::t).reverse=t.reverse++h::r.reverse:=by simp
 refine J this ?_;exact uG hh λu hu=>hw u (mem_reverse.mp hu)
theorem sH(h0:m8 kf w0)(hn:m8 kf wn):lp (aL kf sg).1 w0 wn=true↔w0.length+wn.length<=sg.length/\sg.take w0.length=w0/\sg.drop (sg.length-wn.length)=wn:=by
 unfold lp;simp only[Bool.and_eq_true,Bool.not_eq_true',Bool.and_eq_false_iff,beq_iff_eq,beq_eq_false_iff_ne,decide_eq_false_iff_not,decide_eq_true_eq];rcases jA (kf:=kf) sg with h|⟨t,h,r,k,e,h1,h2⟩
 ·refine J (fE h) ?_
  refine(?_:(([sg]:List LN).length≠1∨¬(sg.length<w0.length+wn.length))/\sg.take w0.length=w0/\wn.length<=sg.length/\sg.drop (sg.length-wn.length)=wn↔_);simp only[length_cons,length_nil,Nat.zero_add,ne_eq,not_true_eq_false,false_or];constructor
  ·exact λzf=>cT zf λa b c d=>(aN (by omega) b d)
  ·exact λzf=>bt zf λa b d=>(cj (by omega) b (by omega) d)
 ·rcases uN (kf:=kf) sg with h'|⟨t',g,r',k',e',h1',h2'⟩
  ·have:=h' h (by refine J e ?_;exact mem_append_cons_self)
   rw[h2] at this;exact fB this
  ·have hl:bR (aL kf sg).1=t':=by exact J e' (J (wW h1' h2') (J (ei _ _) rfl))
   have hh:(aL kf sg).1.headD []=t:=by refine J e (J (lO h1 h2) ?_);rfl
   have hz:(aL kf sg).1.length≠1:=by refine J e (J (lO h1 h2) ?_);intro q;exact jD (kf:=kf) r (length_eq_zero_iff.mp (by simpa using q))
   refine J hl (J hh ?_);have i1:sg.take w0.length=w0↔t.take w0.length=w0:=by refine J e ?_;exact uG h2 h0
   have i2:(wn.length<=sg.length/\sg.drop (sg.length-wn.length)=wn)↔(wn.length<=t'.length/\t'.drop (t'.length-wn.length)=wn):=by refine J e' ?_;exact De h2' hn
   constructor
   ·intro ⟨_,b,d⟩
    have d':=i2.mpr d;refine(aN ?_ (i1.mpr b) d'.2);have lt:w0.length<=t.length:=by have:=congrArg length b;rw[length_take] at this;exact PK this
    have ls:t.length+1+t'.length<=sg.length:=by
     apply Nat.le_of_not_lt;intro q;have a1:sg[t.length]? =some h:=by refine J e ?_;simp
     have a2:sg.length=r'.length+1+t'.length:=by refine J e' ?_;refine J length_append (J length_cons (?_));exact VW
     have a3:h∈t':=by refine mem_iff_getElem?.mpr ⟨t.length-(r'.length+1),?_⟩;refine rS a1 (J e' (J (show r'++g::t'=(r'++[g])++t' by simp) (J (getElem?_append_right (by simp;exact VV q a2)) ?_)));simp
     have:=h1' h a3;rw[h2] at this;exact fB this
    omega
   ·intro ⟨a,b,d⟩
    exact⟨.inl hz,i1.mp b,i2.mp ⟨by exact VT a,d⟩⟩
theorem qT{mid:List LN}(h0:m8 kf w0)(hm:∀w∈mid,m8 kf w)(hn:m8 kf wn):qU (aL kf sg).1 (aL kf sg).2 w0 mid wn=(cX sg w0 mid wn).head?.map λl=>l.map (aL kf):=by
 refine J (gW _ _ _ _) ?_;unfold qU
 by_cases q:w0.length+wn.length<=sg.length/\sg.take w0.length=w0/\sg.drop (sg.length-wn.length)=wn
 ·refine J (if_pos q) (J ((sH h0 hn).mpr q) ?_)
  refine bt q λq1 q2 q3=>?_;clear q
  have es:sg=sg.take (sg.length-wn.length)++wn:=by conv=>lhs;rw[<-take_append_drop (sg.length-wn.length) sg,q3]
  refine J (yK (by exact Ii) _ _ (by exact LU q1)) ?_;generalize hs:sg.take (sg.length-wn.length)=sp at*;have lsp:sp.length=sg.length-wn.length:=by refine rS hs (J length_take ?_);exact VX
  have e0:sp=w0++sp.drop w0.length:=by
   have:sp.take w0.length=w0:=by refine rS hs (J take_take (J (Nat.min_eq_left (by exact LU q1)) ?_));exact q2
   conv=>lhs;rw[<-take_append_drop w0.length sp,this]
  refine ah (fW (kf:=kf) sp) λA ea la=>?_;generalize hz:bR (aL kf sp).1=z at*
  have er:aL kf sg=(A++[z++wn],(aL kf sp).2):=by exact J es (J (eN _ _) (J (fE hn) (J ea (J (df _ _ _ _) (J (append_nil _) rfl)))))
  refine J er (J (ei _ _) ?_);have ez:(z++wn).take ((z++wn).length-wn.length)=z:=by simp
  simp only[ez];have rr:=ye (kf:=kf) (ts:=A++[z]) (ks:=(aL kf sp).2) (tl:=z) (ei _ _) mid w0 (sp.drop w0.length) [] (by exact rS e0 (rS ea rfl)) hm;rw[tr h0] at rr;simp only[nil_append] at rr;obtain ⟨r1,r2⟩:=yf (T:=A) (z:=z) (v:=z++wn) (ks:=(aL kf sp).2) mid (0,w0.length,[]) (by simp);refine J r1 (rS rr ?_);induction hr:runK (A++[z]) (aL kf sp).2 z mid (0,w0.length,[]) with
  |none=>rfl
  |some s=>
   have:=r2 s hr;simp only[Option.map_some,length_append,length_cons,length_nil,Nat.zero_add,Nat.add_sub_cancel];exact J (nh (by exact Ie this) (by exact VU)) rfl
 ·refine J (if_neg q) ?_
  have:lp (aL kf sg).1 w0 wn=false:=by refine rS (Bool.not_eq_true _) ?_;exact λe=>q ((sH h0 hn).mp e)
  refine J this ?_;rfl
end
noncomputable def xY(k:Nat):List LN:=((mB.find? λp=>p.1==k).map (·.2)).getD []
def fj(k:Nat):Prop:=∃ws,(k,ws)∈mB
noncomputable def CT(p:Pc):Bool:=(p.1.length==p.2.length+1)&&p.1.all (λt=>t.all λu=>!(u==83||u==78||u==84||u==85))&&p.2.all λk=>k==6||k==7||k==16||k==17
theorem Fc{p:Pc}(h:CT p=true):oE p:=by
 unfold CT at h;simp only[Bool.and_eq_true,beq_iff_eq,all_eq_true,Bool.or_eq_true,Bool.not_eq_true',Bool.or_eq_false_iff,beq_eq_false_iff_ne] at h;refine DM h λh1 h2 h3=>?_;clear h;refine⟨h1,λt ht u hu=>?_,λk hk=>?_⟩
 ·refine iA (h2 t ht u hu) λa b d e=>?_
  exact cj a b d e
 ·have:=h3 k hk
  unfold rF;exact VS this
theorem p8(h:fj k):k=6∨k=7∨k=16∨k=17∨k=20∨k=23∨k=24∨k=27:=by refine bK h λws h=>?_;have q:k∈[6,7,16,17,20,23,24,27]:=mem_map_of_mem (f:=(·.1)) h;simpa only[mem_cons,not_mem_nil,or_false] using q
theorem ym:aF aI 6=[6]/\aF aI 7=[7]/\aF aI 16=[16]/\aF aI 17=[17]/\aF aI 20=[18,19]/\aF aI 23=[21,22]/\aF aI 24=[24]/\aF aI 27=[25,26]:=by decide
theorem u5:bQ aI 6=([[],[]],[6])/\bQ aI 7=([[],[]],[7])/\bQ aI 16=([[],[]],[16])/\bQ aI 17=([[],[]],[17])/\bQ aI 18=([[97]],[])/\bQ aI 19=([[49]],[])/\
  bQ aI 21=([[48]],[])/\bQ aI 22=([[98]],[])/\bQ aI 24=([[45],[]],[7])/\bQ aI 25=([[]],[])/\bQ aI 26=([[97,98]],[]):=by
 refine(d4 rfl rfl rfl rfl rfl rfl ?_ rfl rfl rfl rfl);refine(?_:([shown ((0:Nat):Int)],[])=_);refine J (je _) ?_;rfl
theorem kP{ps:LN}(e:aI[k]? =some r)(hp:aF aI k=ps)(h1:1<=ps.length)(h2:ps.length<=2)(h:∀p∈ps,OC aI p/\∃q,bQ aI p=q/\CT q=true/\q.1≠[]/\wt q.1<=10/\q.2.length<=1):EE aI k:=by
 refine⟨⟨⟨r,e⟩,by refine J hp ?_;exact h1,by refine J hp ?_;exact h2,λp DQ=>?_⟩,λp DQ=>?_⟩
 ·rw[hp] at DQ
  refine sR (h p DQ) λa q q1 q2 q3=>?_;refine J q1 ?_;exact⟨a,q3⟩
 ·rw[hp] at DQ
  refine sR (h p DQ) λa q q1 q2 q3=>?_;refine J q1 ?_;exact Fc q2
theorem BL(h:fj k):EE aI k:=by
 refine jv ym λa1 a2 a3 a4 a5 a6 a7 a8=>?_;refine fR u5 λb1 b2 b3 b4 b5 b6 b7 b8 b9 b10 b11=>?_;have ok:∀(p:Nat) (r:RK),aI[p]? =some r->Gp p r->OC aI p:=λp r e h=>(aj r e h)
 have two:∀{p:Nat} {a b:Nat} {P:Nat->Prop},P a->P b->∀p∈[a,b],P p:=λ{p a b P} ha hb p hp=>by
  rcases mem_cons.mp hp with rfl|hp
  ·exact ha
  ·refine J (mem_singleton.mp hp) ?_;exact hb
 have one:∀{a:Nat} {P:Nat->Prop},P a->∀p∈[a],P p:=λ{a P} ha p hp=>by refine J (mem_singleton.mp hp) ?_;exact ha
 rcases p8 h with rfl|rfl|rfl|rfl|rfl|rfl|rfl|rfl
 ·exact kP rfl a1 (by decide) (by decide) (one (cL (ok _ _ rfl (by unfold Gp;decide)) _ b1 (by decide)))
 ·exact kP rfl a2 (by decide) (by decide) (one (cL (ok _ _ rfl (by unfold Gp;decide)) _ b2 (by decide)))
 ·exact kP rfl a3 (by decide) (by decide) (one (cL (ok _ _ rfl (by unfold Gp;decide)) _ b3 (by decide)))
 ·exact kP rfl a4 (by decide) (by decide) (one (cL (ok _ _ rfl (by unfold Gp;decide)) _ b4 (by decide)))
 ·exact kP rfl a5 (by decide) (by decide) (two (p:=0) (cL (ok _ _ rfl trivial) _ b5 (by decide)) (cL (ok _ _ rfl trivial) _ b6 (by decide)))
 ·exact kP rfl a6 (by decide) (by decide) (two (p:=0) (cL (ok _ _ rfl (by unfold Gp;decide)) _ b7 (by decide)) (cL (ok _ _ rfl trivial) _ b8 (by decide)))
 ·exact kP rfl a7 (by decide) (by decide) (one (cL (ok _ _ rfl (by unfold Gp;decide)) _ b9 (by decide)))
 ·exact kP rfl a8 (by decide) (by decide) (two (p:=0) (cL (ok _ _ rfl trivial) _ b10 (by decide)) (cL (ok _ _ rfl trivial) _ b11 (by decide)))
theorem DZ(h:fj k):(iT aI k).map eF=xY k:=by
 refine jv ym λa1 a2 a3 a4 a5 a6 a7 a8=>?_;refine fR u5 λb1 b2 b3 b4 b5 b6 b7 b8 b9 b10 b11=>?_;unfold iT;rcases p8 h with rfl|rfl|rfl|rfl|rfl|rfl|rfl|rfl
 ·refine J a1 (J map_cons (J b1 ?_));decide
 ·refine J a2 (J map_cons (J b2 ?_));decide
 ·refine J a3 (J map_cons (J b3 ?_));decide
 ·refine J a4 (J map_cons (J b4 ?_));decide
 ·simp only[a5,map_cons,map_nil,b5,b6];decide
 ·simp only[a6,map_cons,map_nil,b7,b8];decide
 ·refine J a7 (J map_cons (J b9 ?_));decide
 ·simp only[a8,map_cons,map_nil,b10,b11];decide
theorem oP{W:Nat->List LN}(hw:∀u p,kf u=some p->W p.1=wf u):∀(l:LN) (ws:List LN),l.foldl (hN kf wf) ws=jP (ws.map (·++(aL (kk kf) l).1.headD [])) ((aL (kk kf) l).2.map W) (aL (kk kf) l).1.tail
 |[],ws=>by refine(?_:ws=jP (ws.map (·++[])) [] []);simp[jP]
 |u::r,ws=>by
  refine J foldl_cons (J (oP hw r _) ?_);refine b0 (eS (kf:=kk kf) r) λx X ex _=>?_;induction q:kf u with
  |some p=>
   have qk:kk kf u=some p.1:=by unfold kk;refine J q ?_;rfl
   refine J (ck qk) (J ex ?_);simp only[headD_cons,tail_cons,map_cons,append_nil,map_id'];refine(?_:_=jP (ws.flatMap λw=>(W p.1).map λy=>w++(y++x)) ((aL (kk kf) r).2.map W) X)
   congr 1
   unfold hN;refine J q ?_;simp only;refine J map_flatMap (J (hw u p q) ?_)
   congr 1
   funext w
   refine J map_map ?_;apply map_congr_left;intro y _;exact append_assoc _ _ _
  |none=>
   have qk:kk kf u=none:=by unfold kk;refine J q ?_;rfl
   refine J (dH qk) (J ex ?_);refine(?_:jP _ _ X=jP (ws.map (·++(u::x))) _ X)
   congr 1
   unfold hN;refine J q ?_;simp only;refine J map_flatMap (J (map_eq_flatMap (l:=ws)) ?_);simp
theorem yE:∀(ts:List LN) (ks:LN),ts.length=ks.length+1->tR ts->(∀k∈ks,rF k)->((∀u∈il ts ks,u=83)↔(∀t∈ts,t=[])/\∀k∈ks,k=6)
 |[],_,h,_,_=>by exact qp h
 |t::ts,ks,h,hl,hk=>by
  have t0:(∀u∈t,u=83)↔t=[]:=by
   constructor
   ·intro a
    induction t using LC with
    |nil=>rfl
    |cons u r=>exact absurd (a u (.head _)) (hl _ (.head _) u (.head _)).1
   ·rintro rfl u hu;exact km hu
  induction ks using LC with
  |nil=>
   have:ts=[]:=length_eq_zero_iff.mp (by simpa using h);subst this;refine(?_:(∀u∈t,u=83)↔_);refine rI t0 ?_;simp
  |cons k ks=>
   have ih:=yE ts ks (by simpa using h) (λx hx=>hl x (.tail _ hx)) λx hx=>hk x (.tail _ hx);refine aK (g8 (hk k (.head _))) λu e1 e2 e3=>?_;refine(?_:(∀u∈t++(sgn k++il ts ks),u=83)↔_);refine J e1 ?_;simp only[mem_append,mem_cons,not_mem_nil,or_false];constructor
   ·intro a
    have i2:=ih.mp λv hv=>a v (.inr (.inr hv));refine⟨λx hx=>hx.elim (λe=>e▸t0.mp λv hv=>a v (.inl hv)) (i2.1 x),λx hx=>hx.elim (λe=>e▸e3.mp (a u (.inr (.inl rfl)))) (i2.2 x)⟩
   ·rintro ⟨a,b⟩ v (hv|hv|hv)
    ·rw[a t (.inl rfl)] at hv;exact km hv
    ·refine J hv ?_;exact e3.mpr (b k (.inl rfl))
    ·exact ih.mpr ⟨λx hx=>a x (.inr hx),λx hx=>b x (.inr hx)⟩ v hv
theorem wh(w:LN):l8 w=true↔w≠[]/\∀u∈w,u=83:=by unfold l8;simp only[Bool.and_eq_true,Bool.not_eq_true',beq_iff_eq,isEmpty_eq_false_iff,ne_eq];apply and_congr_right;intro _;refine rI eq_replicate_iff ?_;exact(λ{a b}=>and_iff_right_iff_imp.mpr) (congrFun rfl)
theorem qn{j:Pc}(h:oE j):hU j=l8 (eF j):=by
 refine rI Bool.eq_iff_iff (rI (wh _) ?_);unfold eF;refine rI (yE _ _ h.s h.l h.k) ?_;unfold hU kO;simp only[Bool.and_eq_true,Bool.not_eq_true',all_eq_true,isEmpty_iff,beq_iff_eq,isEmpty_eq_false_iff];apply and_congr_left;rintro ⟨a,b⟩;obtain ⟨ts,ks⟩:=j;have hs:ts.length=ks.length+1:=h.s;simp only at a b ⊢;induction ts using LC with
 |nil=>exact qp hs
 |cons t ts=>
  induction ks using LC with
  |nil=>
   refine J (a t (.head _)) ?_
   rfl
  |cons k ks=>
   refine ah (g8 (h.k k (.head _))) λu e1 _=>?_;simp[il,e1]
theorem si:∀(ss:List LN) (p:LN),risingS (S p) (ss.map S)=true->(p::ss).Pairwise (λa b=>a<=b)
 |[],p,_=>by exact pairwise_singleton (λa b=>a<=b) p
 |x::r,p,h=>by
  have h:(!PySem.Spec.ltCps (S x).cps.toList (S p).cps.toList&&risingS (S x) (r.map S))=true:=h;rw[Bool.and_eq_true,Bool.not_eq_true',ltCps_eq,decide_eq_false_iff_not] at h;have ih:=si r x h.2;have px:p<=x:=h.1;refine pairwise_cons.mpr ⟨λy hy=>?_,ih⟩;rcases mem_cons.mp hy with rfl|hy
  ·exact px
  ·exact List.le_trans px ((pairwise_cons.mp ih).1 y hy)
theorem Bj(h:uM ss):ss.Pairwise (λa b=>a<=b):=by
 induction ss using LC with
 |nil=>exact .nil
 |cons p r=>exact si r p h
theorem Hr{a b:List LN}(h1:uM a)(h2:uM b)(n1:a.Nodup)(n2:b.Nodup)(hm:∀w,w∈a↔w∈b):a=b:=
 List.Perm.eq_of_pairwise (le:=(·<=·)) (λx y _ _ h1 h2=>List.le_antisymm h1 h2) (Bj h1) (Bj h2) ((perm_ext_iff_of_nodup n1 n2).mpr hm)
section
open PySem.NumText
set_option tactic.hygienic true
theorem ES{rs:List RK}{p:Pc}(o:md rs p):∀j∈fF rs p,wt j.1<=434/\j.2.length<=3:=by
 obtain ⟨ts,ks⟩:=p;induction ts using LC with
 |nil=>have:=o.s;cases this
 |cons t0 ts=>
  have:=(lq (ks.map (iT rs)) ts [([t0],[])] 101 1 0 (λps z6=>by
   refine ah (mem_map.mp z6) λk h1 au=>?_;subst au;have ok:=(o.k k h1).o;refine⟨by unfold iT;refine J (length_map _) ?_;exact ok.two,λp hp=>?_⟩;refine ah (mem_map.mp hp) λq h2 au=>?_;subst au
   exact(ok.ps q h2).2) (λa ha=>o.z a (.tail _ ha)) (λj hj=>by refine J (mem_singleton.mp hj) ?_;exact(aN (by simp) (by have:=o.z t0 (.head _);simp[wt];exact cz this) (Nat.le_refl _))) (Nat.le_refl _)).1
  have l3:ks.length<=3:=o.t;intro j hj;refine bt (this j hj) λ_ a b=>?_;rw[length_map] at a b;exact⟨by exact VP l3 a,by exact Ic l3 b⟩
theorem tD{aW:List RK}{p:Pc}{v:Nat}(o:md rs p)(r:Rd aW (fF rs p) v):(∃r,aW[v]? =some r)/\(∀k∈aF aW v,BK aW k)/\(aF aW v).length<64:=by
 refine bt (ou o) λf1 f2 f3=>?_;refine(aN r.at_ (λk hk=>?_) (by have:=r.few;exact VR f3 this));rcases r.ps k hk with ⟨rfl,x,q⟩|⟨j,hj,q⟩
 ·exact aj _ q trivial
 ·refine aA (ES o j hj) λb1 b2=>?_
  have sh:=(f1 j hj).s;obtain ⟨ts,ks⟩:=j;induction ks using LC with
  |nil=>
   refine(aj _ q ?_);refine(?_:(ts.headD []).length<=1000/\0<=10);induction ts using LC with
   |nil=>exact⟨by exact(Nat.zero_le _),by decide⟩
   |cons t r=>simp[wt] at b1;exact⟨by refine(?_:t.length<=1000);exact VQ b1,by decide⟩
  |cons k' ks=>
   refine(aj _ q ?_);refine(?_:ts.length=(k'::ks).length+1/\wt ts<=1000/\(k'::ks).length<=100);have b1:wt ts<=434:=b1;have b2:(k'::ks).length<=3:=b2;exact(aN sh (by exact cz b1) (by exact cz b2))
theorem qy(ws:List LN)(w:LN):w∈jJ ws↔if ws.any l8 then w=[83] else w∈ws:=by unfold jJ;induction ws.any l8<;>simp
theorem yb{p:Pc}{v:Nat}(o:md rs p)(r:Rd aW (fF rs p) v){jw:List LN}(h1:ss.Perm ((aF aW v).map (bW aW)))(h2:uM ss)(h3:uM jw)(h4:jw.Nodup)(h5:∀w,w∈jw↔w∈jJ ((fF rs p).map eF)):ss=jw:=by
 refine bt (ou o) λf1 _ _=>?_;refine Hr h2 h3 (h1.nodup_iff.mpr r.nd) h4 λw=>?_;refine rI h1.mem_iff (rI (r.ws _) (rI (h5 _) (rI (qy _ _) (J any_map ?_))))
 have:(fF rs p).any hU=(fF rs p).any (l8∘eF):=by refine rI Bool.eq_iff_iff (rI any_eq_true (rI any_eq_true ?_));exact⟨λzf=>ah zf λj a b=>⟨j,a,by refine rS b ?_;exact(qn (f1 j a)).symm⟩,λzf=>ah zf λj a b=>(aj j a (by refine J (qn (f1 j a)) ?_;exact b))⟩
 rw[this]
theorem xg(hp:aI<+:rs)(hk:∀u p,kf u=some p->fj p.1/\xY p.1=wf u)(o:md rs (aL (kk kf) l)):(fF rs (aL (kk kf) l)).map eF=ef kf wf l:=by
 unfold ef;refine J (oP (W:=xY) (λu p e=>(hk u p e).2) _ _) ?_;unfold fF
 have YH:∀k∈(aL (kk kf) l).2,fj k:=by
  clear o;induction l with
  |nil=>intro k hk;exact km hk
  |cons u r ih=>
   induction q:kf u with
   |some p=>
    rw[ck (show kk kf u=some p.1 by unfold kk;refine J q ?_;rfl)];intro k Zh;rcases mem_cons.mp Zh with rfl|h
    ·exact(hk u p q).1
    ·exact ih k h
   |none=>rw[dH (show kk kf u=none by unfold kk;refine J q ?_;rfl)];exact ih
 have pc:(aL (kk kf) l).2.map (iT rs)=(aL (kk kf) l).2.map (iT aI):=map_congr_left λk hk=>((BL (YH k hk)).pre hp).2
 refine J pc (J ((o9 _ _ _ (λps z6=>by obtain ⟨k,h1,rfl⟩:=mem_map.mp z6;intro p DQ;obtain ⟨q,h2,rfl⟩:=mem_map.mp DQ;exact((BL (YH k h1)).f q h2).s) (λo ho=>by rw[mem_singleton.mp ho];rfl)).2) (J map_map ?_))
 congr 1
 exact map_congr_left λk hk=>DZ (YH k hk)
theorem z3(rs:List RK)(l:LN):(fF rs ([l],[])).map eF=[l]:=rfl
theorem tJ{l:LN}(hl:∀u∈l,om u)(hz:l.length<=100):md rs ([l],[]):=
 ⟨rfl,λt ht u hu=>by rw[mem_singleton.mp ht] at hu;exact hl u hu,λx hx=>by refine J (mem_singleton.mp hx) ?_;exact hz,Nat.zero_le _,λk hk=>by exact km hk⟩
theorem Eh{l:LN}{v:Nat}(hl:∀u∈l,om u)(hz:l.length<=100)(r:Rd aW (fF rs ([l],[])) v)(h1:ss.Perm ((aF aW v).map (bW aW)))(h2:uM ss):ss=[l]:=by
 refine yb (tJ hl hz) r h1 h2 rfl (by simp) λw=>?_;refine rI (qy _ _) (J (z3 _ _) ?_)
 have:([l]:List LN).any l8=false:=by
  refine J any_cons (J any_nil (J (Bool.or_false _) (rI Bool.eq_false_iff ?_)));intro e;rw[wh] at e;refine me (exists_cons_of_ne_nil e.1) λu r' q=>?_;have m:u∈l:=by refine J q ?_;exact .head _
  exact(hl u m).1 (e.2 u m)
 refine J this ?_;rfl
theorem Ea:∀(l:LN),(∀u∈l,u=48∨u=49)->digitsVal l*9+1<=10^l.length:=by refine λl=>fZ (P:=λl=>(∀u∈l,u=48∨u=49)->digitsVal l*9+1<=10^l.length) (λ_=>by decide) (λl u ih h=>?_) l;have:=ih λv hv=>h v (mem_append_left _ hv);have hu:=h u (by exact mem_concat_self);refine J (digitsVal_snoc _ _) (J length_append (J length_singleton (J (Nat.pow_succ _ _) ?_)));exact VO this hu
theorem nT{l:LN}(hg:∀u∈l,g5 u=true)(hz:l.length<=16):c6 l=ff l:=by
 have bl:(aH l).length<=l.length/\∀u∈aH l,u∈l:=by
  unfold aH
  split
  ·exact⟨by simp,λu hu=>by exact mem_cons_of_mem 45 hu⟩
  ·exact⟨Nat.le_refl _,λu hu=>hu⟩
 have hb:aH l≠l->l=45::aH l:=λh=>by
  induction l using LC with
  |nil=>exact absurd rfl h
  |cons a r=>
   by_cases q:a=45
   ·subst q;rfl
   ·exact absurd (nS _ (by simpa using q)) h
 have hg5:∀u∈aH l,u=45∨u=48∨u=49∨u=97∨u=98:=λu hu=>by have:=hg u (bl.2 u hu);unfold g5 at this;simp only[Bool.or_eq_true,beq_iff_eq] at this;exact VJ this
 generalize hB:aH l=b at*;unfold c6 ff;refine J hB ?_
 by_cases rM:∀u∈b,u=48∨u=49
 ·have a1:b.all nH=true:=all_eq_true.mpr λu hu=>by rcases rM u hu with rfl|rfl<;>rfl
  have a2:=Ea b rM
  have a3:digitsVal b<=9007199254740991:=by have:10^b.length<=10^16:=Nat.pow_le_pow_right (by decide) (by omega);exact VI a2 this
  have n45:decide (45∈b)=false:=decide_eq_false λm=>by have:=rM _ m;exact False.elim (VH this)
  have n97:decide (97∈b)=false:=decide_eq_false λm=>by have:=rM _ m;exact False.elim (VG this)
  have n98:decide (98∈b)=false:=decide_eq_false λm=>by have:=rM _ m;exact False.elim (VF this)
  have le1:Nat.ble b.length 16=true:=Nat.ble_eq.mpr (by omega);have le2:Nat.ble (digitsVal b) 9007199254740991=true:=Nat.ble_eq.mpr a3;refine J a1 (J n45 (J n97 (J n98 (J le1 (J le2 ?_)))));simp only[Bool.and_true,Bool.or_false];have hd:AllDigits b:=λu hu=>by rcases rM u hu with rfl|rfl<;>decide
  induction b using LC with
  |nil=>rfl
  |cons c r=>
   simp only[isEmpty_cons,Bool.not_false,Bool.true_and];have sh:=toDigits_all (c::r) hd;refine J (je _) (J sh ?_);rcases rM c (.head _) with rfl|rfl
   ·induction r using LC with
    |nil=>
     have:(Nat.ble 1 (digitsVal [48]))=false:=rfl;refine J this ?_;refine(?_:(([48]:LN)==[48]&&(false||([48]:LN)==l))=(l==[48]||!(([48]:LN)==[48])));refine J (show ((([48]:LN)==[48]))=true from rfl) ?_;refine J (Bool.or_false _) (J Bool.not_true (J (Bool.true_and _) (J (Bool.false_or _) (?_))));rw[Bool.eq_iff_iff,beq_iff_eq,beq_iff_eq];exact⟨Eq.symm,Eq.symm⟩
    |cons c2 r2=>
     have l0:(l==[48])=false:=by rw[beq_eq_false_iff_ne];rintro rfl;have:aH [48]=[48]:=rfl;rw[this] at hB;cases hB
     have e2:((48::c2::r2).take 1==[48])=true:=rfl;refine J l0 (J e2 ?_)
     have ne:∀(x:LN),x.length<=(c2::r2).length->(x==48::c2::r2)=false:=λx hx=>by rw[beq_eq_false_iff_ne];rintro rfl;simp at hx;exact False.elim (VE hx)
     have dw:((48::c2::r2).dropWhile (·==48))=(c2::r2).dropWhile (·==48):=rfl;refine J dw ?_;have dl:=(dropWhile_sublist (·==48) (l:=c2::r2)).length_le
     split
     ·refine J (ne _ (by exact(Nat.le_add_left _ _))) ?_;rfl
     ·next c3 r3 e3=>rw[ne _ (by refine J (length_map _) (J (length_map _) (rS e3 ?_));exact dl)];rfl
   ·have e2:((49::r).take 1==[48])=false:=rfl
    have dw:((49::r).dropWhile (·==48))=49::r:=rfl;refine J e2 (J dw ?_);have pos:=digitsVal_pos (c:=49) (cs:=r) (by decide);have:Nat.ble 1 (digitsVal (49::r))=true:=Nat.ble_eq.mpr pos;refine J this ?_;simp only[Bool.true_or,Bool.and_true,Bool.not_false,Bool.or_true,beq_iff_eq]
    exact J map_map (J (map_congr_left (g:=id) (λu hu=>by rcases rM u hu with rfl|rfl<;>rfl)) (J (map_id _) rfl))
 ·have:¬(b.all nH=true):=λh=>rM λu hu=>by
   have d:=all_eq_true.mp h u hu;unfold nH at d;rw[Bool.and_eq_true,Nat.ble_eq,Nat.ble_eq] at d;have:=hg5 u hu;exact VD d this
  rw[Bool.not_eq_true] at this;refine J this ?_
  have:(b.isEmpty||decide (45∈b)||decide (97∈b)||decide (98∈b))=true:=by
   refine bK (Classical.not_forall.mp rM) λu hu=>?_;refine aA (Classical.not_imp.mp hu) λm hn=>?_;have h5:=hg5 u m;have:u=45∨u=97∨u=98:=by exact VC hn h5
   rcases this with rfl|rfl|rfl<;>simp[m]
  refine J this ?_;exact J (Bool.and_false _) (J (Bool.false_and _) (J Bool.not_true (rfl)))
noncomputable def gC:LN->List LN->LN
 |a::as,w::mid=>a::(w++gC as mid)
 |as,[]=>as
 |[],_=>[]
theorem jT(a:Nat)(as:LN)(w:LN)(mid:List LN):gC (a::as) (w::mid)=a::(w++gC as mid):=rfl
section
variable {kf:Nat->Option Nat}
theorem vH:∀(as:LN) (mid:List LN),as.length=mid.length+1->(∀a∈as,kf a≠none)->(∀w∈mid,m8 kf w)->Ax mid (gC as mid)=some (as.map λa=>[a])
 |[],_,h,_,_=>by exact qp h
 |a::as,[],h,_,_=>by have:as=[]:=length_eq_zero_iff.mp (by simpa using h);subst this;rfl
 |a::as,w::mid,h,ha,hw=>by
  have fb:gd w (gC (a::as) (w::mid))=some 1:=by
   induction w using LC with
   |nil=>unfold gd gC;dsimp
   |cons u r=>
    refine(?_:gM _ _ 0 _=_);refine lb.mpr ⟨?_,λj hj=>?_⟩
    ·unfold cY
     rw[jT,Bool.and_eq_true,decide_eq_true_eq,beq_iff_eq];refine⟨by simp;exact VL,?_⟩;exact J drop_succ_cons (J drop_zero (J take_left rfl))
    ·have:j=0:=by exact VK hj
     subst this;refine rI Bool.eq_false_iff ?_;intro e;unfold cY at e;rw[jT,Bool.and_eq_true,decide_eq_true_eq,beq_iff_eq] at e;have e:=e.2;rw[drop_zero,length_cons,take_succ_cons,List.cons.injEq] at e;exact ha a (.head _) (by refine J e.1 ?_;exact hw _ (.head _) u (.head _))
  unfold Ax;refine J fb ?_;simp only
  have:(gC (a::as) (w::mid)).drop (1+w.length)=gC as mid:=by exact J (jT _ _ _ _) (J (Nat.add_comm _ _) (J drop_succ_cons (J drop_left rfl)))
  refine J this (J (vH as mid (by simpa using h) (λx hx=>ha x (.tail _ hx)) λx hx=>hw x (.tail _ hx)) ?_)
  rfl
theorem uW(hn:m8 kf wn):∀(as:LN) (mid:List LN) (ks:LN),as.length=mid.length+1->as.map kf=ks.map some->(∀w∈mid,m8 kf w)->aL kf (gC as mid++wn)=([]::(mid++[wn]),ks)
 |[],_,_,h,_,_=>by exact qp h
 |a::as,[],ks,h,hk,_=>by
  have:as=[]:=length_eq_zero_iff.mp (by simpa using h);subst this;induction ks using LC with
  |nil=>exact MC hk
  |cons k ks=>
   simp only[map_cons,map_nil,List.cons.injEq] at hk;have:ks=[]:=map_eq_nil_iff.mp hk.2.symm;subst this;refine(?_:aL kf (a::wn)=_);refine J (ck hk.1) (J (fE hn) ?_);rfl
 |a::as,w::mid,ks,h,hk,hw=>by
  induction ks using LC with
  |nil=>exact MC hk
  |cons k ks=>
   replace hk:=(List.cons.injEq _ _ _ _).mp hk
   have ih:=uW hn as mid ks (by simpa using h) hk.2 λx hx=>hw x (.tail _ hx);have:gC (a::as) (w::mid)++wn=a::(w++(gC as mid++wn)):=by refine J (jT _ _ _ _) ?_;exact J cons_append (J (append_assoc _ _ _) (rfl))
   refine J this (J (ck hk.1) (J (eN _ _) (J (fE (hw w (.head _))) (J ih ?_))));simp[cg]
theorem Di{mid:List LN}{as:LN}(h0:m8 kf w0)(hm:∀w∈mid,m8 kf w)(hn:m8 kf wn)(hl:as.length=mid.length+1)(hk:as.map kf=ks.map some):qU (w0::(mid++[wn])) ks w0 mid wn=some (ks.map mu):=by
 have ha:∀a∈as,kf a≠none:=λa ha e=>by have:=mem_map_of_mem (f:=kf) ha;rw[hk,e] at this;refine ah (mem_map.mp this) λk _ q=>?_;exact fB q
 have er:aL kf (w0++(gC as mid++wn))=(w0::(mid++[wn]),ks):=by refine J (eN _ _) (J (fE h0) (J (uW hn as mid ks hl hk hm) ?_));simp[cg]
 have:=qT (kf:=kf) (sg:=w0++(gC as mid++wn)) h0 hm hn;rw[er] at this;simp only at this;refine J this (J (gW _ _ _ _) ?_);have l1:(w0++(gC as mid++wn)).length-wn.length=(w0++gC as mid).length:=by simp only[length_append];exact VN
 have ea:w0++(gC as mid++wn)=(w0++gC as mid)++wn:=by simp
 rw[if_pos (aN (by simp only[length_append];exact VM) (by exact take_left) (by exact J l1 (J ea (J drop_left rfl)))),yK (by exact(Nat.sub_le _ _)) _ _ (by refine J l1 ?_;simp),l1,ea,take_left,drop_left,vH as mid hl ha hm];refine J (Option.map_some _ _) (J map_map (?_))
 congr 1
 have:as.map (aL kf∘λa=>[a])=(as.map kf).map λo=>mu (o.getD 0):=by
  refine J map_map ?_;apply map_congr_left;intro a h;induction q:kf a with
  |none=>exact absurd q (ha a h)
  |some k=>
   refine(?_:aL kf [a]=mu ((kf a).getD 0));refine J (ck q) (J q ?_);rfl
 refine J this (J hk (J map_map ?_));rfl
end
end
section
open PySem.NumText
mutual
theorem Fh:∀p:PV,PyData.eqv p.dat p.dat=true
 |.none=>rfl
 |.bool b=>by exact SeqAt.eqv_refl (PV.bool b).dat rfl
 |.int i=>by exact SeqAt.eqv_refl (PV.int i).dat rfl
 |.str x=>by exact BEq.rfl
 |.tup l=>by rw[PV.dat,PyData.eqv];exact qO l
 |.ref _=>rfl
theorem qO:∀l:List PV,PyData.eqvAll (PV.l7 l) (PV.l7 l)=true
 |[]=>rfl
 |a::r=>by rw[PV.l7,PyData.eqvAll,Fh,qO];rfl
end
theorem vU(l:List LN):PyData.depthAll (PV.l7 (l.map aC))=0:=by
 induction l with
 |nil=>rfl
 |cons a r ih=>rw[map_cons,PV.l7,PyData.depthAll,ih];rfl
theorem Dh(l:LN):PyData.depthAll (PV.l7 (l.map pid))=0:=by
 induction l with
 |nil=>rfl
 |cons a r ih=>rw[map_cons,PV.l7,PyData.depthAll,ih];rfl
theorem Fs(l:List Pc):PyData.depthAll (PV.l7 (l.map dx))<=2:=by
 induction l with
 |nil=>exact Nat.zero_le _
 |cons a r ih=>
  rw[map_cons,PV.l7,PyData.depthAll]
  have:(PV.dat (dx a)).depth<=2:=by unfold dx;rw[PV.dat,PV.l7,PV.l7,PV.l7,PV.dat,PV.dat,PyData.depth,PyData.depthAll,PyData.depthAll,PyData.depthAll,PyData.depth,PyData.depth,vU,Dh];decide
  exact Xp ih this
section
theorem yu{e:Addr}{l:List PV}(hA:Rm n A)(h1:V d=some (.lst l))(h2:V e=some (.lst l))(hb:PV.jq l=true)(hd:PyData.depthAll (PV.l7 l)<=10)(h:Q (.bool false) V):W2 c A φ Vr (compareOp .NotEq) (.ref d) (.ref e) V Q:=
 yY hA (.lst h1 (nF hb)) (.lst h2 (nF hb)) rfl rfl (by rw[PyData.depth];exact Xq hd) (by rw[PyData.eqv,qO];exact h)
theorem sP(l:List LN):PV.jq (l.map aC)=true:=by
 induction l with
 |nil=>rfl
 |cons a r ih=>rw[map_cons,PV.jq,ih];rfl
theorem Ao(l:LN):PV.jq (l.map pid)=true:=by
 induction l with
 |nil=>rfl
 |cons a r ih=>rw[map_cons,PV.jq,ih];rfl
theorem Du(l:List Pc):PV.jq (l.map dx)=true:=by
 induction l with
 |nil=>rfl
 |cons a r ih=>
  rw[map_cons,PV.jq,ih];unfold dx;rw[PV.bare,PV.jq,PV.jq,PV.bare,PV.bare,sP,Ao];rfl
theorem yt{e:Addr}{l:List LN}(hA:Rm n A)(h1:V d=some (.lst (l.map aC)))(h2:V e=some (.lst (l.map aC)))(h:Q (.bool false) V):W2 c A φ Vr (compareOp .NotEq) (.ref d) (.ref e) V Q:=
 yu hA h1 h2 (sP l) (by refine J (vU _) ?_;decide) h
theorem BQ{e:Addr}{l:List Pc}(hA:Rm n A)(h1:V d=some (.lst (l.map dx)))(h2:V e=some (.lst (l.map dx)))(h:Q (.bool false) V):W2 c A φ Vr (compareOp .NotEq) (.ref d) (.ref e) V Q:=
 yu hA h1 h2 (Du l) (by have:=Fs l;exact cz this) h
theorem lQ(hA:Rm n A)(h:Q (.bool false) V):W2 c A φ Vr (compareOp .NotEq) .none .none V Q:=
 yY hA .none .none rfl rfl (by decide) h
theorem GI{e:Addr}(hA:Rm n A)(h1:LL V d L)(h2:LL V e L)(h:Q (.bool true) V):W2 c A φ Vr (compareOp .Eq) (.ref d) (.ref e) V Q:=
 FH hA h1.dv h2.dv (iN L) (by refine J (qS _) ?_;exact h)
end
theorem yL:∀(ws:List LN) (b:LN) {l:List LN},Ax ws b=some l->(∀p∈l,p.Sublist b)/\l.length=ws.length+1
 |[],b,l,h=>by obtain rfl:=sI h;exact⟨λp hp=>by refine J (mem_singleton.mp hp) ?_;exact Sublist.refl _,rfl⟩
 |w::ws,b,l,h=>by
  unfold Ax at h;induction q:gd w b with
  |none=>rw[q] at h;exact bL h
  |some e=>
   rw[q] at h;simp only at h;induction q2:Ax ws (b.drop (e+w.length)) with
   |none=>rw[q2] at h;exact bL h
   |some l'=>
    rw[q2] at h;obtain rfl:=sI h;refine aA (yL ws _ q2) λh1 h2=>?_;refine⟨λp hp=>?_,by exact Eq.symm ((λ{a b}=>Nat.succ_inj.mp) (congrArg Nat.succ (congrFun (congrArg HAdd.hAdd (id (Eq.symm h2))) 1)))⟩;rcases mem_cons.mp hp with rfl|hp
    ·exact take_sublist _ _
    ·exact(h1 p hp).trans (drop_sublist _ _)
theorem vB{l:List LN}(h:(cX sg w0 mid wn).head? =some l):(∀p∈l,p.Sublist sg)/\l.length=mid.length+1:=by
 rw[gW] at h
 split at h
 ·rw[yK (by exact Ii) _ _ (by omega)] at h
  refine aA (yL _ _ h) λa b=>?_;exact⟨λp hp=>(a p hp).trans ((drop_sublist _ _).trans (take_sublist _ _)),b⟩
 ·exact bL h
structure LW (t:TA) (hx hd st sg w:Addr) (V:St) (rs:List RK):Prop where
 W:Wd t hx hd jU V rs
 pre:aI<+:rs
 EX:lX V st
 xi:V sg=some (.dI Aw)
 hw:V w=some (.dS (wL t hx st sg))
theorem zD(T:dc t V rs bs)(hp:aI<+:rs){l:List PV}(e:V a=some (.lst l))(hl:l.length<28):a≠t.rows/\a≠t.index:=by
 refine⟨?_,?_⟩<;>rintro rfl
 ·rw[T.rows] at e;cases e
  have:=hp.length_le;rw[length_map,length_map] at hl;have:aI.length=28:=rfl;exact False.elim (Xm hl (by assumption) this)
 ·rw[T.index] at e;exact kB e
theorem gA(T:dc t V rs bs)(hp:aI<+:rs)(F:Fix t V σ'){l:List PV}(e:V a=some (.lst l))(hl:l.length<28):σ' a=some (.lst l):=by refine aA (zD T hp e hl) λh1 h2=>?_;exact F _ _ e h1 h2
theorem zh:∀(j:Nat) p,mB[j]? =some p->p.2.length<=2
 |0,p,h=>by obtain rfl:=sI h;decide
 |1,p,h=>by obtain rfl:=sI h;decide
 |2,p,h=>by obtain rfl:=sI h;decide
 |3,p,h=>by obtain rfl:=sI h;decide
 |4,p,h=>by obtain rfl:=sI h;decide
 |5,p,h=>by obtain rfl:=sI h;decide
 |6,p,h=>by obtain rfl:=sI h;decide
 |7,p,h=>by obtain rfl:=sI h;decide
 |j+8,p,h=>by exact bL h
theorem LW.fix{hx hd st sg w:Addr}(L:LW t hx hd st sg w V rs)(W':Wd t hx hd jU σ' aW)(F:Fix t V σ')(hp:rs<+:aW):LW t hx hd st sg w σ' aW:=by
 have T:=L.W.T;refine⟨W',L.pre.trans hp,?_,?_,?_⟩
 ·refine aK L.EX λitems a b d=>?_
  refine(bb items (gA T L.pre F a (by exact Xo b)) b (λj p q=>?_));refine ah (d j p q) λx x1 x2=>?_;exact(aj x x1 (gA T L.pre F x2 (by refine J (length_map _) ?_;have:=zh j p q;exact Xl this)))
 ·exact F _ _ L.xi (by rintro rfl;have:=L.xi;rw[T.rows] at this;exact kB this) (by rintro rfl;have:=L.xi;rw[T.index] at this;exact kB this)
 ·exact F _ _ L.hw (by rintro rfl;have:=L.hw;rw[T.rows] at this;exact kB this) (by rintro rfl;have:=L.hw;rw[T.index] at this;exact kB this)
theorem LW.kp{hx hd st sg w:Addr}(L:LW t hx hd st sg w V rs)(k:Kp V σ'):LW t hx hd st sg w σ' rs:=⟨L.W.kp k,L.pre,L.EX.kp k,k _ _ L.xi,k _ _ L.hw⟩
theorem LL.fix(T:dc t V rs bs)(hp:aI<+:rs)(F:Fix t V σ'){L:List (List LN)}(h:LL V d L)(hl:L.length<28)(hs:∀ss∈L,ss.length<28):LL σ' d L:=by refine aK h λds a b e=>?_;clear h;exact(bb ds (gA T hp F a (by refine J (length_map _) ?_;exact Xn hl b)) b (λi dd ss h1 h2=>gA T hp F (e i dd ss h1 h2) (by refine J (length_map _) ?_;exact hs ss (mem_of_getElem? h2))))
noncomputable def iW(p:Nat):Nat:=(mB.getD p (6,[])).1
theorem oq{p:Nat}(h:p<8):∃ws,mB[p]? =some (iW p,ws)/\fj (iW p)/\xY (iW p)=ws/\((iW p==7)=(p==1))/\(iW p=17↔p=3):=by
 match p,h with
 |0,_=>exact(dA _ rfl _ (mem_of_getElem? (i:=0) rfl) (by decide) (by decide) (by decide))
 |1,_=>exact(dA _ rfl _ (mem_of_getElem? (i:=1) rfl) (by decide) (by decide) (by decide))
 |2,_=>exact(dA _ rfl _ (mem_of_getElem? (i:=2) rfl) (by decide) (by decide) (by decide))
 |3,_=>exact(dA _ rfl _ (mem_of_getElem? (i:=3) rfl) (by decide) (by decide) (by decide))
 |4,_=>exact(dA _ rfl _ (mem_of_getElem? (i:=4) rfl) (by decide) (by decide) (by decide))
 |5,_=>exact(dA _ rfl _ (mem_of_getElem? (i:=5) rfl) (by decide) (by decide) (by decide))
 |6,_=>exact(dA _ rfl _ (mem_of_getElem? (i:=6) rfl) (by decide) (by decide) (by decide))
 |7,_=>exact(dA _ rfl _ (mem_of_getElem? (i:=7) rfl) (by decide) (by decide) (by decide))
theorem CH(h:g5 u=true):om u:=by unfold g5 at h;simp only[Bool.or_eq_true,beq_iff_eq] at h;unfold om;exact Xk h
end
def DU(o:Option (List LN))(v:PV)(V:St):Prop:=match o with
 |none=>v=.none
 |some ps=>∃d,v=.ref d/\V d=some (.lst (ps.map aC))
def J2(o:Option (List Pc))(v:PV)(V:St):Prop:=match o with
 |none=>v=.none
 |some ps=>∃d,v=.ref d/\V d=some (.lst (ps.map dx))
def GX(o:Option (List (List LN)))(v:PV)(V:St):Prop:=match o with
 |none=>v=.none
 |some L=>∃d,v=.ref d/\LL V d L
theorem DU.kp{o:Option (List LN)}{v:PV}(h:DU o v V)(k:Kp V σ'):DU o v σ':=by
 induction o with
 |none=>exact h
 |some ps=>(refine ah h λd a b=>?_;clear h);exact aj d a (k _ _ b)
theorem J2.kp{o:Option (List Pc)}{v:PV}(h:J2 o v V)(k:Kp V σ'):J2 o v σ':=by
 induction o with
 |none=>exact h
 |some ps=>(refine ah h λd a b=>?_;clear h);exact aj d a (k _ _ b)
theorem GX.kp{o:Option (List (List LN))}{v:PV}(h:GX o v V)(k:Kp V σ'):GX o v σ':=by
 induction o with
 |none=>exact h
 |some ps=>(refine ah h λd a b=>?_;clear h);exact aj d a (b.kp k)
theorem LL.of_eq{L':List (List LN)}(h:LL V d L)(hl:L.length=L'.length)(he:∀(i:Nat) ss jw,L[i]? =some ss->L'[i]? =some jw->ss=jw):LL V d L':=by
 have:L=L':=ext_getElem? λi=>by
  by_cases q:i<L.length
  ·refine J (getElem?_eq_getElem q) (J (getElem?_eq_getElem (by exact ED hl q)) ?_)
   exact congrArg some (he i _ _ (getElem?_eq_getElem q) (getElem?_eq_getElem (by exact ED hl q)))
  ·exact J (getElem?_eq_none (by exact wB q)) (J (getElem?_eq_none (by exact Tg hl q)) rfl)
 exact this▸h
section
variable {hx hd sg w st:Addr}
theorem DU.fix{o:Option (List LN)}{v:PV}(h:DU o v V)(L:LW t hx hd st sg w V rs)(F:Fix t V σ')(hz:∀l,o=some l->l.length<28):DU o v σ':=by
 induction o with
 |none=>exact h
 |some ps=>(refine ah h λd a b=>?_;clear h);exact(aj d a (gA L.W.T L.pre F b (by refine J (length_map _) ?_;exact hz _ rfl)))
theorem GX.fix{o:Option (List (List LN))}{v:PV}(h:GX o v V)(L:LW t hx hd st sg w V rs)(F:Fix t V σ')(hz:∀l,o=some l->l.length<28/\∀ss∈l,ss.length<28):GX o v σ':=by
 induction o with
 |none=>exact h
 |some ps=>(refine ah h λd a b=>?_;clear h);exact aj d a (LL.fix L.W.T L.pre F b (hz _ rfl).1 (hz _ rfl).2)
theorem ne_nil{e:Addr}(hA:Rm n A)(h1:LL V d L)(h2:V e=some (.lst []))(h:Q (.bool (!L.isEmpty)) V):W2 c A φ Vr (compareOp .NotEq) (.ref d) (.ref e) V Q:=
 yY hA h1.dv (.lst h2 .nil) rfl rfl (iN L) (by induction L using LC<;>exact h)
theorem eq_nil{e:Addr}(hA:Rm n A)(h1:LL V d L)(h2:V e=some (.lst []))(h:Q (.bool L.isEmpty) V):W2 c A φ Vr (compareOp .Eq) (.ref d) (.ref e) V Q:=
 FH hA h1.dv (.lst h2 .nil) (iN L) (by induction L using LC<;>exact h)
theorem LW.jd(L:LW t hx hd st sg w V rs){p:Nat}(hp:p<8):∃items a,V st=some (.lst items)/\items.length=8/\items[p]? =some (.tup [pid (iW p),.ref a])/\V a=some (.lst ((xY (iW p)).map aC)):=by refine aK L.EX λitems a b d=>?_;refine cZ (oq hp) λws e1 _ e2 _=>?_;refine ah (d p _ e1) λx x1 x2=>?_;exact(dX items x a b x1 (by refine J e2 ?_;exact x2))
end
section
open PySem.NumText
noncomputable def oo:LN:=[18,19,21,22,7,25,26]
noncomputable def tm:LN:=[6,7,16,17,20,23,24,27]
theorem jK:(∀k∈tm,(cB aI k).length<=2/\(∀y∈cB aI k,y∈oo)/\k<28)/\∀k∈oo,cB aI k=[]/\k<28:=by decide
theorem jz(h:fj k):k∈tm:=by rcases p8 h with rfl|rfl|rfl|rfl|rfl|rfl|rfl|rfl<;>decide
theorem Jd:∀k∈tm++oo,((aI[k]?).map RK.flat)=some true:=by decide
noncomputable def KQ(o:Option RK)(k:Nat):Bool:=match o with
 |some (.par j)=>(j==0&&k==16)||(j==1&&k==17)
 |_=>true
theorem HQ:∀k:Fin 28,KQ aI[k.val]? k.val=true:=by decide
theorem BG:∀k:Fin 28,(aI[k.val]? =some (.par 0)->k.val=16)/\(aI[k.val]? =some (.par 1)->k.val=17)/\∀j,aI[k.val]? =some (.par j)->j=0∨j=1:=by intro k;have:=HQ k;refine(aN (λe=>?_) (λe=>?_) (λj e=>?_))<;>rw[e] at this<;>simp[KQ] at this<;>omega
section
theorem iI(hp:aI<+:rs)(h:k<28):∃r,aI[k]? =some r/\rs[k]? =some r/\(k∈tm++oo->r.flat=true)/\cB rs k=cB aI k:=by
 obtain ⟨r,e⟩:∃r,aI[k]? =some r:=⟨_,getElem?_eq_getElem h⟩;refine dg r e (cf hp e) (λhm=>?_) ?_
 ·have f:=Jd k hm
  rw[e] at f;simpa using f
 unfold cB;exact J e (J (cf hp e) rfl)
theorem Hi(hp:aI<+:rs){ks:LN}(hk:rs[k]? =some (.eG ts ks))(hs:∀x∈ks,fj x)(hl:ks.length<=3):tok rs 3 k/\pZ rs 3 k<60:=by
 have ek:cB rs k=ks:=by unfold cB;refine J hk ?_;rfl
 have leaf:∀y∈oo,tok rs 1 y/\pZ rs 1 y=1:=λy hy=>by refine aA (jK.2 y hy) λa b=>?_;refine cZ (iI hp b) λr _ e f g=>?_;rw[a] at g;refine(oO r e (f (mem_append_right _ hy)) (λz hz=>by rw[g] at hz;exact km hz) (by unfold pZ;refine J g ?_;rfl))
 have st:∀x∈ks,tok rs 2 x/\pZ rs 2 x<=3:=λx hx=>by refine bt (jK.1 x (jz (hs x hx))) λa b d=>?_;refine cZ (iI hp d) λr _ e f g=>?_;refine(oO r e (f (mem_append_left _ (jz (hs x hx)))) (λz hz=>by rw[g] at hz;exact(leaf z (b z hz)).1) ?_);unfold pZ;refine J g ?_;have:(cB aI x).map (pZ rs 1)=(cB aI x).map λ_=>1:=map_congr_left λz hz=>(leaf z (b z hz)).2;refine J this (J map_const' (J sum_replicate_nat ?_));exact Xj a
 refine(oO _ hk rfl (λx hx=>by rw[ek] at hx;exact(st x hx).1) ?_)
 have e3:pZ rs 3 k=1+(ks.map (pZ rs 2)).sum:=by refine(?_:1+((cB rs k).map (pZ rs 2)).sum=_);exact J ek rfl
 have:∀l:LN,(∀x∈l,pZ rs 2 x<=3)->(l.map (pZ rs 2)).sum<=3*l.length:=λl hl=>by
  induction l with
  |nil=>exact Nat.le_refl _
  |cons a r ih=>
   rw[map_cons,sum_cons,length_cons];have:=hl a (.head _);have:=ih λx hx=>hl x (.tail _ hx);exact Xh (by assumption) this
 have:=this ks λx hx=>(st x hx).2;exact Xg hl e3 this
theorem zJ(hp:aI<+:rs){ks:LN}(hk:rs[k]? =some (.eG ts ks))(hs:∀x∈ks,fj x):(∃x j,Reach rs k x/\rs[x]? =some (.par j))↔16∈ks∨17∈ks:=by
 have ek:cB rs k=ks:=by unfold cB;refine J hk ?_;rfl
 have inv:∀x,Reach rs k x->x=k∨x∈ks∨x∈oo:=λx h=>by
  induction h with
  |refl=>exact .inl rfl
  |@step x y r _ e hy ih=>
   have hy:y∈cB rs x:=by unfold cB;refine J e ?_;exact hy
   rcases ih with rfl|h|h
   ·rw[ek] at hy;exact .inr (.inl hy)
   ·refine bt (jK.1 x (jz (hs x h))) λa b d=>?_
    refine cZ (iI hp d) λ_ _ _ _ g=>?_;rw[g] at hy;exact .inr (.inr (b y hy))
   ·refine aA (jK.2 x h) λa b=>?_
    refine cZ (iI hp b) λ_ _ _ _ g=>?_;rw[g,a] at hy;exact km hy
 have My:∀x,x<28->∀j,rs[x]? =some (.par j)->x=16∨x=17:=λx h j e=>by
  refine aK (iI hp h) λr e1 e2 _=>?_;rw[e] at e2;obtain rfl:=sI e2;refine bt (BG ⟨x,h⟩) λa b d=>?_;rcases d j e1 with rfl|rfl
  ·exact .inl (a e1)
  ·exact .inr (b e1)
 constructor
 ·rintro ⟨x,j,h,e⟩
  rcases inv x h with rfl|h|h
  ·rw[hk] at e;exact Ew e
  ·rcases My x (jK.1 x (jz (hs x h))).2.2 j e with rfl|rfl
   ·exact .inl h
   ·exact .inr h
  ·rcases My x (jK.2 x h).2 j e with rfl|rfl
   ·exact absurd h (by decide)
   ·exact absurd h (by decide)
 ·rintro (h|h)
  ·exact fN 16 0 (.step .refl hk h) (cf hp rfl)
  ·exact fN 17 1 (.step .refl hk h) (cf hp rfl)
end
theorem tU{p:Nat}(h:p<8):(iW p=16↔p=2)/\(iW p=17↔p=3):=by
 match p,h with
 |0,_=>decide
 |1,_=>decide
 |2,_=>decide
 |3,_=>decide
 |4,_=>decide
 |5,_=>decide
 |6,_=>decide
 |7,_=>decide
theorem uj(l:LN)(x:Nat):((l.map pid).any λp=>PV.qP p (.int x))=true↔x∈l:=by
 refine J any_map (rI any_eq_true ?_);constructor
 ·rintro ⟨y,a,b⟩
  have b:((y:Int)==(x:Int))=true:=b;rw[eT,beq_iff_eq] at b;exact b▸a
 ·intro a
  refine(aj x a ?_);refine(?_:((x:Int)==(x:Int))=true);rw[beq_self_eq_true]
theorem tK{picks:LN}(hp:∀p∈picks,p<8):(16∈picks.map iW∨17∈picks.map iW)↔(2∈picks∨3∈picks):=by
 simp only[mem_map];constructor
 ·rintro (⟨p,h,e⟩|⟨p,h,e⟩)
  ·refine rS ((tU (hp p h)).1.mp e) ?_;exact .inl h
  ·refine rS ((tU (hp p h)).2.mp e) ?_;exact .inr h
 ·rintro (h|h)
  ·exact .inl (aj 2 h (by decide))
  ·exact .inr (aj 3 h (by decide))
noncomputable def qw(p:Nat)(l:LN):LN:=if p=3/\ff l=true then 35::l else l
noncomputable def zV(picks:LN)(l:List LN):List (List LN):=zipWith (λp x=>[qw p x]) picks l
theorem tS{l:List LN}(h:(zV picks l)[i]? =some ss):∃p x,picks[i]? =some p/\l[i]? =some x/\ss=[qw p x]:=by unfold zV at h;rw[getElem?_zipWith_eq_some] at h;refine aV h λp x a b e=>?_;clear h;exact dM p x a b e.symm
theorem BZ{l:List LN}(h:picks.length=l.length):(zV picks l).length=l.length:=by unfold zV;refine J length_zipWith ?_;exact Xi h
theorem BY(hb:Base aW)(hp:aI<+:rs){p:Nat}(h8:p<8)(hr:rs[iW p]? =some r){x:LN}(hx:∀u∈x,g5 u=true)(hz:x.length<=16){v:Nat}(L:kg aW r x v):(∃q,aW[v]? =some q)/\aF aW v=[v]/\BK aW v/\bW aW v=qw p x:=by
 have Iz:iW p<28:=by refine aK (oq h8) λ_ _ a _=>?_;exact(jK.1 _ (jz a)).2.2
 refine aK (iI hp Iz) λr' e1 e2 _=>?_;rw[hr] at e2;obtain rfl:=sI e2
 have Nr:r=.par 1↔p=3:=by
  refine rJ ((tU h8).2) ?_;constructor
  ·rintro rfl;exact(BG ⟨_,Iz⟩).2.1 e1
  ·intro e
   rw[e] at e1;have:aI[17]? =some (.par 1):=rfl;rw[this] at e1;obtain rfl:=sI e1;rfl
 have n2:aW[2]? =some (.key "never"):=hb.at_ rfl;unfold kg at L;unfold qw;have hq:(r=.par 1/\c6 x=true)↔(p=3/\ff x=true):=by rw[Nr,nT hx hz]
 by_cases q:p=3/\ff x=true
 ·rw[if_pos (hq.mpr q)] at L
  refine J (if_pos q) ?_;refine aK L λi a b d=>?_;clear L;refine⟨⟨_,a⟩,?_,⟨_,a,rfl,d⟩,?_⟩
  ·unfold aF;rw[if_neg (by rintro rfl;rw[n2] at a;exact Ew a),a]
  ·unfold bW;refine J a ?_;simp only[if_true];exact J b rfl
 ·rw[if_neg λz=>q (hq.mp z)] at L
  refine J (if_neg q) ?_;refine⟨⟨_,L⟩,?_,⟨_,L,by exact cz hz,by decide⟩,?_⟩
  ·unfold aF;rw[if_neg (by rintro rfl;rw[n2] at L;exact Ew L),L]
  ·unfold bW;refine J L ?_;exact append_nil _
end
noncomputable abbrev rE(w pk:Addr)(wt:List LN)(word:LN)(f:Nat)(t:TA)(hx:Addr)(ks:LN)(cD:Addr)(wv rv lv:PV):Map:=[(("w":Str),PV.ref w),("wanted",.tup (wt.map aC)),("picks",.ref pk),("word",aC word),("fresh",pid f),(("tab":Str),PV.ref t.x),("host",.ref hx),("types",.tup (ks.map pid)),("target",.tup (RK.eG wt ks).row),("cuts",.ref cD),("want",wv),("rows",rv),("laid",lv)]
noncomputable def rK(ks:LN)(o:Option (List LN)):Option (List LN):=match o with
 |some ps=>match eY ks ps with
  |true=>some ps
  |false=>none
 |none=>none
theorem vc{ps:List LN}(h:eY ks ps=false):rK ks (some ps)=none:=by
 refine(?_:(match eY ks ps with
  |true=>some ps
  |false=>none)=none)
 exact J h rfl
theorem yp{ps:List LN}(h:eY ks ps=true):rK ks (some ps)=some ps:=by
 refine(?_:(match eY ks ps with
  |true=>some ps
  |false=>none)=some ps)
 exact J h rfl
theorem BO{o:Option (List LN)}{l:List LN}(h:rK ks o=some l):o=some l:=by
 induction o with
 |none=>exact bL h
 |some ps=>
  induction q:eY ks ps with
  |true=>rw[yp q] at h;exact h
  |false=>rw[vc q] at h;exact bL h
theorem zT(word w0 wn:LN)(mid:List LN)(ks:LN):gH word w0 mid wn ks=rK ks (cX word w0 mid wn).head?:=by unfold gH rK;refine J (Dj _ _ _ _) ?_<;>rfl
structure DD (w0:LN) (mid:List LN) (wn word picks:LN):Prop where
 hp:∀p∈picks,p<8
 hl:picks.length=mid.length+1
 hm:mid.length<=2
 hw:∀x∈w0::(mid++[wn]),x.length<=2/\∀u∈x,g5 u=true
 vt:∀u∈word,g5 u=true
 uv:word.length<=16
noncomputable abbrev Oi(w pk:Addr)(wt:List LN)(word:LN)(f:Nat):Map:=[(("w":Str),PV.ref w),("wanted",.tup (wt.map aC)),("picks",.ref pk),("word",aC word),("fresh",pid f)]
noncomputable abbrev Ee(w pk:Addr)(wt:List LN)(word:LN)(f:Nat)(t:TA)(hx:Addr)(ks:LN):Map:=Oi w pk wt word f++[(("tab":Str),PV.ref t.x),("host",.ref hx),("types",.tup (ks.map pid)),("target",.tup (RK.eG wt ks).row)]
section
variable {hx hd sg w st:Addr}
theorem Hj(ft:Ft c)(hA:Rm 9 A)(L:LW t hx hd st sg w V rs)(hz:rs.length<500000){word:LN}{f:Nat}{pk:Addr}(z7:V pk=some (.lst (picks.map pid)))(X:DD w0 mid wn word picks)(hf:f<=1)
  (h:∀σ' aW,LW t hx hd st sg w σ' aW->Fix t V σ'->aW.length<=rs.length+100->Q (.bool true) σ'):aw c A φ (.ref 672) [.ref w,.tup ((w0::(mid++[wn])).map aC),.ref pk,aC word,pid f] V Q:=by
 have zl:sizeLine=2^24:=rfl;obtain ⟨hp,hl,hm,hw,vt,uv⟩:=X;generalize hO:(cX word w0 mid wn).head? =o;have vG:=λl (e:o=some l)=>vB (hO.trans e);refine enter ft "_law_text" (hA:Rm (8+1) A) rfl rfl rfl rfl (bp5 λ_ _ _ _ _=>rfl) rfl λ_ A' aG=>?_;refine nK ft (Oi w pk (w0::(mid++[wn])) word f++[(("tab":Str),PV.ref t.x)]) ⟨nC L.hw rfl ⟨rfl,rfl⟩⟩ ?_;refine nK ft (Oi w pk (w0::(mid++[wn])) word f++[(("tab":Str),PV.ref t.x),("host",.ref hx)]) ⟨nC L.hw rfl ⟨rfl,rfl⟩⟩ ?_;refine vV ft (Oi w pk (w0::(mid++[wn])) word f++[(("tab":Str),PV.ref t.x),("host",.ref hx),("types",.tup ((picks.map iW).map pid))]) (λσ'=>Kp V σ') ⟨?_⟩ λσ' k1=>?_
 ·refine bF (λm v=>bh m "n" v) aG.handled (by rfl) (eh ft ?_)
  refine eU ft (aO.lst z7) (by exact EC zl hl hm) (λi acc σ'=>acc=(((picks.take i).map iW).map pid)/\V=σ') ⟨rfl,rfl⟩ (λ_ _ _ zf=>aA zf λ_ e=>e▸z7) (λC i p c0 hi cw acc σ' zq=>?_) (λacc σ' D zq hD=>?_)
  ·refine aA zq λq1 q2=>?_;clear zq
   subst q1 q2;have h8:=hp p (mem_of_getElem? hi);refine dF (L.jd h8) λitems a s1 s2 s3 s4=>?_;refine⟨nC L.hw rfl ⟨cG (k:=p) s1 s3 (by exact JI h8) ⟨bw 0 rfl ⟨?_,rfl⟩⟩⟩⟩;refine J take_add_one (J hi ?_);simp
  ·refine aA zq λq1 q2=>?_;clear zq
   subst q1 q2;refine J take_length ?_;refine⟨dn ae (by refine J map_map (J (length_map _) (?_));exact EC zl hl hm) ⟨rfl,Kp.new hD⟩⟩
 have L1:=L.kp k1;have Y2:=k1 _ _ z7;generalize mK:picks.map iW=ks at*;have z8:ks.length=mid.length+1:=by refine rS mK (J (length_map _) ?_);exact hl
 refine nK ft (Ee w pk (w0::(mid++[wn])) word f t hx ks) ⟨rfl,rfl⟩ ?_;refine dO ft (λm' av=>∃cD,mz (m'=Ee w pk (w0::(mid++[wn])) word f t hx ks++[(("cuts":Str),PV.ref cD)]) (Kp V av) (LL av cD (cX word w0 mid wn))) ⟨sy ft aG.le (by exact cz uv) (λx hx=>by have:=(hw x hx).1;exact cz this) (by exact cz hm) λay cD k2 hcD n0=>(dY cD rfl (λa o e=>k2 _ _ (k1 a o e)) n0)⟩ λm' ay zq=>?_;refine gn zq λcD e1 k2 n0=>?_;clear zq;subst e1;refine dO ft (λm' av=>∃wv,mz (m'=Ee w pk (w0::(mid++[wn])) word f t hx ks++[(("cuts":Str),PV.ref cD),("want",wv)]) (Kp V av) (DU o wv av)) ⟨λe he=>⟨ne_nil aG (n0.kp (Kp.new he)) ae (bZ (λq=>?_) λq=>?_)⟩⟩ λm' aD zq=>?_
 ·induction hc:cX word w0 mid wn using LC with
  |nil=>rw[hc] at q;exact iD q
  |cons l r=>
   rw[hc] at hO n0;refine aK n0 λds d1 d2 d3=>?_;clear n0;induction ds using LC with
   |nil=>exact qp d2
   |cons d ds=>
    have Nf:=ai (o:=.lst []) he d1;refine⟨cG (k:=0) Nf rfl (by decide) (dY (.ref d) rfl (λa o q=>ai he (k2 a o q)) ?_)⟩;refine rS hO ?_;exact aj d rfl (ai he (d3 0 d l rfl rfl))
 ·induction hc:cX word w0 mid wn using LC with
  |nil=>
   rw[hc] at hO;refine(dY .none rfl (λa o q=>ai he (k2 a o q)) ?_);refine rS hO ?_;rfl
  |cons l r=>rw[hc] at q;exact rB q
 refine gn zq λwv e1 k3 ow=>?_;clear zq;subst e1;clear n0;refine dO ft (λm' av=>∃rv,m'=Ee w pk (w0::(mid++[wn])) word f t hx ks++[(("cuts":Str),PV.ref cD),("want",wv),("rows",rv)]/\Kp V av/\DU o wv av/\J2 (o.map (·.map λp=>([p],[]))) rv av) ?_ λm' bB zq=>?_
 ·induction o with
  |none=>cases ow;exact dg .none rfl k3 rfl rfl
  |some ps=>
   refine ah ow λd au ed=>?_;clear ow;subst au;have pl:=(vG ps rfl).2;refine⟨bF (λm v=>bh m "piece" v) aG.handled (by rfl) (eh ft ?_)⟩;refine eU ft (aO.lst ed) (by exact HV zl hm pl) (λi acc σ'=>acc=((ps.take i).map λp=>dx ([p],[]))/\aD=σ') ⟨rfl,rfl⟩ (λ_ _ _ zf=>aA zf λ_ e=>e▸ed) (λC i p c0 hi cw acc σ' zq=>?_) (λacc σ' D zq hD=>?_)
   ·refine aA zq λq1 q2=>?_;clear zq
    subst q1 q2;refine⟨?_,rfl⟩;refine J take_add_one (J hi ?_);simp
   ·refine aA zq λq1 q2=>?_;clear zq
    subst q1 q2;refine J take_length ?_;exact(dg (.ref D) rfl (λa o q=>ai hD (k3 a o q)) ⟨d,rfl,ai hD ed⟩ ⟨D,rfl,by refine J map_map ?_;exact ae⟩)
 refine cZ zq λrv e1 k4 ow orr=>?_;clear zq;subst e1;refine dO ft (λm' av=>∃lv,m'=rE w pk (w0::(mid++[wn])) word f t hx ks cD wv rv lv/\Kp V av/\DU o wv av/\J2 (o.map (·.map λp=>([p],[]))) rv av/\GX (o.map (·.map λp=>[p])) lv av) ?_ λm' cW zq=>?_
 ·induction o with
  |none=>cases ow;exact dg .none rfl k4 rfl ⟨orr,rfl⟩
  |some ps=>
   refine ah ow λd au ed=>?_;clear ow;subst au;have pl:=(vG ps rfl).2;refine⟨bF (λm v=>bh m "piece" v) aG.handled (by rfl) (eh ft ?_)⟩;refine eU ft (aO.lst ed) (by exact HV zl hm pl) (λi acc σ'=>∃ds:List Addr,rC (acc=ds.map .ref) (ds.length=i) (Kp bB σ') ((∀(j:Nat) dd p,ds[j]? =some dd->ps[j]? =some p->σ' dd=some (.lst [aC p])))) ⟨[],rfl,rfl,λ_ _ e=>e,λj dd p e=>by exact bL e⟩ (λ_ _ _ zf=>cS zf λ_ _ _ k _=>k _ _ ed) (λC i p c0 hi cw acc σ' zq=>?_) (λacc σ' D zq hD=>?_)
   ·refine cS zq λds q1 q2 q3 q4=>?_;clear zq
    subst q1 q2;refine⟨λD' yI=>(fi (ds++[D']) (by refine J map_append ?_;rfl) (by refine J length_append ?_;rfl) (λa o q=>ai yI (q3 a o q)) (λj dd p' h1 h2=>?_))⟩
    by_cases q:j<ds.length
    ·rw[getElem?_append_left q] at h1
     exact ai yI (q4 j dd p' h1 h2)
    ·rw[getElem?_append_right (by exact wB q)] at h1
     have:j=ds.length:=by have:=ar h1;replace this:=Nat.lt_one_iff.mp this;exact BJ q this
     subst this;rw[hi] at h2;obtain rfl:=sI h2;simp at h1;subst h1;exact ae
   ·refine cS zq λds q1 q2 q3 q4=>?_;clear zq
    subst q1;refine(dg (.ref D) rfl (λa o q=>ai hD (q3 _ _ (k4 a o q))) ⟨d,rfl,ai hD (q3 _ _ ed)⟩ ⟨orr.kp λa o q=>ai hD (q3 a o q),⟨D,rfl,ds,ae,by refine J (length_map _) ?_;exact q2,λi dd ss h1 h2=>?_⟩⟩);refine ah (iE h2) λp hi zr=>?_;clear h2;subst zr;exact ai hD (q4 i dd p h1 hi)
 refine pj zq λlv e1 k5 ow orr ol=>?_;clear zq;subst e1;have L5:=L.kp k5;have IS:=k5 _ _ z7;clear k2 k3 k4 Y2 L1
 have Cw:qU [word] [] w0 mid wn=o.map (·.map λp=>([p],[])):=by
  have no:∀l:LN,m8 (λ_=>none) l:=λl u _=>rfl;have:=qT (kf:=λ_=>none) (sg:=word) (w0:=w0) (mid:=mid) (wn:=wn) (no _) (λw _=>no w) (no _);rw[fE (no word),hO] at this;refine J this ?_
  congr 1
  funext l
  exact map_congr_left λp _=>fE (no p)
 have wz:∀x∈w0::(mid++[wn]),x.length<=1000:=λx hx=>by have:=(hw x hx).1;exact cz this
 have tz:∀x∈word::([]:List LN),x.length<=1000:=λx hx=>by refine J (mem_singleton.mp hx) ?_;exact cz uv
 refine vV ft (rE w pk (w0::(mid++[wn])) word f t hx ks cD wv rv lv) (λav=>Kp cW av) ⟨xu (t0:=word) (ts:=[]) (ks:=[]) ft aG.le (by decide) (by decide) (by exact cz hm) tz wz (λσ' d ps e k _ ed=>?_) λσ' e k=>?_⟩ λgv k6=>?_
 ·rw[Cw] at e
  induction o with
  |none=>exact bL e
  |some l=>obtain rfl:=sI e;(refine ah orr λdr au er=>?_;clear orr;subst au);exact⟨BQ aG ed (k _ _ er) ⟨rfl,k⟩⟩
 ·rw[Cw] at e
  induction o with
  |some l=>exact fB e
  |none=>cases orr;exact⟨lQ aG ⟨rfl,k⟩⟩
 have L6:=L5.kp k6;have ow6:=ow.kp k6;have ol6:=ol.kp k6
 have PH:∀(rs:List RK) l,o=some l->∀p∈l,(∀u∈p,om u)/\p.length<=16:=λrs l e p hp=>by have:=(vG l e).1 p hp;exact⟨λu hu=>CH (vt u (this.subset hu)),by have:=this.length_le;exact H7 uv this⟩
 refine dO ft (λm' av=>∃aW,sS (m'=rE w pk (w0::(mid++[wn])) word f t hx ks cD wv rv lv) (LW t hx hd st sg w av aW) (Fix t gv av) (rs<+:aW) (aW.length<=rs.length+27)) ⟨wN (t0:=word) (ts:=[]) (ks:=[]) (ks':=ks) ft aG.le L6.W (by exact m9 hz) (by decide) (by decide) (by exact cz hm) tz wz (λps e=>?_) (λσ' aW d ps vs e W' F P Z _ ed hv hR=>?_) λσ' e k=>?_⟩ λm' gR zq=>?_
 ·rw[Cw] at e
  induction o with
  |none=>exact bL e
  |some l=>
   obtain rfl:=sI e;refine⟨by refine J (length_map _) (J ((vG l rfl).2) ?_);exact Lq hm,λp hp=>?_⟩;refine ah (mem_map.mp hp) λq h1 au=>?_;subst au;refine aA (PH rs l rfl q h1) λa b=>?_;exact tJ a (by exact cz b)
 ·rw[Cw] at e
  induction o with
  |none=>exact bL e
  |some l=>
   obtain rfl:=sI e;have ll:=(vG l rfl).2;rw[length_map] at hv Z;have Lp:=L6.fix W' F P;have rd:∀(i:Nat) p v,l[i]? =some p->vs[i]? =some v->Rd aW (fF rs ([p],[])) v:=λi p v h1 h2=>hR i _ v (by refine J getElem?_map (J h1 ?_);rfl) h2;obtain ⟨dl,rfl,el⟩:=ol6.fix L6 F λx e=>by obtain rfl:=sI e;exact⟨by refine J (length_map _) ?_;exact Ow hm ll,λss hs=>by(refine ah (mem_map.mp hs) λp _ au=>?_;subst au);exact Nat.lt_of_sub_eq_succ rfl⟩
   refine⟨tC ft aG.le W'.T Lp.xi Lp.hw (by exact Lo hz hm Z ll) ed (by exact Ln hm hv ll) (λv sC=>?_) λav D O7 k hD n0 hlen EY=>⟨BS aG (n0.of_eq (by refine J (length_map _) ?_;exact Lm hv hlen) λi ss jw h1 h2=>?_) (el.kp k) (fx aW rfl (Lp.kp k) (λa o q n1 n2=>k _ _ (F a o q n1 n2)) P (by exact Ll hm Z ll))⟩⟩
   ·refine bK (mem_iff_getElem?.mp sC) λi hi=>?_
    obtain ⟨p,IU⟩:∃p,l[i]? =some p:=⟨_,getElem?_eq_getElem (by have:=ar hi;exact ED hv this)⟩;refine aA (PH rs l rfl p (mem_of_getElem? IU)) λa b=>?_;exact tD (tJ a (by exact cz b)) (rd i p v IU hi)
   ·refine ah (iE h2) λp hi zr=>?_;clear h2;subst zr
    obtain ⟨v,sC⟩:∃v,vs[i]? =some v:=⟨_,getElem?_eq_getElem (by have:=ar hi;exact Gn hv this)⟩;refine aA (PH rs l rfl p (mem_of_getElem? hi)) λa b=>?_;refine aA (EY i ss v h1 sC) λs1 s2=>?_;exact Eh a (by exact cz b) (rd i p v hi sC) s1 s2
 ·rw[Cw] at e
  induction o with
  |some l=>exact fB e
  |none=>cases ol;exact⟨tE ft aG.le ⟨lQ aG (fx rs rfl (L6.kp k) (λa o q _ _=>k a o q) prefix_rfl (by exact Lk))⟩⟩
 refine fz zq λfu e1 L7 F7 P7 Z7=>?_;clear zq;subst e1;have Oq:=ow6.fix L6 F7 λl e=>by have:=(vG l e).2;exact Ow hm this
 have vy:=gA L6.W.T L6.pre F7 (k6 _ _ IS) (by refine J (length_map _) ?_;exact H6 hl hm);refine dO ft (λm' av=>∃xK,mz (m'=rE w pk (w0::(mid++[wn])) word f t hx ks cD xK rv lv) (Kp gR av) (DU (rK ks o) xK av)) ⟨bP aG.handled (by rfl) (eh ft ⟨iJ vy (by refine J (length_map _) ?_;exact EC zl hl hm) ⟨iS λrg ky=>?_⟩⟩)⟩ λm' mi zq=>?_
 ·refine J (length_map _) (J hl ?_)
  have kr:Kp gR (upd gR rg (.gx 0 ((mid.length+1:Nat):Int))):=Kp.new ky
  refine⟨_,_,aO.gx ae (by decide) (by exact Lj hm) (by decide) (by exact H8),λj m' σ'=>∃xK,mz (m'=rE w pk (w0::(mid++[wn])) word f t hx ks cD xK rv lv) (σ'=upd gR rg (.gx 0 ((mid.length+1:Nat):Int))) (((xK=.none/\rK ks o=none)∨(xK=wv/\∃ps,o=some ps/\∀(i:Nat) k p,i<j->ks[i]? =some k->ps[i]? =some p->(!(k==7)||c6 p)=true))),
   (dY wv rfl rfl ?_),λ_ _ _ _=>rfl,λj v c0 hv cw mm σ' zq=>go ft ?_,λmm σ' zq=>go ft ?_⟩
  ·induction o with
   |none=>cases Oq;exact .inl ⟨rfl,rfl⟩
   |some ps=>exact .inr (cL rfl ps rfl (λi k p h=>absurd h (Nat.not_lt_zero _)))
  ·refine gn zq λxK q1 q2 q3=>?_;clear zq
   subst q1 q2;refine aA (kJ hv) λhj au=>?_;subst au;rcases q3 with ⟨rfl,q3⟩|⟨rfl,ps,rfl,q3⟩
   ·exact jZ _ .none rfl rfl (.inl ⟨rfl,q3⟩) (Le.all ⟨rfl,rfl,rfl,rfl,rfl,rfl,rfl,rfl,rfl,rfl,rfl,rfl,rfl,trivial⟩)
   ·refine ah Oq λd au ed=>?_;clear Oq;subst au
    have pl:=(vG ps rfl).2;obtain ⟨p,OM⟩:∃p,ps[j]? =some p:=⟨_,getElem?_eq_getElem (by exact Tf hj pl)⟩;obtain ⟨q,hq⟩:∃q,picks[j]? =some q:=⟨_,getElem?_eq_getElem (by exact H5 hl hj)⟩;have hk:ks[j]? =some (iW q):=by refine rS mK (J getElem?_map (J hq ?_));rfl
    refine pj (oq (hp q (mem_of_getElem? hq))) λ_ _ _ _ k7 _=>?_;have Gv:=(vG ps rfl).1 p (mem_of_getElem? OM);have JR:=Gv.length_le;have bp:c6 p=ff p:=nT (λu hu=>vt u (Gv.subset hu)) (by exact H7 uv JR)
    have next:(!(iW q==7)||c6 p)=true->∀(i:Nat) k p,i<j+1->ks[i]? =some k->ps[i]? =some p->(!(k==7)||c6 p)=true:=λok i k' p' hi h1 h2=>by
     by_cases e:i=j
     ·subst e;rw[hk] at h1;rw[OM] at h2;obtain rfl:=sI h1;obtain rfl:=sI h2;exact ok
     ·exact q3 i k' p' (by exact Lx hi e) h1 h2
    refine⟨cG (k:=j) (kr _ _ vy) (by refine J getElem?_map (J hq ?_);rfl) (by exact HU hm hj) ?_⟩;refine bZ (λq1=>?_) λq1=>?_
    ·have q1:(q==1)=true:=by
      have q1:((q:Int)==((1:Nat):Int))=true:=q1;rw[eT] at q1;exact q1
     refine⟨cG (k:=j) (kr _ _ ed) (by refine J getElem?_map (J OM ?_);rfl) (by exact HU hm hj) ⟨so ft aG.le (by exact Li uv JR) ?_⟩⟩;induction hpr:ff p with
     |true=>exact(jZ _ (.ref d) rfl rfl (.inr (cL rfl ps rfl (next (by exact J bp (J hpr (J (Bool.or_true _) rfl)))))) (Le.all ⟨rfl,rfl,rfl,rfl,rfl,rfl,rfl,rfl,rfl,rfl,rfl,rfl,rfl,trivial⟩))
     |false=>
      refine(jZ _ .none rfl rfl (.inl ⟨rfl,?_⟩) (Le.all ⟨rfl,rfl,rfl,rfl,rfl,rfl,rfl,rfl,rfl,rfl,rfl,rfl,rfl,trivial⟩));exact vc (oi hk OM (by refine J k7 (J q1 (J bp (J hpr ?_)));rfl))
    ·have q1:(q==1)=false:=by
      have q1:((q:Int)==((1:Nat):Int))=false:=q1;rw[eT] at q1;exact q1
     exact(jZ _ (.ref d) rfl rfl (.inr (cL rfl ps rfl (next (by refine J k7 (J q1 ?_);rfl)))) (Le.all ⟨rfl,rfl,rfl,rfl,rfl,rfl,rfl,rfl,rfl,rfl,rfl,rfl,rfl,trivial⟩))
  ·refine gn zq λxK q1 q2 q3=>?_;clear zq
   subst q1 q2;refine(dY xK rfl kr ?_);rcases q3 with ⟨rfl,q3⟩|⟨rfl,ps,rfl,q3⟩
   ·refine J q3 ?_;rfl
   ·have:rK ks (some ps)=some ps:=yp (mE λi k p h1 h2=>q3 i k p (by have:=ar h1;simp;exact Te z8 this) h1 h2)
    refine J this ?_;exact Oq.kp kr
 refine gn zq λxK e1 k8 Oo=>?_;clear zq;subst e1;have L8:=L7.kp k8;have Gw:gH word w0 mid wn ks=rK ks o:=by exact J (zT _ _ _ _ _) (J hO rfl)
 generalize hO2:rK ks o=o2 at*;have vF:∀l,o2=some l->(∀p∈l,p.Sublist word)/\l.length=mid.length+1:=λl e=>vG l (BO (hO2.trans e));refine vV ft (rE w pk (w0::(mid++[wn])) word f t hx ks cD xK rv lv) (λav=>Kp mi av) ⟨tQ ft aG.le z8 (by exact cz uv) wz (by exact cz hm) (λσ' d ps e k _ ed=>?_) λσ' e k=>?_⟩ λpW k9=>?_
 ·rw[Gw] at e
  subst e
  (refine ah Oo λdr au er=>?_;clear Oo;subst au);exact⟨yt aG ed (k _ _ er) ⟨rfl,k⟩⟩
 ·rw[Gw] at e
  subst e;cases Oo;exact⟨lQ aG ⟨rfl,k⟩⟩
 have L9:=L8.kp k9;have ow9:=Oo.kp k9;refine dO ft (λm' av=>mz (m'=rE w pk (w0::(mid++[wn])) word f t hx ks cD xK rv lv++[(("text":Str),pid (dN fu (.str word f)))]) (LW t hx hd st sg w av (cJ fu (.str word f))) (Fix t pW av)) ⟨AZ ft aG.le L9.W.T (by exact Td hz Z7) λσ' T' F _=>⟨rfl,L9.fix (L9.W.put T' F) F (dq _ _),F⟩⟩ λm' G7 zq=>?_;refine fp zq λe1 La Fa=>?_;clear zq;subst e1;have YZ:=k9 _ _ (k8 _ _ vy);have IQ:=gA L9.W.T L9.pre Fa YZ (by refine J (length_map _) ?_;exact H6 hl hm);have Om:=ow9.fix L9 Fa λl e=>by have:=(vF l e).2;exact Ow hm this
 have gs:=du fu (.str word f);have ls:=d7 fu (.str word f);have ps:=dq fu (.str word f);generalize cJ fu (.str word f)=bu at*;generalize dN fu (.str word f)=sv at*;have lsv:=ar gs;obtain ⟨HB,Zx⟩:∃b:Bool,(b=true↔(2∈picks∨3∈picks)):=⟨decide _,decide_eq_true_iff⟩;refine nK ft (rE w pk (w0::(mid++[wn])) word f t hx ks cD xK rv lv++[(("text":Str),pid sv),("holes",.bool HB)]) ⟨Ci aG IQ rfl (nv _) (by refine J (nI _) ?_;decide) (bZ (λq=>?_) λq=>⟨Ci aG IQ rfl (nv _) (by refine J (nI _) ?_;decide) ⟨?_,rfl⟩⟩)⟩ ?_
 ·have:HB=true:=Zx.mpr (.inl ((uj picks 2).mp q))
  refine J this (J q ?_);exact⟨rfl,rfl⟩
 ·have n2:¬2∈picks:=λm=>by have:=(uj picks 2).mpr m;rw[show ((picks.map pid).any λp=>PV.qP p (.int ((2:Nat):Int)))=false from q] at this;exact iD this
  have:HB=((picks.map pid).any λp=>PV.qP p (.int 3)):=by refine rI Bool.eq_iff_iff (rI Zx ?_);refine Iff.trans ⟨λh=>h.elim (λz=>absurd z n2) id,.inr⟩ (uj picks 3).symm
  refine J this ?_;rfl
 have Zi:∀x∈ks,fj x:=λx hx=>by rw[<-mK] at hx;refine ah (mem_map.mp hx) λp h1 au=>?_;subst au;refine aK (oq (hp p h1)) λ_ _ a _=>?_;exact a
 refine dO ft (λm' av=>∃fq,sS (m'=rE w pk (w0::(mid++[wn])) word f t hx ks cD xK rv lv++[(("text":Str),pid sv),("holes",.bool HB)]) (LW t hx hd st sg w av fq) (Fix t G7 av) (bu<+:fq) (fq.length<=bu.length+1)) ⟨_,_,fX ft La.W.T,dJ ft,⟨jf ft aG.le La.W.T (.eG (w0::(mid++[wn])) ks) (by exact Tc hz Z7 ls) λσ' T' F _=>?_⟩⟩ λm' G6 zq=>?_
 ·have pr:=dq bu (.eG (w0::(mid++[wn])) ks)
  have gt:=du bu (.eG (w0::(mid++[wn])) ks);have lt:=d7 bu (.eG (w0::(mid++[wn])) ks);have Lb:=La.fix (La.W.put T' F) F pr;obtain ⟨t1,t2⟩:=Hi Lb.pre gt Zi (by exact Ta hm z8);refine⟨E2 ft aG.le Lb.W (by exact S9 hz Z7 ls lt) (cf pr gs) gt t1 t2 z8 (by exact cz uv) wz (by exact cz hm) λav b k hb=>?_⟩;rw[Gw,zJ Lb.pre gt Zi,<-mK,tK hp,<-Zx] at hb;have fin:LW t hx hd st sg w av (cJ bu (.eG (w0::(mid++[wn])) ks))/\Fix t G7 av:=⟨Lb.kp k,λa o e n1 n2=>k _ _ (F a o e n1 n2)⟩;induction o2 with
  |none=>
   cases Om;have:b=false:=Bool.eq_false_iff.mpr λe=>(hb.mp e).2 rfl;subst this;exact fx _ rfl fin.1 fin.2 pr lt
  |some l=>
   refine ah Om λd au ed=>?_;clear Om;subst au
   have:b=!HB:=by refine rI Bool.eq_iff_iff (rI hb ?_);induction HB<;>simp
   subst this;induction HB<;>exact(fx _ rfl fin.1 fin.2 pr lt)
 refine fz zq λfq e1 Lb Fb Pb Zb=>?_;clear zq;subst e1;have gsb:=cf Pb gs;have MR:=gA La.W.T La.pre Fb IQ (by refine J (length_map _) ?_;exact H6 hl hm);have PI:=Om.fix La Fb λl e=>by have:=(vF l e).2;exact Ow hm this
 have Zc:∀l,o2=some l->(zV picks l).length=mid.length+1:=λl e=>by rw[BZ (by refine J ((vF l e).2) ?_;exact hl),(vF l e).2]
 refine dO ft (λm' av=>∃Pg,mz (m'=rE w pk (w0::(mid++[wn])) word f t hx ks cD Pg rv lv++[(("text":Str),pid sv),("holes",.bool HB)]) (Kp G6 av) (GX (o2.map (zV picks)) Pg av)) ?_ λm' σc zq=>?_
 ·induction o2 with
  |none=>cases PI;exact dY .none rfl (λ_ _ e=>e) rfl
  |some l=>
   refine ah PI λd au ed=>?_;clear PI;subst au;have pl:=(vF l rfl).2;refine⟨qh (by rfl) (bF (λm v=>bh m "k" v) aG.handled (by rfl) (eh ft ⟨iJ MR (by refine J (length_map _) ?_;exact EC zl hl hm) ⟨iS λrg ky=>?_⟩⟩))⟩;refine J (length_map _) (J hl ?_);have kr:Kp G6 (upd G6 rg (.gx 0 ((mid.length+1:Nat):Int))):=Kp.new ky;refine⟨_,_,aO.gx ae (by decide) (by exact Lj hm) (by decide) (by exact H8),by refine J (length_map _) (J length_range ?_);exact S8 zl hm,λi acc σ'=>∃ds:List Addr,sS (acc=ds.map .ref) (ds.length=i) (Kp G6 σ') (σ' rg=some (.gx 0 ((mid.length+1:Nat):Int))) ((∀(j:Nat) dd p x,ds[j]? =some dd->picks[j]? =some p->l[j]? =some x->σ' dd=some (.lst [aC (qw p x)]))),(fx [] rfl rfl kr ae (λj dd p x e=>by exact bL e)),λ_ _ _ _=>rfl,λC c0 m' σ' x Q' _ hq=>fM (by rfl) hq,λm' x y _ _=>de m' _ x y,λC i x c0 gE cw acc σ' zq=>?_,λacc σ' D zq hD=>?_⟩
   ·refine fz zq λds q1 q2 q3 qr q4=>?_;clear zq
    subst q1 q2;refine aA (kJ gE) λhi au=>?_;subst au;obtain ⟨x,JP⟩:∃x,l[ds.length]? =some x:=⟨_,getElem?_eq_getElem (by exact H5 pl hi)⟩;obtain ⟨p,DQ⟩:∃p,picks[ds.length]? =some p:=⟨_,getElem?_eq_getElem (by exact H5 hl hi)⟩;have xz:=((vF l rfl).1 x (mem_of_getElem? JP)).length_le
    have fin:∀(y:LN) (D':Addr),y=qw p x->σ' D'=none->∃ds':List Addr,sS ((ds.map PV.ref++[.ref D'])=ds'.map .ref) (ds'.length=ds.length+1) (Kp G6 (upd σ' D' (.lst [aC y]))) (upd σ' D' (.lst [aC y]) rg=some (.gx 0 ((mid.length+1:Nat):Int))) (∀(j:Nat) dd p x,ds'[j]? =some dd->picks[j]? =some p->l[j]? =some x->upd σ' D' (.lst [aC y]) dd=some (.lst [aC (qw p x)])):=λy D' ey yI=>by
     refine(fx (ds++[D']) (by refine J map_append ?_;rfl) (by refine J length_append ?_;rfl) (λa o q=>ai yI (q3 a o q)) (ai yI qr) (λj dd p' x' h1 h2 h3=>?_))
     by_cases q:j<ds.length
     ·rw[getElem?_append_left q] at h1
      exact ai yI (q4 j dd p' x' h1 h2 h3)
     ·rw[getElem?_append_right (by exact wB q)] at h1
      have:j=ds.length:=by have:=ar h1;replace this:=Nat.lt_one_iff.mp this;exact BJ q this
      subst this;rw[DQ] at h2;obtain rfl:=sI h2;rw[JP] at h3;obtain rfl:=sI h3;simp at h1;subst h1;refine rS ey ?_;exact ae
    refine jy ((if_pos rfl).mpr (eh ft ⟨cG (k:=ds.length) (p:=pid p) (q3 _ _ MR) (by refine J getElem?_map (J DQ ?_);rfl) (by exact HU hm hi) (bZ (λq=>?_) λq=>?_)⟩))
    ·have q:((p:Int)==((3:Nat):Int))=true:=q
     rw[eT,beq_iff_eq] at q;refine⟨cG (k:=ds.length) (p:=aC x) (q3 _ _ ed) (by refine J getElem?_map (J JP ?_);rfl) (by exact HU hm hi) ⟨so ft aG.le (by exact Li uv xz) (bZ (λq'=>?_) λq'=>?_)⟩⟩
     ·refine⟨cG (k:=ds.length) (p:=aC x) (q3 _ _ ed) (by refine J getElem?_map (J JP ?_);rfl) (by exact HU hm hi) ⟨lC (x:=S [35]) (by refine J (bI _) (J (bI _) ?_);dsimp;exact S6 zl uv xz) ?_⟩⟩
      refine J (iO _ _) ?_;exact⟨λD' yI=>fin _ D' (by unfold qw;refine J (if_pos ⟨q,q'⟩) ?_;rfl) yI⟩
     ·exact⟨cG (k:=ds.length) (p:=aC x) (q3 _ _ ed) (by refine J getElem?_map (J JP ?_);rfl) (by exact HU hm hi) ⟨λD' yI=>fin _ D' (by unfold qw;exact J (if_neg (λz=>by rw[q'] at z;exact absurd z.2 (by decide))) rfl) yI⟩⟩
    ·have q:((p:Int)==((3:Nat):Int))=false:=q
     rw[eT,beq_eq_false_iff_ne] at q;exact⟨cG (k:=ds.length) (p:=aC x) (q3 _ _ ed) (by refine J getElem?_map (J JP ?_);rfl) (by exact HU hm hi) ⟨λD' yI=>fin _ D' (by unfold qw;exact J (if_neg (λz=>q z.1)) rfl) yI⟩⟩
   ·refine fz zq λds q1 q2 q3 qr q4=>?_;clear zq
    subst q1;rw[length_map,length_range] at q2;refine(dY (.ref D) rfl (λa o q=>ai hD (q3 a o q)) ⟨D,rfl,ds,ae,by refine J (Zc l rfl) (J q2 ?_);exact S5,λi dd ss h1 h2=>?_⟩);refine aV (tS h2) λp x h3 h4 au=>?_;subst au;exact ai hD (q4 i dd p x h1 h3 h4)
 refine gn zq λPg e1 kc oc=>?_;clear zq;subst e1;have Lc:=Lb.kp kc;have pz3:fq.length<=rs.length+30:=by exact S4 Z7 ls Zb
 have HL:aI<+:fq:=Lc.pre;have Oe:Fix t V σc:=λa o e n1 n2=>kc _ _ (Fb _ _ (Fa _ _ (k9 _ _ (k8 _ _ (F7 _ _ (k6 _ _ (k5 _ _ e)) n1 n2))) n1 n2) n1 n2);refine go ft ⟨zc ft aG.le Lc.W (by exact S0 hz Z7 ls Zb) gsb z8 (by exact cz uv) wz (by exact cz hm) (λk hk=>?_) (λσ' aW d Gl vs e W' F P Z _ ed hv Zd=>?_) λσ' e k=>?_⟩
 ·refine bt (jK.1 k (jz (Zi k hk))) λ_ _ Iz=>?_
  refine aK (iI HL Iz) λr e1 e2 _=>?_;exact aj r e2 (λj e=>(BG ⟨k,Iz⟩).2.2 j (e▸e1))
 ·rw[Gw] at e
  subst e;have OO:=(vF Gl rfl).2;have Lp:=Lc.fix W' F P
  have lit:∀(i v:Nat) p x,picks[i]? =some p->Gl[i]? =some x->vs[i]? =some v->(∃q,aW[v]? =some q)/\aF aW v=[v]/\BK aW v/\bW aW v=qw p x:=λi v p x h1 h2 h3=>by have h8:=hp p (mem_of_getElem? h1);have hsx:=(vF Gl rfl).1 x (mem_of_getElem? h2);obtain ⟨_,_,Iz⟩:=jK.1 (iW p) (jz (by refine aK (oq h8) λ_ _ a _=>?_;exact a));refine aK (iI HL Iz) λr e1 e2 _=>?_;have:=hsx.length_le;exact BY W'.hb HL h8 e2 (λu hu=>vt u (hsx.subset hu)) (by exact H7 uv this) (Zd i (iW p) x v r (by refine rS mK (J getElem?_map (J h1 ?_));rfl) h2 h3 e2)
  obtain ⟨dl,rfl,el⟩:=oc.fix Lc F λx e=>by obtain rfl:=sI e;exact⟨by refine J (Zc Gl rfl) ?_;exact SY hm,λss hs=>by refine bK (mem_iff_getElem?.mp hs) λi hi=>?_;(refine aV (tS hi) λp x _ _ au=>?_;subst au);exact Nat.lt_of_sub_eq_succ rfl⟩
  refine⟨tC ft aG.le W'.T Lp.xi Lp.hw (by exact SX hz hm z8 Z7 ls Zb Z) ed (by exact SW hm z8 hv) (λv sC=>?_) λav D O7 k hD n0 hlen EY=>⟨GI aG (n0.of_eq (by refine J (Zc Gl rfl) ?_;exact SV z8 hv hlen) λi ss jw h1 h2=>?_) (el.kp k) (h _ aW (Lp.kp k) (λa o q n1 n2=>k _ _ (F _ _ (Oe a o q n1 n2) n1 n2)) (by exact SU hm z8 Z7 ls Zb Z))⟩⟩
  ·refine bK (mem_iff_getElem?.mp sC) λi hi=>?_
   have:=ar hi;obtain ⟨p,h1⟩:∃p,picks[i]? =some p:=⟨_,getElem?_eq_getElem (by exact SS hl z8 hv this)⟩;obtain ⟨x,h2⟩:∃x,Gl[i]? =some x:=⟨_,getElem?_eq_getElem (by exact SR z8 hv OO this)⟩;refine cT (lit i v p x h1 h2 hi) λa b d _=>?_;exact(aN a (λq hq=>by rw[b] at hq;refine J (mem_singleton.mp hq) ?_;exact d) (by refine J b ?_;exact Nat.lt_of_sub_eq_succ rfl))
  ·refine aV (tS h2) λp x h3 h4 au=>?_;subst au
   obtain ⟨v,sC⟩:∃v,vs[i]? =some v:=⟨_,getElem?_eq_getElem (by have:=ar h1;exact ED hlen this)⟩;refine cT (lit i v p x h3 h4 sC) λa b d e=>?_;have:=(EY i ss v h1 sC).1;rw[b,map_cons,map_nil,e] at this;exact perm_singleton.mp this
 ·rw[Gw] at e
  subst e;cases oc;exact⟨tE ft aG.le ⟨FH aG .none .none (by decide) (h _ fq (Lc.kp k) (λa o q n1 n2=>k _ _ (Oe a o q n1 n2)) (by exact SQ pz3))⟩⟩
end
section
variable {hx hd sg w st:Addr}
theorem Jy(ft:Ft c)(hA:Rm 9 A)(L:LW t hx hd st sg w V rs)(hz:rs.length<500000){word:LN}{ot:Nat}{pk:Addr}(z7:V pk=some (.lst (picks.map pid)))(X:DD w0 mid wn word picks)(ho:ot<6)
  (h:∀σ' aW,LW t hx hd st sg w σ' aW->Fix t V σ'->aW.length<=rs.length+100->Q (.bool true) σ'):aw c A φ (.ref 682) [.ref w,.tup ((w0::(mid++[wn])).map aC),.ref pk,aC word,pid ot] V Q:=by
 have zl:sizeLine=2^24:=rfl;obtain ⟨hp,hl,hm,hw,vt,uv⟩:=X;refine enter ft "_law_bare" (hA:Rm (8+1) A) rfl rfl rfl rfl (bp5 λ_ _ _ _ _=>rfl) rfl λ_ A' aG=>?_;refine nK ft ([(("w":Str),PV.ref w),("wanted",.tup ((w0::(mid++[wn])).map aC)),("picks",.ref pk),("word",aC word),("other",pid ot),("tab",.ref t.x)]) ⟨nC L.hw rfl ⟨rfl,rfl⟩⟩ ?_;refine nK ft ([(("w":Str),PV.ref w),("wanted",.tup ((w0::(mid++[wn])).map aC)),("picks",.ref pk),("word",aC word),("other",pid ot),("tab",.ref t.x),("host",.ref hx)]) ⟨nC L.hw rfl ⟨rfl,rfl⟩⟩ ?_;refine vV ft ([(("w":Str),PV.ref w),("wanted",.tup ((w0::(mid++[wn])).map aC)),("picks",.ref pk),("word",aC word),("other",pid ot),("tab",.ref t.x),("host",.ref hx),("target",.tup (RK.eG (w0::(mid++[wn])) (picks.map iW)).row)]) (λσ'=>Kp V σ') ⟨?_⟩ λσ' k1=>?_
 ·refine bF (λm v=>bh m "n" v) aG.handled (by rfl) (eh ft ?_)
  refine eU ft (aO.lst z7) (by exact EC zl hl hm) (λi acc σ'=>acc=(((picks.take i).map iW).map pid)/\V=σ') ⟨rfl,rfl⟩ (λ_ _ _ zf=>aA zf λ_ e=>e▸z7) (λC i p c0 hi cw acc σ' zq=>?_) (λacc σ' D zq hD=>?_)
  ·refine aA zq λq1 q2=>?_;clear zq
   subst q1 q2;have h8:=hp p (mem_of_getElem? hi);refine dF (L.jd h8) λitems a s1 s2 s3 s4=>?_;refine⟨nC L.hw rfl ⟨cG (k:=p) s1 s3 (by exact JI h8) ⟨bw 0 rfl ⟨?_,rfl⟩⟩⟩⟩;refine J take_add_one (J hi ?_);simp
  ·refine aA zq λq1 q2=>?_;clear zq
   subst q1 q2;refine J take_length ?_;refine⟨dn ae (by refine J map_map (J (length_map _) (?_));exact EC zl hl hm) ⟨rfl,Kp.new hD⟩⟩
 have L1:=L.kp k1;have z8:(picks.map iW).length=mid.length+1:=by refine J (length_map _) ?_;exact hl
 generalize picks.map iW=ks at*;have wz:∀x∈w0::(mid++[wn]),x.length<=1000:=λx hx=>by have:=(hw x hx).1;exact cz this
 have D1:=wz w0 (.head _);refine dO ft (λm' av=>mh λfu tk=>sS (m'=[(("w":Str),PV.ref w),("wanted",.tup ((w0::(mid++[wn])).map aC)),("picks",.ref pk),("word",aC word),("other",pid ot),("tab",.ref t.x),("host",.ref hx),("target",.tup (RK.eG (w0::(mid++[wn])) ks).row),("t",pid tk)]) (LW t hx hd st sg w av fu) (Fix t V av) (fu.length<=rs.length+1) (fu[tk]? =some (.eG (w0::(mid++[wn])) ks))) ⟨_,_,fX ft L1.W.T,dJ ft,⟨jf ft aG.le L1.W.T (.eG (w0::(mid++[wn])) ks) (by exact m9 hz) λσ' T' F _=>(dE _ _ rfl (L1.fix (L1.W.put T' F) F (dq _ _)) (λa o e n1 n2=>F _ _ (k1 _ _ e) n1 n2) (d7 _ _) (du _ _))⟩⟩ λm' σ₁ zq=>?_;refine d5 zq λfu tk e1 L2 F1 Z1 ht=>?_;clear zq;subst e1;refine nK ft ([(("w":Str),PV.ref w),("wanted",.tup ((w0::(mid++[wn])).map aC)),("picks",.ref pk),("word",aC word),("other",pid ot),("tab",.ref t.x),("host",.ref hx),("target",.tup (RK.eG (w0::(mid++[wn])) ks).row),("t",pid tk),("lone",.tup [aC w0])]) ⟨eZ.tup (by simp;exact SP zl hm) (by refine J (show (1:Int)=((1:Nat):Int) from rfl) (J (Bl _ _) ?_);exact⟨rfl,rfl⟩)⟩ ?_;refine dO ft (λm' av=>∃bu,sS (m'=[(("w":Str),PV.ref w),("wanted",.tup ((w0::(mid++[wn])).map aC)),("picks",.ref pk),("word",aC word),("other",pid ot),("tab",.ref t.x),("host",.ref hx),("target",.tup (RK.eG (w0::(mid++[wn])) ks).row),("t",pid tk),("lone",.tup [aC w0])]) (LW t hx hd st sg w av bu) (Fix t σ₁ av) (fu<+:bu) (bu.length<=fu.length+4)) ⟨bP aG.handled (by rfl) (eh ft ⟨bw 0 rfl ?_⟩)⟩ λm' ay zq=>?_
 ·refine⟨_,_,aO.tup [aC word,aC w0],λj m' σ'=>∃bu,sS (m'=[(("w":Str),PV.ref w),("wanted",.tup ((w0::(mid++[wn])).map aC)),("picks",.ref pk),("word",aC word),("other",pid ot),("tab",.ref t.x),("host",.ref hx),("target",.tup (RK.eG (w0::(mid++[wn])) ks).row),("t",pid tk),("lone",.tup [aC w0])]) (LW t hx hd st sg w σ' bu) (Fix t σ₁ σ') (fu<+:bu) (bu.length<=fu.length+2*j),
   ⟨fu,rfl,L2,Fix.refl,prefix_rfl,Nat.le_refl _⟩,λ_ _ _ _=>rfl,λj v c0 hv cw mm σ' zq=>?_,λmm σ' zf=>fz zf λbu q1 L3 F2 P2 Z2=>go ft (fx bu q1 L3 F2 P2 Z2)⟩
  refine fz zq λbu q1 L3 F2 P2 Z2=>?_;clear zq;subst q1;have hj:j<2:=ar hv
  obtain ⟨x,rfl,hxz⟩:∃x,v=aC x/\x.length<=1000:=by
   match j,hj with
   |0,_=>cases hv;exact(aj word rfl (by exact cz uv))
   |1,_=>cases hv;exact aj w0 rfl D1
  have es:(S x==S w0)=(x==w0):=cH x w0;obtain ⟨b,hb⟩:∃b:Bool,b=(S x==S w0):=⟨_,rfl⟩;refine nK ft ([(("w":Str),PV.ref w),("wanted",.tup ((w0::(mid++[wn])).map aC)),("picks",.ref pk),("word",aC word),("other",pid ot),("tab",.ref t.x),("host",.ref hx),("target",.tup (RK.eG (w0::(mid++[wn])) ks).row),("t",pid tk),("lone",.tup [aC w0]),("text",aC x),("same",.bool b)]) ⟨bw 0 rfl (by refine J hb ?_;exact⟨rfl,rfl⟩)⟩ ?_;refine vV ft ([(("w":Str),PV.ref w),("wanted",.tup ((w0::(mid++[wn])).map aC)),("picks",.ref pk),("word",aC word),("other",pid ot),("tab",.ref t.x),("host",.ref hx),("target",.tup (RK.eG (w0::(mid++[wn])) ks).row),("t",pid tk),("lone",.tup [aC w0]),("text",aC x),("same",.bool b)]) (λav=>Kp σ' av) ⟨vg ft aG.le (λe d I3=>?_) λe=>?_⟩ λaD k3=>?_
  ·have:b=true:=by refine J hb (J es (J e ?_));exact beq_self_eq_true _
   subst this;exact⟨λd' pD=>⟨yt (l:=[]) aG (ai pD ae) ae ⟨rfl,λa o q=>ai pD (ai I3 q)⟩⟩⟩
  ·have:b=false:=by refine J hb (J es ?_);exact beq_eq_false_iff_ne.mpr e
   subst this;exact⟨lQ aG ⟨rfl,λa o q=>q⟩⟩
  have L4:=L3.kp k3;have g1:=du bu (.str x 0);have l1:=d7 bu (.str x 0);have p1:=dq bu (.str x 0);have g2:=du (cJ bu (.str x 0)) (.eG [w0] []);have l2:=d7 (cJ bu (.str x 0)) (.eG [w0] []);have p2:=dq (cJ bu (.str x 0)) (.eG [w0] []);refine go ft ⟨wQ ft aG.le L4.W.T (by exact SO hz Z1 Z2 hj) λbB T4 F4 _=>?_⟩;have L5:=L4.fix (L4.W.put T4 F4) F4 p1;refine⟨_,_,fX ft L5.W.T,dJ ft,⟨jf ft aG.le L5.W.T (.eG [w0] []) (by exact SN hz Z1 Z2 hj l1) λcW T5 F5 _=>?_⟩⟩;have L6:=L5.fix (L5.W.put T5 F5) F5 p2;refine⟨Cr ft aG.le L6.W (by exact SM hz Z1 Z2 hj l1 l2) (cf p2 g1) g2 λgv k6=>?_⟩;have:(x==w0)=b:=by exact J hb (J es rfl)
  refine J this ?_;refine nR (by induction b<;>rfl) (aj _ ⟨_,rfl,L6.kp k6,λa o e n1 n2=>k6 _ _ (F5 _ _ (F4 _ _ (k3 _ _ (F2 _ _ e n1 n2)) n1 n2) n1 n2),P2.trans (p1.trans p2),by exact SK Z2 l1 l2⟩ (Le.all (d4 rfl rfl rfl rfl rfl rfl rfl rfl rfl rfl trivial)))
 refine fz zq λbu e1 L3 F2 P2 Z2=>?_;clear zq;subst e1;have ht2:=cf P2 ht;have g1:=du bu (.num 1 0);have l1:=d7 bu (.num 1 0);have p1:=dq bu (.num 1 0);refine dO ft (λm' av=>DW λfq sk r=>DX (m'=[(("w":Str),PV.ref w),("wanted",.tup ((w0::(mid++[wn])).map aC)),("picks",.ref pk),("word",aC word),("other",pid ot),("tab",.ref t.x),("host",.ref hx),("target",.tup (RK.eG (w0::(mid++[wn])) ks).row),("t",pid tk),("lone",.tup [aC w0]),("s",pid sk)]) (LW t hx hd st sg w av fq) (Fix t ay av) (bu<+:fq) (fq.length<=bu.length+1) (fq[sk]? =some r) (r.no≠3) ((ot≠5->dC r≠6/\∀i f,r=.num i f->i.natAbs.log2<1920))) ⟨BN ft aG.le L3.W.T (by exact SJ hz Z1 Z2) λaD T3 F3 _=>⟨λD hD=>?_⟩⟩ λm' aD zq=>?_
 ·have L4:=(L3.fix (L3.W.put T3 F3) F3 p1).kp (Kp.new (o:=.lst [.int 6,.int 7,.int 5,.int 9,pid (dN bu (.num 1 0)),pid tk]) hD)
  have F4:Fix t ay (upd aD D (.lst [.int 6,.int 7,.int 5,.int 9,pid (dN bu (.num 1 0)),pid tk])):=λa o e n1 n2=>ai hD (F3 _ _ e n1 n2);have hb:=L4.W.hb
  match ot,ho with
  |0,_=>exact⟨cG (k:=0) ae rfl (by decide) (eC _ 6 _ rfl L4 F4 p1 l1 (hb.at_ rfl) (by decide) (λ_=>⟨by decide,λi f e=>by exact Oj e⟩))⟩
  |1,_=>exact⟨cG (k:=1) ae rfl (by decide) (eC _ 7 _ rfl L4 F4 p1 l1 (hb.at_ rfl) (by decide) (λ_=>⟨by decide,λi f e=>by exact Oj e⟩))⟩
  |2,_=>exact⟨cG (k:=2) ae rfl (by decide) (eC _ 5 _ rfl L4 F4 p1 l1 (hb.at_ rfl) (by decide) (λ_=>⟨by decide,λi f e=>by exact Oj e⟩))⟩
  |3,_=>exact⟨cG (k:=3) ae rfl (by decide) (eC _ 9 _ rfl L4 F4 p1 l1 (hb.at_ rfl) (by decide) (λ_=>⟨by decide,λi f e=>by exact Oj e⟩))⟩
  |4,_=>exact⟨cG (k:=4) ae rfl (by decide) (eC _ _ _ rfl L4 F4 p1 l1 g1 (by refine(?_:(4:Int)≠3);decide) (λ_=>⟨(by refine(?_:(7:Int)≠6);decide),λi f e=>by cases e;decide⟩))⟩
  |5,_=>exact⟨cG (k:=5) ae rfl (by decide) (eC _ tk _ rfl L4 F4 p1 l1 (cf p1 ht2) (by refine(?_:(18:Int)≠3);decide) (λh=>absurd rfl h))⟩
 refine i9 zq λfq sk r e1 L4 F3 P3 Z3 hs Cs hwk=>?_;clear zq;subst e1;have fin:Q (.bool true) aD:=h _ fq L4 (F1.trans (F2.trans F3)) (by exact SH Z1 Z2 Z3);refine go ft ⟨Cq ft aG.le L4.W (by exact SG hz Z1 Z2 Z3) hs (cf P3 ht2) Cs (bZ (λe=>?_) λe=>?_)⟩
 ·have e:((ot:Int)==((5:Nat):Int))=true:=e
  refine(?_:Q (.bool ((ot:Int)==((5:Nat):Int))) aD);refine J e ?_;exact fin
 ·have e:((ot:Int)==((5:Nat):Int))=false:=e
  rw[eT,beq_eq_false_iff_ne] at e;exact⟨Ei ft aG.le L4.W (by exact SF hz Z1 Z2 Z3) hs (hwk e).1 (hwk e).2 fin⟩
end
section
open PySem.NumText
section
variable {kf:Nat->Option Nat}
theorem jC:∀(l:LN) (t:LN),t∈(aL kf l).1->(∀u∈t,u∈l/\kf u=none)/\t.length<=l.length
 |[],t,h=>by have:t=[]:=mem_singleton.mp h;subst this;exact⟨(λu hu=>nomatch hu),Nat.le_refl _⟩
 |v::r,t,h=>by
  refine b0 (eS (kf:=kf) r) λx X ex _=>?_
  have tl:t∈(aL kf r).1->(∀u∈t,u∈v::r/\kf u=none)/\t.length<=(v::r).length:=λhm=>by refine aA (jC r t hm) λa b=>?_;exact⟨λu hu=>⟨.tail _ (a u hu).1,(a u hu).2⟩,Nat.le_succ_of_le b⟩
  induction q:kf v with
  |some k=>
   rw[ck q] at h;rcases mem_cons.mp h with rfl|h
   ·exact⟨(λu hu=>nomatch hu),Nat.zero_le _⟩
   ·exact tl h
  |none=>
   rw[dH q,ex] at h;rcases mem_cons.mp h with rfl|h
   ·obtain ⟨a,b⟩:=jC r x (by refine J ex ?_;exact .head _)
    refine⟨λu hu=>?_,Nat.succ_le_succ b⟩;rcases mem_cons.mp hu with rfl|hu
    ·exact⟨.head _,q⟩
    ·exact⟨.tail _ (a u hu).1,(a u hu).2⟩
   ·exact tl (by refine J ex ?_;exact .tail _ h)
theorem qj:∀(l:LN),(∀k∈(aL kf l).2,∃u∈l,kf u=some k)/\(aL kf l).2.length=(l.filter λu=>(kf u).isSome).length
 |[]=>⟨(λk h=>nomatch h),rfl⟩
 |v::r=>by
  refine aA (qj r) λa b=>?_;induction q:kf v with
  |some k=>
   refine J (ck q) (J filter_cons (J q ?_));refine⟨λk' h=>?_,by exact Eq.symm ((λ{a b}=>Nat.succ_inj.mpr) (id (Eq.symm b)))⟩;rcases mem_cons.mp h with rfl|h
   ·exact aj v (.head _) q
   ·refine ah (a k' h) λu h1 h2=>?_;exact aj u (.tail _ h1) h2
  |none=>
   refine J (dH q) (J filter_cons (J q ?_));exact⟨λk' h=>by refine ah (a k' h) λu h1 h2=>?_;exact(aj u (.tail _ h1) h2),by simpa using b⟩
end
theorem filter_le{α:Type}{p q:α->Bool}:∀(l:List α),(∀u∈l,p u=true->q u=true)->(l.filter p).length<=(l.filter q).length
 |[],_=>Nat.le_refl _
 |a::r,h=>by
  have ih:=filter_le r λu hu=>h u (.tail _ hu);refine J filter_cons (J filter_cons ?_);induction e:p a with
  |true=>refine J (h a (.head _) e) ?_;simp;exact ih
  |false=>induction q a<;>dsimp<;>omega
structure DG (kf:Nat->Option (Nat×Addr)) (wf:Nat->List LN):Prop where
 k:∀u p,kf u=some p->fj p.1/\xY p.1=wf u
 g:∀u,g5 u=true->kf u=none
 z:∀u,(wf u).length<=2/\∀w∈wf u,w.length<=2
theorem yA(h:kk kf u=some k):∃a,kf u=some (k,a):=by
 unfold kk at h;induction q:kf u with
 |none=>rw[q] at h;exact bL h
 |some p=>rw[q] at h;obtain rfl:=sI h;exact⟨p.2,rfl⟩
theorem EP(h:kk kf u=none):kf u=none:=by
 unfold kk at h;induction q:kf u with
 |none=>rfl
 |some p=>rw[q] at h;exact fB h
theorem BF(hp:aI<+:rs)(K:DG kf wf){l:LN}(hc:∀u∈l,g5 u=true∨kf u≠none)(h3:oX l<=3)(hz:l.length<=100):md rs (aL (kk kf) l):=by
 refine aA (qj (kf:=kk kf) l) λa b=>?_;refine⟨kI l,λt ht u hu=>?_,λt ht=>Nat.le_trans (jC l t ht).2 hz,?_,λk hk=>?_⟩
 ·refine aA ((jC l t ht).1 u hu) λh1 h2=>?_
  exact CH ((hc u h1).resolve_right λn=>n (EP h2))
 ·refine J b ?_
  refine Nat.le_trans (filter_le l λu hu e=>?_) h3;induction q:g5 u with
  |false=>rfl
  |true=>
   refine bK (Option.isSome_iff_exists.mp e) λk e=>?_;refine bK (yA e) λa e=>?_;rw[K.g u q] at e;exact bL e
 ·refine ah (a k hk) λu _ e=>?_
  refine bK (yA e) λad e=>?_;exact((BL (K.k u _ e).1).pre hp).1
theorem FZ{kf:Nat->Option (Nat×Addr)}{wf:Nat->List LN}(K:DG kf wf)(l:LN):(ef kf wf l).length<=2^oX l/\∀w∈ef kf wf l,w.length<=2*l.length:=by
 refine fZ (P:=λl=>(ef kf wf l).length<=2^oX l/\∀w∈ef kf wf l,w.length<=2*l.length) ⟨Nat.le_refl 1,λw hw=>?_⟩ (λl u zq=>?_) l
 ·have:w=[]:=mem_singleton.mp hw
  subst this;exact Nat.le_refl _
 ·refine aA zq λa b=>?_;clear zq
  refine J (mI _ _ _ _) (J (gX _ _) ?_);unfold hN
  have mem:∀(ws:List LN),(∀x∈ws,x.length<=2)->∀w∈(ef kf wf l).flatMap (λw=>ws.map (w++·)),w.length<=2*(l++[u]).length:=λws h w hw=>by refine ah (mem_flatMap.mp hw) λw1 h1 h2=>?_;refine ah (mem_map.mp h2) λx h3 au=>?_;subst au;have:=b w1 h1;have:=h x h3;refine J length_append (J length_append (J length_singleton ?_));exact Xf (by assumption) this
  have len:∀(ws:List LN),((ef kf wf l).flatMap (λw=>ws.map (w++·))).length=(ef kf wf l).length*ws.length:=λws=>by refine J length_flatMap ?_;simp only[length_map];exact J map_const' (J sum_replicate_nat rfl)
  induction q:kf u with
  |none=>
   simp only;refine⟨?_,mem _ λx hx=>by refine J (mem_singleton.mp hx) ?_;exact(by decide:1<=2)⟩;refine J (len _) ?_;refine Nat.le_trans (by simpa using a) (Nat.pow_le_pow_right (by decide) (Nat.le_add_right _ _))
  |some p=>
   simp only;refine⟨?_,mem _ (K.z u).2⟩;refine J (len _) ?_
   have:oX [u]=1:=by
    unfold oX
    have:g5 u=false:=by
     induction g:g5 u with
     |false=>rfl
     |true=>rw[K.g u g] at q;exact bL q
    simp[this]
   refine J this (J (Nat.pow_succ _ _) ?_);exact Nat.mul_le_mul a (K.z u).1
theorem iL(T:dc t V rs bs)(hp:aI<+:rs)(F:Fix t V σ'){l:List PV}(e:V a=some (.lst l))(hl:∀p∈l,∀r,p≠.tup r):σ' a=some (.lst l):=by
 refine F _ _ e ?_ ?_<;>rintro rfl
 ·rw[T.rows] at e;cases e
  have:rs[0]? =some (.key "any"):=cf hp rfl;exact hl (.tup (RK.key "any").row) (by refine J map_map ?_;exact mem_map.mpr (aj _ (mem_of_getElem? this) rfl)) _ rfl
 ·rw[T.index] at e;exact kB e
theorem LL.CQ(T:dc t V rs bs)(hp:aI<+:rs)(F:Fix t V σ')(h:LL V d L):LL σ' d L:=by refine aK h λds a b e=>?_;clear h;exact(bb ds (iL T hp F a (λp hp r q=>by(refine ah (mem_map.mp hp) λx _ au=>?_;subst au);exact Gj q)) b (λi dd ss h1 h2=>iL T hp F (e i dd ss h1 h2) (λp hp r q=>by(refine ah (mem_map.mp hp) λx _ au=>?_;subst au);exact Gj q)))
theorem oM.fix(T:dc t V rs bs)(F:Fix t V σ')(h:oM V kd kf):oM σ' kd kf:=by
 refine ah h λlk a b=>?_;clear h;refine(aj lk (F _ _ a ?_ ?_) b)<;>rintro rfl
 ·rw[T.rows] at a;exact kB a
 ·rw[T.index] at a;exact kB a
theorem rk.fix(T:dc t V rs bs)(hp:aI<+:rs)(F:Fix t V σ')(h:rk V kf wf):rk σ' kf wf:=λu p e=>iL T hp F (h u p e) (λp hp r q=>by(refine ah (mem_map.mp hp) λx _ au=>?_;subst au);exact Gj q)
def uk(kf:Nat->Option (Nat×Addr))(wf:Nat->List LN)(ps:List LN)(L:List (List LN)):Prop:=L.length=ps.length/\∀(i:Nat) ss p,L[i]? =some ss->ps[i]? =some p->ss.Nodup/\uM ss/\∀w,w∈ss↔w∈jJ (ef kf wf p)
theorem p0(hp:aI<+:rs)(K:DG kf wf){ps:List LN}{vs:LN}{L':List (List LN)}(ho:∀p∈ps,md rs (aL (kk kf) p))(hv:vs.length=ps.length)(hR:∀(i:Nat) p v,ps[i]? =some p->vs[i]? =some v->Rd aW (fF rs (aL (kk kf) p)) v)
  (hL:L.length=vs.length) (hs:∀(i:Nat) ss v,L[i]? =some ss->vs[i]? =some v->ss.Perm ((aF aW v).map (bW aW))/\uM ss) (hW:uk kf wf ps L'):L=L':=by
 refine aA hW λw1 w2=>?_;clear hW;refine ext_getElem? λi=>?_
 by_cases q:i<L.length
 ·obtain ⟨ss,e1⟩:∃ss,L[i]? =some ss:=⟨_,getElem?_eq_getElem q⟩
  obtain ⟨jw,e2⟩:∃ss,L'[i]? =some ss:=⟨_,getElem?_eq_getElem (by exact Xe hv hL w1 q)⟩;obtain ⟨v,e3⟩:∃v,vs[i]? =some v:=⟨_,getElem?_eq_getElem (by exact ED hL q)⟩;obtain ⟨p,e4⟩:∃p,ps[i]? =some p:=⟨_,getElem?_eq_getElem (by exact Xd hv hL q)⟩;refine aA (hs i ss v e1 e3) λa1 a2=>?_;refine bt (w2 i jw p e2 e4) λb1 b2 b3=>?_;have o:=ho p (mem_of_getElem? e4);exact J e1 (J e2 (J (yb o (hR i p v e4 e3) a1 a2 b2 b1 λw=>by rw[b3,xg hp K.k o]) rfl))
 ·exact J (getElem?_eq_none (by exact wB q)) (J (getElem?_eq_none (by exact Xc hv hL w1 q)) rfl)
end
def O1(kf:Nat->Option (Nat×Addr))(wf:Nat->List LN)(o:Option (List LN))(v:PV)(V:St):Prop:=match o with
 |none=>v=.none
 |some ps=>∃d L,v=.ref d/\LL V d L/\uk kf wf ps L
theorem O1.kp{o:Option (List LN)}{v:PV}(h:O1 kf wf o v V)(k:Kp V σ'):O1 kf wf o v σ':=by
 induction o with
 |none=>exact h
 |some ps=>(refine aV h λd L a b e=>?_;clear h);exact dM d L a (b.kp k) e
noncomputable abbrev MU(w pk kd:Addr)(wt:List LN)(sg:LN):Map:=[(("w":Str),PV.ref w),("wanted",.tup (wt.map aC)),("picks",.ref pk),("signs",aC sg),("kinds",.ref kd)]
noncomputable abbrev t7(w pk kd:Addr)(wt:List LN)(sg:LN)(t:TA)(hx:Addr)(ks:LN)(p:Pc)(cD:Addr):Map:=MU w pk kd wt sg++[(("tab":Str),PV.ref t.x),("host",.ref hx),("target",.tup (RK.eG wt ks).row),("texts",.tup (p.1.map aC)),("types",.tup (p.2.map pid)),("cuts",.ref cD)]
section
variable {hx hd sg w st:Addr}
theorem E1(ft:Ft c)(hA:Rm 10 A)(L:LW t hx hd st sg w V rs)(hz:rs.length<500000){sn:LN}{pk:Addr}(z7:V pk=some (.lst (picks.map pid)))(X:DD w0 mid wn [] picks)(FO:ro [65,66,67] sn)(K:DG kf wf)(Kd:oM V kd kf)(Ws:rk V kf wf)(CC:∀u∈[65,66,67],kf u≠none)
  (h:∀σ' aW,LW t hx hd st sg w σ' aW->Fix t V σ'->aW.length<=rs.length+100->Q (.bool true) σ'):aw c A φ (.ref 677) [.ref w,.tup ((w0::(mid++[wn])).map aC),.ref pk,aC sn,.ref kd] V Q:=by
 have zl:sizeLine=2^24:=rfl;obtain ⟨hp,hl,hm,hw,_,_⟩:=X;obtain ⟨fc,f1,f2⟩:=FO;have JG:sn.length<=19:=by have:=kT sn;have:([65,66,67]:LN).length=3:=rfl;exact SE f1 f2 (by assumption) this
 have h3:oX sn<=3:=f2;have hc:∀u∈sn,g5 u=true∨kf u≠none:=λu hu=>(fc u hu).imp id (CC u);have wz:∀x∈w0::(mid++[wn]),x.length<=1000:=λx hx=>by have:=(hw x hx).1;exact cz this
 have JL:∀x∈w0::(mid++[wn]),m8 (kk kf) x:=λx hx u hu=>by unfold kk;refine J (K.g u ((hw x hx).2 u hu)) ?_;rfl
 generalize hO:(cX sn w0 mid wn).head? =o;have vG:=λl (e:o=some l)=>vB (hO.trans e);have iB:∀(rs:List RK),aI<+:rs->∀p:LN,p.Sublist sn->md rs (aL (kk kf) p):=λrs t6 p hs=>BF t6 K (λu hu=>hc u (hs.subset hu)) (Nat.le_trans (jg hs).2 h3) (by have:=hs.length_le;exact SD JG this)
 have wbd:∀p:LN,p.Sublist sn->∀i,(ef kf wf (p.take i)).length<64/\∀w∈ef kf wf (p.take i),w.length<=1000:=λp hs i=>by have s2:=(take_sublist i p).trans hs;refine aA (FZ K (p.take i)) λa b=>?_;have a2:=(jg s2).2;have a3:=s2.length_le;refine⟨Nat.lt_of_le_of_lt a (Nat.lt_of_le_of_lt (Nat.pow_le_pow_right (by decide) (by exact SA h3 a2:oX (p.take i)<=3)) (by decide)),λw hw=>by have:=b w hw;exact Sy JG a3 this⟩
 have wfz:∀u,(wf u).length<=1000:=λu=>by have:=(K.z u).1;exact cz this
 refine enter ft "_law_holed" (hA:Rm (9+1) A) rfl rfl rfl rfl (bp5 λ_ _ _ _ _=>rfl) rfl λ_ A' aG=>?_;refine nK ft (MU w pk kd (w0::(mid++[wn])) sn++[(("tab":Str),PV.ref t.x)]) ⟨nC L.hw rfl ⟨rfl,rfl⟩⟩ ?_;refine nK ft (MU w pk kd (w0::(mid++[wn])) sn++[(("tab":Str),PV.ref t.x),("host",.ref hx)]) ⟨nC L.hw rfl ⟨rfl,rfl⟩⟩ ?_;refine vV ft (MU w pk kd (w0::(mid++[wn])) sn++[(("tab":Str),PV.ref t.x),("host",.ref hx),("target",.tup (RK.eG (w0::(mid++[wn])) (picks.map iW)).row)]) (λσ'=>Kp V σ') ⟨?_⟩ λσ' k1=>?_
 ·refine bF (λm v=>bh m "n" v) aG.handled (by rfl) (eh ft ?_)
  refine eU ft (aO.lst z7) (by exact EC zl hl hm) (λi acc σ'=>acc=(((picks.take i).map iW).map pid)/\V=σ') ⟨rfl,rfl⟩ (λ_ _ _ zf=>aA zf λ_ e=>e▸z7) (λC i p c0 hi cw acc σ' zq=>?_) (λacc σ' D zq hD=>?_)
  ·refine aA zq λq1 q2=>?_;clear zq
   subst q1 q2;have h8:=hp p (mem_of_getElem? hi);refine dF (L.jd h8) λitems a s1 s2 s3 s4=>?_;refine⟨nC L.hw rfl ⟨cG (k:=p) s1 s3 (by exact JI h8) ⟨bw 0 rfl ⟨?_,rfl⟩⟩⟩⟩;refine J take_add_one (J hi ?_);simp
  ·refine aA zq λq1 q2=>?_;clear zq
   subst q1 q2;refine J take_length ?_;refine⟨dn ae (by refine J map_map (J (length_map _) (?_));exact EC zl hl hm) ⟨rfl,Kp.new hD⟩⟩
 have z8:(picks.map iW).length=mid.length+1:=by refine J (length_map _) ?_;exact hl
 generalize picks.map iW=ks at*;generalize z5:aL (kk kf) sn=rp;have hpo:=λrs hp=>z5▸iB rs hp sn (Sublist.refl _);refine vV ft (MU w pk kd (w0::(mid++[wn])) sn++[(("tab":Str),PV.ref t.x),("host",.ref hx),("target",.tup (RK.eG (w0::(mid++[wn])) ks).row),("texts",.tup (rp.1.map aC)),("types",.tup (rp.2.map pid))]) (λav=>Kp V av) ⟨uU (eh ft ⟨vi ft aG.le (Kd.kp k1) (by exact cz JG) λav k=>?_⟩)⟩ λay k2=>?_
 ·refine J (Bw _) (J z5 ?_)
  exact ui aG.handled (by rfl) (by rfl) ⟨rfl,λa o e=>k _ _ (k1 a o e)⟩
 refine dO ft (λm' av=>∃cD,mz (m'=t7 w pk kd (w0::(mid++[wn])) sn t hx ks rp cD) (Kp V av) (LL av cD (cX sn w0 mid wn))) ⟨sy ft aG.le (by exact cz JG) wz (by exact cz hm) λaD cD k3 hcD n0=>(dY cD rfl (λa o e=>k3 _ _ (k2 a o e)) n0)⟩ λm' aD zq=>?_;refine gn zq λcD e1 k3 n0=>?_;clear zq;subst e1;refine dO ft (λm' av=>∃rv,mz (m'=t7 w pk kd (w0::(mid++[wn])) sn t hx ks rp cD++[(("rows":Str),rv)]) (Kp aD av) (J2 (o.map (·.map (aL (kk kf)))) rv av)) ⟨λe he=>⟨eq_nil aG (n0.kp (Kp.new he)) ae (bZ (λq=>?_) λq=>?_)⟩⟩ λm' bB zq=>?_
 ·induction yH:cX sn w0 mid wn using LC with
  |nil=>
   rw[yH] at hO;refine(dY .none rfl (Kp.new he) ?_);refine rS hO ?_;rfl
  |cons l r=>rw[yH] at q;exact iD q
 ·induction yH:cX sn w0 mid wn using LC with
  |nil=>rw[yH] at q;exact rB q
  |cons ps r=>
   rw[yH] at hO n0;have ho:o=some ps:=hO.symm;refine aK n0 λds d1 d2 d3=>?_;clear n0;induction ds using LC with
   |nil=>exact qp d2
   |cons d ds=>
    have Nf:=ai (o:=.lst []) he d1;have ed:=ai (o:=.lst []) he (d3 0 d ps rfl rfl);refine aA (vG ps ho) λHK pl=>?_;refine⟨bF (λm v=>bh m "piece" v) aG.handled (by rfl) (eh ft ⟨cG (k:=0) Nf rfl (by decide) ?_⟩)⟩;refine eU ft (aO.lst ed) (by exact HV zl hm pl) (λi acc σ'=>acc=((ps.take i).map λp=>dx (aL (kk kf) p))/\Kp (upd aD e (.lst [])) σ') ⟨rfl,λ_ _ e=>e⟩ (λ_ _ _ zf=>aA zf λ_ k=>k _ _ ed) (λC i p c0 hi cw acc σ' zq=>?_) (λacc σ' D zq hD=>?_)
    ·refine aA zq λq1 q2=>?_;clear zq
     subst q1;have:=(HK p (mem_of_getElem? hi)).length_le;refine⟨vi ft aG.le ((Kd.kp k3).kp λa o q=>q2 _ _ (ai he q)) (by exact Lh JG this) λav k=>⟨?_,λa o q=>k _ _ (q2 _ _ q)⟩⟩;refine J (Bw _) (J take_add_one (J hi ?_));simp
    ·refine aA zq λq1 q2=>?_;clear zq
     subst q1;refine J take_length ?_;refine J ho ?_;exact(dY (.ref D) rfl (λa o q=>ai hD (q2 _ _ (ai he q))) ⟨D,rfl,by refine J map_map ?_;exact ae⟩)
 refine gn zq λrv e1 k4 orr=>?_;clear zq;subst e1;have CB:=n0.kp k4;have YI:Kp V bB:=λa o e=>k4 _ _ (k3 _ _ e);refine dO ft (λm' av=>∃lv,mz (m'=t7 w pk kd (w0::(mid++[wn])) sn t hx ks rp cD++[(("rows":Str),rv),("laid",lv)]) (Kp bB av) (O1 kf wf o lv av)) ⟨λe he=>⟨eq_nil aG (CB.kp (Kp.new he)) ae (bZ (λq=>?_) λq=>?_)⟩⟩ λm' cW zq=>?_
 ·induction yH:cX sn w0 mid wn using LC with
  |nil=>
   rw[yH] at hO;refine(dY .none rfl (Kp.new he) ?_);refine rS hO ?_;rfl
  |cons l r=>rw[yH] at q;exact iD q
 ·induction yH:cX sn w0 mid wn using LC with
  |nil=>rw[yH] at q;exact rB q
  |cons ps r=>
   rw[yH] at hO CB;have ho:o=some ps:=hO.symm;refine aK CB λds d1 d2 d3=>?_;clear CB;induction ds using LC with
   |nil=>exact qp d2
   |cons d ds=>
    have Nf:=ai (o:=.lst []) he d1;have ed:=ai (o:=.lst []) he (d3 0 d ps rfl rfl);refine aA (vG ps ho) λHK pl=>?_;refine⟨bF (λm v=>bh m "piece" v) aG.handled (by rfl) (eh ft ⟨cG (k:=0) Nf rfl (by decide) ?_⟩)⟩;refine eU ft (aO.lst ed) (by exact HV zl hm pl) (λi acc σ'=>∃(es:List Addr) (L':List (List LN)),acc=es.map .ref/\es.length=i/\L'.length=i/\i<=ps.length/\Kp (upd bB e (.lst [])) σ'/\(∀(j:Nat) (dd:Addr) (ss:List LN),es[j]? =some dd->L'[j]? =some ss->σ' dd=some (.lst (ss.map aC)))/\(∀(j:Nat) ss p,L'[j]? =some ss->ps[j]? =some p->ss.Nodup/\uM ss/\∀w,w∈ss↔w∈jJ (ef kf wf p))) ⟨[],[],rfl,rfl,rfl,Nat.zero_le _,λ_ _ e=>e,(λj dd ss e=>by exact bL e),λj ss p e=>by exact bL e⟩ (λ_ _ _ zf=>dj zf λ_ _ _ _ _ _ k _=>k _ _ ed) (λC i p c0 hi cw acc σ' zq=>?_) (λacc σ' D zq hD=>?_)
    ·refine ju zq λes L' q1 q2 sm qi q3 q4 q5=>?_;clear zq
     subst q1 q2;have psp:=HK p (mem_of_getElem? hi);have:=psp.length_le;refine⟨xN ft aG.le ((Kd.kp YI).kp λa o q=>q3 _ _ (ai he q)) ((Ws.kp YI).kp λa o q=>q3 _ _ (ai he q)) (by exact Lh JG this) wfz (wbd p psp) λav D' ss k yI eD n1 n2 n3=>?_⟩;refine(oN (es++[D']) (L'++[ss]) (by refine J map_append ?_;rfl) (by refine J length_append ?_;rfl) (by refine J length_append (J sm ?_);rfl) (ar hi) (λa o q=>k _ _ (q3 _ _ q)) (λj dd jw h1 h2=>?_) (λj jw p' h1 h2=>?_))
     ·by_cases q:j<es.length
      ·rw[getElem?_append_left q] at h1
       rw[getElem?_append_left (by exact Gn sm q)] at h2;exact k _ _ (q4 j dd jw h1 h2)
      ·rw[getElem?_append_right (by exact wB q)] at h1
       have:j=es.length:=by have:=ar h1;replace this:=Nat.lt_one_iff.mp this;exact BJ q this
       subst this;rw[getElem?_append_right (by exact JJ sm),sm] at h2;simp at h1 h2;subst h1 h2;exact eD
     ·by_cases q:j<L'.length
      ·rw[getElem?_append_left q] at h1
       exact q5 j jw p' h1 h2
      ·rw[getElem?_append_right (by exact wB q)] at h1
       have:j=es.length:=by have:=ar h1;replace this:=Nat.lt_one_iff.mp this;exact H3 sm q this
       subst this;rw[hi] at h2;obtain rfl:=sI h2;rw[sm,Nat.sub_self] at h1
       replace h1:=(Option.some.injEq _ _).mp h1;subst h1;exact aN n1 n2 n3
    ·refine ju zq λes L' q1 q2 sm qi q3 q4 q5=>?_;clear zq
     subst q1;refine J ho ?_;exact(dY (.ref D) rfl (λa o q=>ai hD (q3 _ _ (ai he q))) ⟨D,L',rfl,⟨es,ae,by exact H0 q2 sm,λi dd ss h1 h2=>ai hD (q4 i dd ss h1 h2)⟩,sm,q5⟩)
 refine gn zq λlv e1 k5 ov=>?_;clear zq;subst e1;have EB:=orr.kp k5;have k5':Kp V cW:=λa o e=>k5 _ _ (YI _ _ e);have L5:=L.kp k5';clear n0 CB orr;refine b0 (eS (kf:=kk kf) sn) λt0 ts et tl=>?_;rw[z5] at et tl
 have Cw:qU (t0::ts) rp.2 w0 mid wn=o.map (·.map (aL (kk kf))):=by have:=qT (kf:=kk kf) (sg:=sn) (w0:=w0) (mid:=mid) (wn:=wn) (JL _ (.head _)) (λx hx=>JL x (.tail _ (mem_append_left _ hx))) (JL _ (by simp));rw[z5,et,hO] at this;exact this
 have OI:rp.2.length<=3:=(hpo aI prefix_rfl).t;have tz:∀x∈t0::ts,x.length<=1000:=λx hx=>by have:=(hpo aI prefix_rfl).z x (by refine J et ?_;exact hx);exact cz this
 have emap:rp.1.map aC=(t0::ts).map aC:=by exact J et rfl
 refine dO ft (λm' av=>m'=t7 w pk kd (w0::(mid++[wn])) sn t hx ks rp cD++[(("rows":Str),rv),("laid",lv)]/\Kp cW av) ⟨(by
  refine(?_:aw c A' _ (.ref 397) [.tup (rp.1.map aC),.tup (rp.2.map pid),.tup ((w0::(mid++[wn])).map aC)] cW _);refine J emap ?_;refine xu ft aG.le (by exact Lf tl OI) (by exact cz OI) (by exact cz hm) tz wz (λσ' d ps e k _ ed=>?_) λσ' e k=>?_
  ·rw[Cw] at e
   induction o with
   |none=>exact bL e
   |some l=>obtain rfl:=sI e;(refine ah EB λdr au er=>?_;clear EB;subst au);exact⟨BQ aG ed (k _ _ er) ⟨rfl,k⟩⟩
  ·rw[Cw] at e
   induction o with
   |some l=>exact fB e
   |none=>cases EB;exact⟨lQ aG ⟨rfl,k⟩⟩)⟩ λm' gv zf=>aA zf λe1 k6=>?_
 subst e1;have L6:=L5.kp k6;have Ot:=ov.kp k6;have K6:Kp V gv:=λa o e=>k6 _ _ (k5' _ _ e)
 refine dO ft (λm' av=>∃aW,rC (m'=t7 w pk kd (w0::(mid++[wn])) sn t hx ks rp cD++[(("rows":Str),rv),("laid",lv)]) (LW t hx hd st sg w av aW) (Fix t gv av) (aW.length<=rs.length+27)) ⟨(by
  refine(?_:aw c A' _ (.ref 402) [.ref hx,.tup [.int 18,.tup (rp.1.map aC),.tup (rp.2.map pid)],.tup (RK.eG (w0::(mid++[wn])) ks).row] gv _);refine J emap ?_;refine wN (t0:=t0) (ts:=ts) (ks:=rp.2) (ks':=ks) ft aG.le L6.W (by exact m9 hz) (by exact Lf tl OI) (by exact cz OI) (by exact cz hm) tz wz (λps e=>?_) (λσ' aW d ps vs e W' F P Z _ ed hv hR=>?_) λσ' e k=>?_
  ·rw[Cw] at e
   induction o with
   |none=>exact bL e
   |some l=>
    obtain rfl:=sI e;refine⟨by refine J (length_map _) (J ((vG l rfl).2) ?_);exact Lq hm,λp hp=>?_⟩;refine ah (mem_map.mp hp) λq h1 au=>?_;subst au;exact iB rs L6.pre q ((vG l rfl).1 q h1)
  ·rw[Cw] at e
   induction o with
   |none=>exact bL e
   |some l=>
    obtain rfl:=sI e;have ll:=(vG l rfl).2;rw[length_map] at hv Z;have Lp:=L6.fix W' F P;have rd:∀(i:Nat) p v,l[i]? =some p->vs[i]? =some v->Rd aW (fF rs (aL (kk kf) p)) v:=λi p v h1 h2=>hR i _ v (by refine J getElem?_map (J h1 ?_);rfl) h2;refine aV Ot λdl O7 au el hW=>?_;clear Ot;subst au;have el:=LL.CQ L6.W.T L6.pre F el;refine⟨tC ft aG.le W'.T Lp.xi Lp.hw (by exact Lo hz hm Z ll) ed (by exact Ln hm hv ll) (λv sC=>?_) λav D L'' k hD n0 hlen EY=>⟨BS aG (L:=O7) ?_ (el.kp k) (fi aW rfl (Lp.kp k) (λa o q n1 n2=>k _ _ (F a o q n1 n2)) (by exact Ll hm Z ll))⟩⟩
    ·refine bK (mem_iff_getElem?.mp sC) λi hi=>?_
     obtain ⟨p,IU⟩:∃p,l[i]? =some p:=⟨_,getElem?_eq_getElem (by have:=ar hi;exact ED hv this)⟩;exact tD (iB rs L6.pre p ((vG l rfl).1 p (mem_of_getElem? IU))) (rd i p v IU hi)
    ·have:L''=O7:=p0 L6.pre K (λp hp=>iB rs L6.pre p ((vG l rfl).1 p hp)) hv rd hlen EY hW
     exact this▸n0
  ·rw[Cw] at e
   induction o with
   |some l=>exact fB e
   |none=>cases Ot;exact⟨tE ft aG.le ⟨lQ aG ⟨rs,rfl,L6.kp k,λa o q _ _=>k a o q,by exact Lk⟩⟩⟩)⟩ λm' gR zf=>cS zf λfu e1 L7 F7 Z7=>?_
 subst e1;have vy:=iL L6.W.T L6.pre F7 (K6 _ _ z7) (λp hp r q=>by(refine ah (mem_map.mp hp) λx _ au=>?_;subst au);exact Gj q);have Kd7:=oM.fix L6.W.T F7 (Kd.kp K6);have Ws7:=rk.fix L6.W.T L6.pre F7 (Ws.kp K6);clear EB Ot ov;generalize MV:([65,66,67]:LN).take (mid.length+1)=nm;have EG:nm.length=mid.length+1:=by refine rS MV (J length_take ?_);dsimp;exact Sx hm
 have nmi:∀u∈nm,u∈([65,66,67]:LN):=λu hu=>by rw[<-MV] at hu;exact mem_of_mem_take hu
 have Yx:∀u∈nm,∃p,kf u=some p:=λu hu=>Option.ne_none_iff_exists'.mp (CC u (nmi u hu));refine nK ft (t7 w pk kd (w0::(mid++[wn])) sn t hx ks rp cD++[(("rows":Str),rv),("laid",lv),("names",aC nm)]) ⟨iJ vy (by refine J (length_map _) ?_;exact EC zl hl hm) ⟨r8 (l:=[65,66,67]) (by refine J (length_map _) (J hl (J MV ?_));exact⟨rfl,rfl⟩) (by decide)⟩⟩ ?_;refine ah Kd7 λlk klk hlk=>?_;clear Kd7;generalize OP:(nm.map λu=>((kk kf u).getD 0))=xe;have zZ:xe.length=mid.length+1:=by exact rS OP (J (length_map _) (J EG rfl))
 have k3s:nm.map (kk kf)=xe.map some:=by refine rS OP (J map_map ?_);apply map_congr_left;intro u hu;refine bK (Yx u hu) λp e=>?_;unfold kk;simp[e]
 refine vV ft (t7 w pk kd (w0::(mid++[wn])) sn t hx ks rp cD++[(("rows":Str),rv),("laid",lv),("names",aC nm),("same",.tup (RK.eG (w0::(mid++[wn])) xe).row)]) (λav=>Kp gR av) ⟨?_⟩ λmi k8=>?_
 ·refine bF (λm v=>bh m "letter" v) aG.handled (by rfl) (eh ft ?_)
  refine⟨_,_,aO.str _,by simp;exact HV zl hm EG,λi acc σ'=>acc=((xe.take i).map pid)/\gR=σ',⟨rfl,rfl⟩,λ_ _ _ _=>rfl,λC c0 m' σ' x Q' _ hq=>fM (by rfl) hq,λm' x y _ _=>de m' _ x y,λC i x c0 gE cw acc σ' zq=>?_,λacc σ' D zq hD=>?_⟩
  ·refine aA zq λq1 q2=>?_;clear zq
   subst q1 q2;refine ah (p7 gE) λu hu au=>?_;subst au;refine bK (Yx u (mem_of_getElem? hu)) λp e=>?_;have:xe[i]? =some p.1:=by refine rS OP (J getElem?_map (J hu ?_));unfold kk;simp[e]
   refine jy ((if_pos rfl).mpr (eh ft ⟨nC klk (by refine J (hlk _) (J e ?_);rfl) ⟨bw 0 rfl ⟨?_,rfl⟩⟩⟩));refine J take_add_one (J this ?_);simp
  ·refine aA zq λq1 q2=>?_;clear zq
   subst q1 q2;have:((S nm).cps.toList.map λu=>PV.str ⟨#[u]⟩).length=xe.length:=by refine J zZ (rS EG ?_);exact length_map ..
   refine J this (J take_length ?_);refine⟨dn ae (by refine J (length_map _) (?_);exact HV zl hm zZ) ⟨rfl,Kp.new hD⟩⟩
 have L8:=L7.kp k8;have Kd8:oM mi kd kf:=(aj lk (k8 _ _ klk) hlk);have Ws8:=Ws7.kp k8;refine dO ft (λm' av=>∃dW Od,m'=t7 w pk kd (w0::(mid++[wn])) sn t hx ks rp cD++[(("rows":Str),rv),("laid",lv),("names",aC nm),("same",.tup (RK.eG (w0::(mid++[wn])) xe).row),("want",.ref dW)]/\Kp mi av/\LL av dW Od/\uk kf wf (nm.map λu=>[u]) Od) ⟨gU (λm v=>bh m "letter" v) aG.handled (by rfl) (by rfl) (by rfl) (eh ft ?_)⟩ λm' pW zq=>?_
 ·refine⟨_,_,aO.str _,by simp;exact HV zl hm EG,λi acc σ'=>∃(es:List Addr) (L':List (List LN)),acc=es.map .ref/\es.length=i/\L'.length=i/\Kp mi σ'/\(∀(j:Nat) (dd:Addr) (ss:List LN),es[j]? =some dd->L'[j]? =some ss->σ' dd=some (.lst (ss.map aC)))/\(∀(j:Nat) ss u,L'[j]? =some ss->nm[j]? =some u->ss.Nodup/\uM ss/\∀w,w∈ss↔w∈jJ (ef kf wf [u])),
   (fO [] [] rfl rfl rfl (λ_ _ e=>e) (λj dd ss e=>by exact bL e) (λj ss p e=>by exact bL e)),λ_ _ _ _=>rfl,λC c0 m' σ' x Q' _ hq=>fM (by rfl) hq,λm' x y _ _=>de m' _ x y,λC i x c0 gE cw acc σ' zq=>?_,λacc σ' D zq hD=>?_⟩
  ·refine dj zq λes L' q1 q2 sm q3 q4 q5=>?_;clear zq
   subst q1 q2;refine ah (p7 gE) λu hu au=>?_;subst au
   have wb:∀i,(ef kf wf (([u]:LN).take i)).length<64/\∀w∈ef kf wf (([u]:LN).take i),w.length<=1000:=λi=>by
    refine aA (FZ K (([u]:LN).take i)) λa b=>?_;have l1:(([u]:LN).take i).length<=1:=by refine J length_take ?_;exact Nat.min_le_right _ _
    have l2:=kT (([u]:LN).take i);refine⟨Nat.lt_of_le_of_lt a (Nat.lt_of_le_of_lt (Nat.pow_le_pow_right (by decide) (by exact Sw l1 l2:oX (([u]:LN).take i)<=3)) (by decide)),λw hw=>by have:=b w hw;exact Sv l1 this⟩
   refine jy ((if_pos rfl).mpr (eh ft ⟨xN (l:=[u]) ft aG.le (Kd8.kp q3) (Ws8.kp q3) (by simp) wfz wb λav D' ss k yI eD n1 n2 n3=>?_⟩));refine(fO (es++[D']) (L'++[ss]) (by refine J map_append ?_;rfl) (by refine J length_append ?_;rfl) (by refine J length_append (J sm ?_);rfl) (λa o q=>k _ _ (q3 _ _ q)) (λj dd jw h1 h2=>?_) (λj jw p' h1 h2=>?_))
   ·by_cases q:j<es.length
    ·rw[getElem?_append_left q] at h1
     rw[getElem?_append_left (by exact Gn sm q)] at h2;exact k _ _ (q4 j dd jw h1 h2)
    ·rw[getElem?_append_right (by exact wB q)] at h1
     have:j=es.length:=by have:=ar h1;simp at this;exact BJ q this
     subst this;rw[getElem?_append_right (by exact JJ sm),sm] at h2;simp at h1 h2;subst h1 h2;exact eD
   ·by_cases q:j<L'.length
    ·rw[getElem?_append_left q] at h1
     exact q5 j jw p' h1 h2
    ·rw[getElem?_append_right (by exact wB q)] at h1
     have:j=es.length:=by have:=ar h1;simp at this;exact H3 sm q this
     subst this;rw[hu] at h2;obtain rfl:=sI h2;rw[sm,Nat.sub_self] at h1
     replace h1:=(Option.some.injEq _ _).mp h1;subst h1;exact aN n1 n2 n3
  ·refine dj zq λes L' q1 q2 sm q3 q4 q5=>?_;clear zq
   subst q1;have el:((S nm).cps.toList.map λu=>PV.str ⟨#[u]⟩).length=nm.length:=length_map ..;rw[el] at q2 sm;refine(dX D L' rfl (λa o q=>ai hD (q3 _ _ q)) ⟨es,ae,by exact H0 q2 sm,λi dd ss h1 h2=>ai hD (q4 i dd ss h1 h2)⟩ ⟨by refine J (length_map _) ?_;exact sm,λi ss p h1 h2=>?_⟩);refine ah (iE h2) λu hu zr=>?_;clear h2;subst zr;exact q5 i ss u h1 hu
 refine dF zq λdW Od e1 k9 eW hW=>?_;clear zq;subst e1;have L9:=L8.kp k9
 have EM:∀(i:Nat) u,nm[i]? =some u->∃k,xe[i]? =some k/\aL (kk kf) [u]=mu k:=λi u hu=>by
  refine bK (Yx u (mem_of_getElem? hu)) λp e=>?_;have e':kk kf u=some p.1:=by unfold kk;refine J e ?_;rfl
  exact(aj p.1 (by refine rS OP (J getElem?_map (J hu (J (Option.map_some _ _) (J e' ?_))));rfl) (by refine J (ck e') ?_;rfl))
 have Ol:∀(rs:List RK),aI<+:rs->∀u∈nm,md rs (aL (kk kf) [u]):=λrs t6 u hu=>BF t6 K (λv hv=>by refine J (mem_singleton.mp hv) ?_;exact .inr (CC u (nmi u hu))) (by have:=kT [u];simp at this;exact Su this) (by simp);have Zo:=Di (w0:=w0) (wn:=wn) (mid:=mid) (JL _ (.head _)) (λx hx=>JL x (.tail _ (mem_append_left _ hx))) (JL _ (by simp)) EG k3s
 have Gh:∀{σ₁ σ':St} {bu aW:List RK} {d:Addr} {vs:LN} {dW:Addr} (_:aI<+:bu) (Lp:LW t hx hd st sg w σ' aW) (_:aW.length<900000) (_:σ' d=some (.lst (vs.map pid))) (_:vs.length=mid.length+1) (_:∀(i:Nat) u v,nm[i]? =some u->vs[i]? =some v->Rd aW (fF bu (aL (kk kf) [u])) v) {ψ:dG} {Q':PV->St->Prop} (_:∀av D,Kp σ' av->LL av D Od->Q' (.ref D) av),aw c A' ψ (.ref 667) [.ref w,.ref d] σ' Q':=λ{σ₁ σ' bu aW d vs dW} t6 Lp II ed hv hR {ψ Q'} hq=>by
  refine tC ft aG.le Lp.W.T Lp.xi Lp.hw (by exact m9 II) ed (by exact Ov hm hv) (λv sC=>?_) λav D L'' k hD n0 hlen EY=>hq av D k ?_
  ·refine bK (mem_iff_getElem?.mp sC) λi hi=>?_
   obtain ⟨u,hu⟩:∃u,nm[i]? =some u:=⟨_,getElem?_eq_getElem (by have:=ar hi;exact Ox EG hv this)⟩;exact tD (Ol bu t6 u (mem_of_getElem? hu)) (hR i u v hu hi)
  ·have:L''=Od:=p0 t6 K (ps:=nm.map λu=>[u]) (λp hp=>by(refine ah (mem_map.mp hp) λu hu au=>?_;subst au);exact Ol bu t6 u hu) (by refine J (length_map _) ?_;exact Ss EG hv) (λi p v h1 h2=>by
    refine ah (iE h1) λu hu zr=>?_;clear h1;subst zr;exact hR i u v hu h2) hlen EY hW
   exact this▸n0
 refine dO ft (λm' av=>∃aW,rC (m'=t7 w pk kd (w0::(mid++[wn])) sn t hx ks rp cD++[(("rows":Str),rv),("laid",lv),("names",aC nm),("same",.tup (RK.eG (w0::(mid++[wn])) xe).row),("want",.ref dW)]) (LW t hx hd st sg w av aW) (Fix t pW av) (aW.length<=fu.length+27)) ⟨wN (t0:=w0) (ts:=mid++[wn]) (ks:=xe) (ks':=ks) ft aG.le L9.W (by exact Sr hz Z7) (by simp;exact cz hm) (by exact Ov hm zZ) (by exact cz hm) wz wz (λps e=>?_) (λσ' aW d ps vs e W' F P Z _ ed hv hR=>?_) λσ' e k=>?_⟩ λm' G7 zq=>?_
 ·rw[Zo] at e;obtain rfl:=sI e
  refine⟨by refine J (length_map _) ?_;exact Ov hm zZ,λp hp=>?_⟩;refine bK (mem_iff_getElem?.mp hp) λi hi=>?_;rw[getElem?_map] at hi
  obtain ⟨u,hu⟩:∃u,nm[i]? =some u:=⟨_,getElem?_eq_getElem (by
   induction q:xe[i]? with
   |none=>rw[q] at hi;exact bL hi
   |some k=>have:=ar q;exact Ox EG zZ this)⟩
  refine ah (EM i u hu) λk e1 e2=>?_;rw[e1] at hi;obtain rfl:=sI hi;refine rS e2 ?_;exact Ol fu L9.pre u (mem_of_getElem? hu)
 ·rw[Zo] at e;obtain rfl:=sI e
  rw[length_map] at hv Z;have Lp:=L9.fix W' F P;refine⟨Gh (σ₁:=σ') (dW:=dW) L9.pre Lp (by exact Sq hz hm Z7 zZ Z) ed (by exact Ld zZ hv) (λi u v h1 h2=>?_) λav D k n0=>⟨BS aG n0 ((LL.CQ L9.W.T L9.pre F eW).kp k) (fi aW rfl (Lp.kp k) (λa o q n1 n2=>k _ _ (F a o q n1 n2)) (by exact Sp hm zZ Z))⟩⟩;refine ah (EM i u h1) λk e1 e2=>?_;refine J e2 ?_;exact hR i _ v (by refine J getElem?_map (J e1 ?_);rfl) h2
 ·rw[Zo] at e;exact fB e
 refine cS zq λbu e1 La Fa Za=>?_;clear zq;subst e1;have eWa:=LL.CQ L9.W.T L9.pre Fa eW;have gt:=du bu (.eG (w0::(mid++[wn])) xe);have lt:=d7 bu (.eG (w0::(mid++[wn])) xe);have pt:=dq bu (.eG (w0::(mid++[wn])) xe);refine go ft ⟨_,_,fX ft La.W.T,dJ ft,⟨jf ft aG.le La.W.T (.eG (w0::(mid++[wn])) xe) (by exact So hz Z7 Za) λG6 Tb Fb _=>?_⟩⟩;have Lb:=La.fix (La.W.put Tb Fb) Fb pt;have eWb:=LL.CQ La.W.T La.pre Fb eWa;refine⟨zd ft aG.le Lb.W (by exact Sn hz Z7 Za lt) gt (by exact Ov hm zZ) (λk hk=>?_) λσ' aW d vs W' F P Z _ ed hv hR=>?_⟩
 ·refine bK (mem_iff_getElem?.mp hk) λi hi=>?_
  obtain ⟨u,hu⟩:∃u,nm[i]? =some u:=⟨_,getElem?_eq_getElem (by have:=ar hi;exact Ox EG zZ this)⟩;refine ah (EM i u hu) λk' e1 e2=>?_;rw[hi] at e1;obtain rfl:=sI e1;have:=(Ol _ Lb.pre u (mem_of_getElem? hu)).k k (by refine J e2 ?_;exact .head _);exact this
 ·have Lp:=Lb.fix W' F P
  refine⟨Gh (σ₁:=σ') (dW:=dW) Lb.pre Lp (by exact Sm hz hm Z7 zZ Za lt Z) ed (by exact Ld zZ hv) (λi u v h1 h2=>?_) λav D k n0=>⟨GI aG n0 ((LL.CQ Lb.W.T Lb.pre F eWb).kp k) (h _ aW (Lp.kp k) (λa o q n1 n2=>k _ _ (F _ _ (Fb _ _ (Fa _ _ (k9 _ _ (k8 _ _ (F7 _ _ (K6 _ _ q) n1 n2))) n1 n2) n1 n2) n1 n2)) (by exact Sl hm Z7 zZ Za lt Z))⟩⟩;refine ah (EM i u h1) λk e1 e2=>?_;refine J e2 ?_;exact hR i k v e1 h2
end
section
open PySem.NumText
noncomputable def DP(a b d:Nat)(x y z:Addr)(u:Nat):Option (Nat×Addr):=if u=65 then some (iW a,x) else if u=66 then some (iW b,y) else if u=67 then some (iW d,z) else none
noncomputable def JF(a b d:Nat)(u:Nat):List LN:=if u=65 then xY (iW a) else if u=66 then xY (iW b) else if u=67 then xY (iW d) else []
theorem Bg{p:Nat}(h:p<8):(xY (iW p)).length<=2/\∀w∈xY (iW p),w.length<=2:=by
 match p,h with
 |0,_=>decide
 |1,_=>decide
 |2,_=>decide
 |3,_=>decide
 |4,_=>decide
 |5,_=>decide
 |6,_=>decide
 |7,_=>decide
theorem Iw{a b d:Nat}(ha:a<8)(hb:b<8)(hd:d<8)(x y z:Addr):DG (DP a b d x y z) (JF a b d)/\∀u∈([65,66,67]:LN),DP a b d x y z u≠none:=by
 have st:∀{p},p<8->fj (iW p):=λ{p} h=>by refine aK (oq h) λ_ _ q _=>?_;exact q
 refine⟨⟨λu p e=>?_,λu g=>?_,λu=>?_⟩,λu hu=>?_⟩
 ·unfold DP at e
  unfold JF
  by_cases e1:u=65
  ·rw[if_pos e1] at e ⊢;obtain rfl:=sI e;exact⟨st ha,rfl⟩
  rw[if_neg e1] at e ⊢
  by_cases e2:u=66
  ·rw[if_pos e2] at e ⊢;obtain rfl:=sI e;exact⟨st hb,rfl⟩
  rw[if_neg e2] at e ⊢
  by_cases e3:u=67
  ·rw[if_pos e3] at e ⊢;obtain rfl:=sI e;exact⟨st hd,rfl⟩
  rw[if_neg e3] at e;exact bL e
 ·unfold g5 at g
  simp only[Bool.or_eq_true,beq_iff_eq] at g;unfold DP;exact J (if_neg (by exact Xb g)) (J (if_neg (by exact Xa g)) (J (if_neg (by exact W9 g)) rfl))
 ·unfold JF
  split
  ·exact Bg ha
  split
  ·exact Bg hb
  split
  ·exact Bg hd
  ·exact⟨Nat.zero_le _,λw hw=>nomatch hw⟩
 ·simp only[mem_cons,not_mem_nil,or_false] at hu
  rcases hu with rfl|rfl|rfl<;>exact(λ{α} {o}=>Option.isSome_iff_ne_none.mp) rfl
theorem Iy{a b d:Nat}{x y z:Addr}(e:V kd=some (.dS [(S [65],.tup [pid (iW a),.ref x]),(S [66],.tup [pid (iW b),.ref y]),(S [67],.tup [pid (iW d),.ref z])])):oM V kd (DP a b d x y z):=by
 refine aj _ e (λu=>?_)
 have hh:∀v,decide (S [v]=S [u])=decide (u=v):=λv=>by
  apply decide_eq_decide.mpr;refine rI DE ?_;constructor
  ·intro q;cases q;rfl
  ·rintro rfl;rfl
 unfold cO DP;simp only[find?_cons,find?_nil,hh]
 by_cases e1:u=65
 ·simp[e1]
 by_cases e2:u=66
 ·simp[e2]
 by_cases e3:u=67
 ·simp[e3]
 simp[e1,e2,e3]
theorem Iv{a b d:Nat}{x y z:Addr}(h1:V x=some (.lst ((xY (iW a)).map aC)))(h2:V y=some (.lst ((xY (iW b)).map aC)))(h3:V z=some (.lst ((xY (iW d)).map aC))):rk V (DP a b d x y z) (JF a b d):=λu p e=>by
 unfold DP at e;unfold JF
 by_cases e1:u=65
 ·rw[if_pos e1] at e ⊢;obtain rfl:=sI e;exact h1
 rw[if_neg e1] at e ⊢
 by_cases e2:u=66
 ·rw[if_pos e2] at e ⊢;obtain rfl:=sI e;exact h2
 rw[if_neg e2] at e ⊢
 by_cases e3:u=67
 ·rw[if_pos e3] at e ⊢;obtain rfl:=sI e;exact h3
 rw[if_neg e3] at e;exact bL e
end
noncomputable abbrev JN(s2 nA cb rl:Addr):Map:=[(("script":Str),PV.ref s2),("nums",.ref nA),("at",.ref cb),("roll",.ref rl)]
noncomputable abbrev mF(s2 nA cb rl:Addr)(t:TA)(st sg w:Addr):Map:=[(("script":Str),PV.ref s2),("nums",.ref nA),("at",.ref cb),("roll",.ref rl),("tab",.ref t.x),("stock",.ref st),("signs",.ref sg),("w",.ref w)]
noncomputable abbrev pB(K:Frag)(LL:Addr):Env:=callEnvC (lj K 687 (fU 114) Value.none) LL 687
theorem AX{r:Nat}(h:r<8):∃l,(qx.map PV.str)[r]? =some (aC l)/\l.length<=2/\∀u∈l,g5 u=true:=by obtain ⟨l,hl⟩:∃l,wO[r]? =some l:=⟨_,getElem?_eq_getElem (by exact h)⟩;refine aA (zb l (mem_of_getElem? hl)) λa b=>?_;exact(bb l (by refine J AW (J map_map (J getElem?_map (J hl ?_)));rfl) a b)
theorem bG.frame{m':Map}(h:bG [aZ env m] V rl cb nA ns i)(h1:dB m' "at"=some (.ref cb))(h2:dB m' "nums"=some (.ref nA)):bG [aZ env m'] V rl cb nA ns i:=by obtain ⟨⟨Jh,qual,doc,pm,cv,rA,F,Lg,cs,ml,r1,r2,r3,r4⟩,a,b,d,e⟩:=h;have r1:=mem_singleton.mp r1;refine⟨⟨Jh,qual,doc,pm,cv,rA,F,Lg,cs,m',mem_singleton.mpr ?_,r2,h1,h2⟩,a,b,d,e⟩;simp only[aZ,Prod.mk.injEq,Fr.ns.injEq] at r1 ⊢;exact cj r1.1 r1.2.1 r1.2.2.1 trivial
theorem bG.MH(h:bG φ V rl cb nA ns i)(kf:∀a o,V a=some (.fn o)->σ' a=some (.fn o))(k1:σ' cb=some (.lst [.int i]))(k2:σ' nA=some (.lst (ns.map pid))):bG φ σ' rl cb nA ns i:=by obtain ⟨⟨env,qual,doc,pm,cv,rA,F,r⟩,a,b,d,e⟩:=h;exact⟨(jY env qual doc pm cv rA (F.kp kf) r),k1,k2,d,e⟩
theorem bG.fixF(h:bG φ V rl cb nA ns i)(T:dc t V rs bs)(hp:aI<+:rs)(F:Fix t V σ'):bG φ σ' rl cb nA ns i:=by
 refine h.MH (λa o e=>F _ _ e (by rintro rfl;rw[T.rows] at e;exact kB e) (by rintro rfl;rw[T.index] at e;exact kB e)) (iL T hp F h.at_ λp hp r q=>?_) (iL T hp F h.nums λp hp r q=>?_)
 ·rw[mem_singleton.mp hp] at q;exact Gj q
 ·(refine ah (mem_map.mp hp) λx _ au=>?_;subst au);exact Gj q
theorem iF.txt{i:Int}(F:iF cb V σ')(ha:V cb=some (.lst [.int i])){l:List LN}(e:V a=some (.lst (l.map aC))):σ' a=some (.lst (l.map aC)):=F _ _ e (by
 rintro rfl;rw[ha] at e
 match l,e with
 |[],e=>cases e
 |[x],e=>cases e
 |x::y::r,e=>cases e)
theorem LW.iZ{hx hd st sg w:Addr}{i:Int}(L:LW t hx hd st sg w V rs)(F:iF cb V σ')(ha:V cb=some (.lst [.int i])):LW t hx hd st sg w σ' rs:=by
 have ob:∀a o,V a=some o->(∀l,o≠.lst l)->σ' a=some o:=λa o e h=>F _ _ e (by rintro rfl;rw[ha] at e;obtain rfl:=sI e;exact h _ rfl);have ls:∀a l,V a=some (.lst l)->l.length≠1->σ' a=some (.lst l):=λa l e h=>F _ _ e (by rintro rfl;rw[ha] at e;cases e;exact h rfl)
 have tx:∀a (l:List LN),V a=some (.lst (l.map aC))->σ' a=some (.lst (l.map aC)):=λa l e=>F _ _ e (by
  rintro rfl;rw[ha] at e
  match l,e with
  |[],e=>cases e
  |[x],e=>cases e
  |x::y::r,e=>cases e)
 have T:=L.W.T;have lr:=L.pre.length_le;have:aI.length=28:=rfl;refine⟨⟨⟨ob _ _ T.x (by simp),ob _ _ T.d (by simp),ls _ _ T.rows (by refine J (length_map _) (J (length_map _) ?_);exact Sk lr this),ob _ _ T.index (by simp),ls _ _ T.bounds (by decide),T.bne⟩,⟨ob _ _ L.W.H.x (by simp),ob _ _ L.W.H.d (by simp)⟩,L.W.hb,L.W.nd⟩,L.pre,?_,ob _ _ L.xi (by simp),ob _ _ L.hw (by simp)⟩;refine aK L.EX λitems a b d=>?_;refine(bb items (ls _ _ a (by exact Sj b)) b (λj p q=>?_));refine ah (d j p q) λx x1 x2=>?_;exact(aj x x1 (tx _ _ x2))
section
variable {hx hd sg w st:Addr}
theorem MD(ft:Ft c)(hA:Rm 13 A){cA P:Addr}(vC:∀L,(callEnvC (lj c.K 687 (fU 114) Value.none) L 687).code=.ref cA)(C:CodeHd c.H cA P)(eP:V P=some (.fn (tabObj #[])))(hB:c.H.BuiltinsAt c.mg P){sc:Addr}{xs:List Int}(OL:∃vs n,c.H.get? sc=some (listOf vs n)/\dD c.H (xs.map .int) vs.toList)(hl:xs.length<=63):aw c A φ (.ref 687) [.ref sc] V λp σ'=>p=.bool true/\∃more,σ' P=some (.fn (tabObj more)):=by
 have zl:sizeLine=2^24:=rfl;refine enter ft "law" (hA:Rm (12+1) A) rfl rfl rfl rfl (Dq λ_=>rfl) rfl λLL A' aG=>?_;have IV:ownOf (callEnvC (lj c.K 687 (fU 114) Value.none) LL 687)=true:=rfl;refine dO ft (λm' σ'=>mh λ(s2:Addr) (ys:List Int)=>rC (m'=[(("script":Str),PV.ref s2)]) (Kp V σ') (σ' s2=some (.lst (ys.map .int))) (ys.length<=40)) ⟨?_⟩ λm' σ₁ zq=>?_
 ·refine .base OL (by refine J (length_map _) ?_;exact nZ zl hl) λb hb=>?_
  refine J (show (40:Int)=((40:Nat):Int) from rfl) (J (Bl _ _) (rS map_take ?_));exact(hH b (xs.take 40) rfl (Kp.new hb) ae (by refine J length_take ?_;exact Si))
 refine gg zq λs2 ys e1 k1 h2 ly=>?_;clear zq;subst e1;have eP:=k1 _ _ eP;clear k1;refine dO ft (λm' σ'=>mh λ(nA:Addr) (ns:LN)=>rC (m'=[(("script":Str),PV.ref s2),("nums",.ref nA)]) (Kp σ₁ σ') (σ' nA=some (.lst (ns.map pid))) (ns.length<=40)) ⟨?_⟩ λm' ay zq=>?_
 ·refine qh (by rfl) (bF (λm v=>bh m "x" v) aG.handled (by rfl) (eh ft ?_))
  refine eU ft (aO.lst h2) (by exact nZ zl ly) (λi acc σ'=>acc=((ys.take i).map λx=>pid (x.fmod 99991).toNat)/\σ₁=σ') ⟨rfl,rfl⟩ (λ_ _ _ zf=>aA zf λ_ e=>e▸h2) (λC i x c0 hi cw acc σ' zq=>?_) (λacc σ' D zq hD=>?_)
  ·refine aA zq λq1 q2=>?_;clear zq
   subst q1 q2;refine⟨Dx (by decide) ⟨?_,rfl⟩⟩;have nn:0<=x.fmod 99991:=Int.fmod_nonneg_of_pos x (by decide);have:(PV.int (x.fmod 99991))=pid (x.fmod 99991).toNat:=by refine(?_:PV.int _=PV.int _);exact J (Int.toNat_of_nonneg nn) rfl
   refine J this (J take_add_one (J hi ?_));simp
  ·refine aA zq λq1 q2=>?_;clear zq
   subst q1 q2;refine J take_length ?_;exact(hH D (ys.map λx=>(x.fmod 99991).toNat) rfl (Kp.new hD) (by refine J map_map ?_;exact ae) (by refine J (length_map _) ?_;exact ly))
 refine gg zq λnA ns e1 k2 h3 ln=>?_;clear zq;subst e1;refine dO ft (λm' σ'=>mh λ(nA:Addr) (ns:LN)=>sS (m'=[(("script":Str),PV.ref s2),("nums",.ref nA)]) (Kp σ₁ σ') (σ' nA=some (.lst (ns.map pid))) (ns.length<=40) (ns≠[])) ⟨iJ h3 (by refine J (length_map _) ?_;exact nZ zl ln) ?_⟩ λm' aD zq=>?_
 ·refine J (length_map _) ?_
  refine bZ (λq=>⟨λb hb=>(dE b ([1,0,1,0,1,2,2,4,6,0,10,11,6,4,0,1,0]) rfl (λa o e=>ai hb (k2 a o e)) ae (by decide) (by decide))⟩) λq=>(dE nA ns rfl k2 h3 ln ?_);rintro rfl;exact rB q
 refine d5 zq λnA ns e1 k3 h4 ln nn=>?_;clear zq;subst e1;refine dO ft (λm' σ'=>∃(cb:Addr),rC (m'=[(("script":Str),PV.ref s2),("nums",.ref nA),("at",.ref cb)]) (Kp aD σ') (σ' cb=some (.lst [.int 0])) (cb≠nA)) ⟨λa ha=>(fi a rfl (Kp.new ha) ae (by rintro rfl;rw[h4] at ha;exact fB ha))⟩ λm' bB zq=>?_;refine cS zq λcb e1 k4 h5 gL=>?_;clear zq;subst e1;have YJ:Kp σ₁ aD:=k3;refine dO ft (λm' σ'=>∃(rl:Addr),rC (m'=[(("script":Str),PV.ref s2),("nums",.ref nA),("at",.ref cb),("roll",.ref rl)]) (bG [aZ (callEnvC (lj c.K 687 (fU 114) Value.none) LL 687) [(("script":Str),PV.ref s2),("nums",.ref nA),("at",.ref cb),("roll",.ref rl)]] (del σ' P) rl cb nA ns 0) (del σ' P s2=some (.lst (ys.map .int))) (∃more,σ' P=some (.fn (tabObj more)))) ⟨?_⟩ λm' cW zq=>?_
 ·refine KC ft.ok rfl rfl (by rfl) (by rfl) (by rfl) rfl (vC _) C (k4 _ _ (YJ _ _ eP)) hB λσ' f qual doc pm cv rA kp hmP hf hF=>?_
  have nAP:cb≠P:=by rintro rfl;have:=k4 _ _ (YJ _ _ eP);rw[h5] at this;exact kB this
  have nNP:nA≠P:=by rintro rfl;have:=k4 _ _ (YJ _ _ eP);rw[k4 _ _ h4] at this;exact kB this
  have nSP:s2≠P:=by rintro rfl;have:=eP;rw[h2] at this;exact kB this
  have kA:σ' cb=some (.lst [.int 0]):=kp _ _ h5 nAP;have kN:σ' nA=some (.lst (ns.map pid)):=kp _ _ (k4 _ _ h4) nNP;refine⟨f,rfl,⟨⟨_,qual,doc,pm,cv,rA,hF,_,_,_,.head _,λx a hm=>?_,rfl,rfl⟩,by refine J (mT nAP) ?_;exact kA,by refine J (mT nNP) ?_;exact kN,nn,by exact cz ln⟩,by refine J (mT nSP) ?_;exact kp _ _ (k4 _ _ (k3 _ _ h2)) nSP,hmP⟩;have ec:fw (callEnvC (lj c.K 687 (fU 114) Value.none) LL 687) (c7 mC).names []=[(("nums":Str),((callEnvC (lj c.K 687 (fU 114) Value.none) LL 687).cells.lookup ("nums":Str)).getD 0),(("at":Str),((callEnvC (lj c.K 687 (fU 114) Value.none) LL 687).cells.lookup ("at":Str)).getD 0)]:=rfl;rw[ec] at hm;rcases mem_cons.mp hm with e|hm
  ·cases e;rfl
  ·cases mem_singleton.mp hm;rfl
 obtain ⟨rl,e1,hR,ZA,more,eM⟩:=zq;subst e1;refine WX.lay eM (WX.mono (Q:=λr m' σ'=>kK r=.bool true) ?_ λr m' σ' q=>(DI q more ae));clear eM;generalize del cW P=cW at ZA hR ⊢;refine dO ft (λm' σ'=>∃(t:TA),rC (m'=JN s2 nA cb rl++[(("tab":Str),PV.ref t.x)]) (dz t σ' rows0 []) (Kp cW σ') ((∀a,cW a≠none->a≠t.rows/\a≠t.index/\a≠t.bounds/\a≠t.defaults/\a≠t.names))) ⟨NA ft rfl rfl (BP ft aG.le λσ' t X k gL=>(fi t rfl X k gL))⟩ λm' gv zq=>?_;refine cS zq λt e1 X6 k6 MW=>?_;clear zq;subst e1
 refine dO ft (λm' σ'=>∃(st:Addr),rC (m'=JN s2 nA cb rl++[(("tab":Str),PV.ref t.x),("stock",.ref st)]) (dz t σ' aI jU) (Kp cW σ') (lX σ' st)) ⟨Ek ft aG.le X6 λσ' st X' F S=>⟨st,rfl,X',(λa o e=>by obtain ⟨n1,n2,n3,n4,n5⟩:=MW a (by refine J e ?_;exact Option.some_ne_none _);exact F _ _ (k6 _ _ e) n1 n2 n3 n4 n5),S⟩⟩ λm' gR zf=>cS zf λst e1 X7 k7 S7=>?_
 subst e1;refine dO ft (λm' σ'=>∃(sg:Addr),rC (m'=JN s2 nA cb rl++[(("tab":Str),PV.ref t.x),("stock",.ref st),("signs",.ref sg)]) (Kp gR σ') (gR sg=none) (σ' sg=some (.dI []))) ⟨lV (.dI []) .i λsg xi=>(fi sg rfl (Kp.new xi) xi ae)⟩ λm' mi zq=>?_;refine cS zq λsg e1 k8 xi e8=>?_;clear zq;subst e1;refine dO ft (λm' σ'=>mz (m'=JN s2 nA cb rl++[(("tab":Str),PV.ref t.x),("stock",.ref st),("signs",.ref sg)]) (Kp gR σ') (σ' sg=some (.dI Aw))) ⟨bP aG.handled (by rfl) (eh ft ⟨iS λrg ky=>?_⟩)⟩ λm' pW zq=>?_
 ·have kr:Kp mi (upd mi rg (.gx 0 (4:Nat))):=Kp.new ky
  have YU:sg≠rg:=by rintro rfl;rw[e8] at ky;exact fB ky
  refine⟨_,_,aO.gx (lo:=0) (hi:=(4:Nat)) ae (by decide) (by decide) (by decide) (by decide),λj m' σ'=>mz (m'=JN s2 nA cb rl++[(("tab":Str),PV.ref t.x),("stock",.ref st),("signs",.ref sg)]) (Kp gR σ') (σ' sg=some (.dI (Aw.take j))),⟨rfl,λa o e=>kr _ _ (k8 _ _ e),kr _ _ e8⟩,λ_ _ _ _=>rfl,λj v c0 hv cw mm σ' zq=>go ft ?_,λmm σ' zf=>fp zf λq1 q2 q3=>go ft ⟨q1,q2,q3⟩⟩;refine fp zq λq1 q2 q3=>?_;clear zq;subst q1;refine aA (kJ hv) λhj au=>?_;subst au;refine aK S7 λitems i1 i2 i3=>?_;clear S7
  obtain ⟨k,u,hk,IX⟩:∃k u,mB[j]? =some (k,[[u]])/\dk (Aw.take j) (k:Int) (aC [u])=Aw.take (j+1):=by
   match j,hj with
   |0,_=>exact⟨6,83,rfl,rfl⟩
   |1,_=>exact⟨7,78,rfl,rfl⟩
   |2,_=>exact⟨16,84,rfl,rfl⟩
   |3,_=>exact⟨17,85,rfl,rfl⟩
  refine ah (i3 j _ hk) λa a1 a2=>?_;have b1:=q2 _ _ i1;refine⟨cG (k:=j) b1 a1 (by exact K9 hj) ⟨bw 1 rfl ⟨cG (k:=0) (q2 _ _ a2) rfl (by decide) ⟨cG (k:=j) b1 a1 (by exact K9 hj) ⟨bw 0 rfl ⟨Hs q3 (by refine J length_take ?_;exact Nat.le_trans (Nat.min_le_right _ _) (by decide)) ?_⟩⟩⟩⟩⟩⟩;refine J IX ?_;exact(gf _ rfl (λa o e=>by rw[aB (by rintro rfl;rw[xi] at e;exact bL e)];exact q2 _ _ e) ae (Le.all (cC rfl rfl rfl rfl rfl rfl rfl trivial)))
 refine fp zq λe1 k9 e9=>?_;clear zq;subst e1;refine dO ft (λm' σ'=>DW λ(w hx hd:Addr)=>mz (m'=JN s2 nA cb rl++[(("tab":Str),PV.ref t.x),("stock",.ref st),("signs",.ref sg),("w",.ref w)]) (Kp pW σ') (LW t hx hd st sg w σ' aI)) ⟨yV (by rfl) rfl (by decide) (by decide) λc0 hφ=>?_⟩ λm' G7 zq=>?_
 ·refine mU (jm (by rfl) rfl rfl ?_)
  refine mU (eh ft ?_);refine⟨zP ft aG.le λσ' hx hd H k=>?_⟩;refine mU (jm (by rfl) rfl rfl ?_);refine mU (jm (by rfl) rfl rfl ?_);refine GK λw hw=>⟨w,hx,hd,rfl,λa o e=>ai hw (k _ _ e),?_⟩;have Kf:Kp gR σ':=λa o e=>k _ _ (k9 _ _ e);have Kg:Kp gR (upd σ' w (.dS (xa [("tab",.ref t.x),("host",.ref hx),("stock",.ref st),("signs",.ref sg)]))):=λa o e=>ai hw (Kf a o e);exact⟨⟨X7.T.fixed Kg,H.keep (Kp.new hw),⟨_,rfl⟩,by decide⟩,prefix_rfl,S7.kp Kg,ai hw (k _ _ e9),ae⟩
 refine DL zq λw hx hd e1 ka La=>?_;clear zq;subst e1;have hRa:bG [aZ (callEnvC (lj c.K 687 (fU 114) Value.none) LL 687) (mF s2 nA cb rl t st sg w)] G7 rl cb nA ns 0:=(hR.kp λa o e=>ka _ _ (k9 _ _ (k7 _ _ e))).frame rfl rfl;have h2a:=ka _ _ (k9 _ _ (k7 _ _ ZA));clear hR X6 X7 S7 k6 MW k7 k8 k9 e8 e9 xi ka ZA;refine dO ft (λm' σ'=>True) ⟨bP aG.handled (by rfl) (eh ft ⟨iJ h2a (by refine J (length_map _) ?_;exact nZ zl ly) ⟨Dy aG.handled (by decide) (Ms (y:=12) (by decide) _) ⟨min2 aG.handled ⟨iS λrg ky=>?_⟩⟩⟩⟩)⟩ λm' G6 _=>go ft rfl;refine J (length_map _) ?_;have ZM:((ys.length:Nat):Int).fdiv 12=((ys.length/12:Nat):Int):=by refine J (Int.fdiv_eq_ediv_of_nonneg _ (by decide)) ?_;rfl
 have emin:(1:Int)+min (((ys.length:Nat):Int).fdiv 12) 2=((1+min (ys.length/12) 2:Nat):Int):=by refine J ZM ?_;exact Sh
 refine J emin ?_;have kr:Kp G7 (upd G7 rg (.gx 0 ((1+min (ys.length/12) 2:Nat):Int))):=Kp.new ky;have E3:1+min (ys.length/12) 2<=3:=by exact Sg
 generalize 1+min (ys.length/12) 2=YG at*;have aar:rg≠cb:=by rintro rfl;rw[hRa.at_] at ky;exact fB ky
 refine⟨_,_,aO.gx (lo:=0) (hi:=(YG:Nat)) ae (by decide) (by exact LI E3) (by decide) (by exact HW),λj m' σ'=>m'=mF s2 nA cb rl t st sg w/\mh λ(i':Nat) (aW:List RK)=>mz (bG [aZ (callEnvC (lj c.K 687 (fU 114) Value.none) LL 687) (mF s2 nA cb rl t st sg w)] σ' rl cb nA ns i') (LW t hx hd st sg w σ' aW) (aW.length<=28+400*j),
  ⟨rfl,0,aI,hRa.kp kr,La.kp kr,Nat.le_refl _⟩,λ_ _ _ _=>rfl,λj v c0 hv cw mm σ' zq=>?_,λmm σ' zf=>aA zf λq1 _=>go ft trivial⟩
 refine xI zq λq1 i' aW R0 L0 Z0=>?_;clear zq;subst q1;refine aA (kJ hv) λhj au=>?_;subst au;have hn:nA≠cb:=λe=>gL e.symm;refine dO ft (λm' av=>mh λ(r i1:Nat)=>rC (r<3) (m'=mF s2 nA cb rl t st sg w++[(("lap":Str),pid j),("count",.int ((1+r:Nat):Int))]) (iF cb σ' av) (bG [aZ (pB c.K LL) (mF s2 nA cb rl t st sg w)] av rl cb nA ns i1)) ⟨gO ft aG.le (λg hg=>by refine J (mem_singleton.mp hg) ?_;exact .head _) (k:=3) (by rfl) rfl (R0.frame (m':=mF s2 nA cb rl t st sg w++[(("lap":Str),pid j)]) rfl rfl) hn (by decide) λr av hr F R1=>(hH r _ hr ?_ F (R1.frame rfl rfl))⟩ λm' sU zq=>?_
 ·have:((1+r:Nat):Int)=1+(r:Int):=by exact Sf
  refine J this ?_;rfl
 refine gg zq λr i1 hr e1 F1 R1=>?_;clear zq;subst e1;have L1:=L0.iZ F1 R0.at_;refine dO ft (λm' av=>mh λ(wt:List LN) (i2:Nat)=>sS (m'=mF s2 nA cb rl t st sg w++[(("lap":Str),pid j),("count",.int ((1+r:Nat):Int)),("wanted",.tup (wt.map aC))]) (wt.length=r+2) ((∀x∈wt,x.length<=2/\∀u∈x,g5 u=true)) (iF cb sU av) (bG [aZ (pB c.K LL) (mF s2 nA cb rl t st sg w)] av rl cb nA ns i2)) ⟨?_⟩ λm' sT zq=>?_
 ·refine bF (λm v=>bh m "k" v) aG.handled (by rfl) (eh ft ⟨iS λPC IP=>?_⟩)
  have er:((1+r:Nat):Int)+1=((r+2:Nat):Int):=by exact Se
  refine J er ?_;have ME:Kp sU (upd sU PC (.gx 0 ((r+2:Nat):Int))):=Kp.new IP;refine⟨_,_,aO.gx (lo:=0) (hi:=((r+2:Nat):Int)) ae (by decide) (by exact Sd hr) (by decide) (by exact Sb),by refine J (length_map _) (J length_range ?_);exact Sa zl hr,λi acc av=>mh λ(wt:List LN) (i2:Nat)=>sS (acc=wt.map aC) (wt.length=i) ((∀x∈wt,x.length<=2/\∀u∈x,g5 u=true)) (iF cb sU av) (bG [aZ (pB c.K LL) (mF s2 nA cb rl t st sg w)] av rl cb nA ns i2),(dE [] i1 rfl rfl (λx hx=>nomatch hx) (Kp.iZ ME) (R1.kp ME)),λ_ _ _ _=>rfl,λC c0 m' σ' x Q' _ hq=>fM (by rfl) hq,λm' x y _ _=>de m' _ x y,λC i x n8 gE nB acc av zq=>?_,λacc av D zq hD=>?_⟩
  ·refine d5 zq λwt i2 q1 q2 q3 q4 q5=>?_;clear zq
   subst q1 q2;refine jy ((if_pos rfl).mpr (eh ft ⟨gO ft aG.le (λg hg=>.tail _ (nB g (by refine J (mem_singleton.mp hg) ?_;exact .head _))) (k:=8) (by rfl) rfl (q5.frame (m':=mF s2 nA cb rl t st sg w++[(("lap":Str),pid j),("count",.int ((1+r:Nat):Int))]) rfl rfl) hn (by decide) λr' aD gK F3 R3=>?_⟩));refine aK (AX gK) λl l1 l2 l3=>?_;refine⟨bw r' l1 (dE (wt++[l]) _ (by refine J map_append ?_;rfl) (by refine J length_append ?_;rfl) (λx hx=>?_) (q4.trans F3) (R3.frame rfl rfl)) (by exact m9 gK)⟩;rcases mem_append.mp hx with hx|hx
   ·exact q3 x hx
   ·refine J (mem_singleton.mp hx) ?_;exact⟨l2,l3⟩
  ·refine d5 zq λwt i2 q1 q2 q3 q4 q5=>?_;clear zq
   subst q1;rw[length_map,length_range] at q2;exact⟨dn ae (by refine J (length_map _) ?_;exact RZ zl hr q2) (dE wt i2 rfl (by exact RY q2) q3 (q4.trans (Kp.iZ (Kp.new hD))) (q5.kp (Kp.new hD)))⟩
 refine d5 zq λwt i2 e1 OH OJ F2 R2=>?_;clear zq;subst e1;have L2:=L1.iZ F2 R1.at_;refine dO ft (λm' av=>DW λ(pk:Addr) (picks:LN) (i2:Nat)=>DO (m'=mF s2 nA cb rl t st sg w++[(("lap":Str),pid j),("count",.int ((1+r:Nat):Int)),("wanted",.tup (wt.map aC)),("picks",.ref pk)]) (av pk=some (.lst (picks.map pid))) (pk≠cb) (picks.length=r+1) ((∀p∈picks,p<8)) (iF cb sT av) (bG [aZ (pB c.K LL) (mF s2 nA cb rl t st sg w)] av rl cb nA ns i2)) ⟨gU (λm v=>bh m "k" v) aG.handled (by rfl) (by rfl) (by rfl) (eh ft ⟨iS λPC IP=>?_⟩)⟩ λm' G5 zq=>?_
 ·have ME:Kp sT (upd sT PC (.gx 0 ((1+r:Nat):Int))):=Kp.new IP
  refine⟨_,_,aO.gx (lo:=0) (hi:=((1+r:Nat):Int)) ae (by decide) (by exact RX hr) (by decide) (by exact RW),by refine J (length_map _) (J length_range ?_);exact RV zl hr,λi acc av=>mh λ(picks:LN) (i2:Nat)=>sS (acc=picks.map pid) (picks.length=i) ((∀p∈picks,p<8)) (iF cb sT av) (bG [aZ (pB c.K LL) (mF s2 nA cb rl t st sg w)] av rl cb nA ns i2),(dE [] i2 rfl rfl (λx hx=>nomatch hx) (Kp.iZ ME) (R2.kp ME)),λ_ _ _ _=>rfl,λC c0 m' σ' x Q' _ hq=>fM (by rfl) hq,λm' x y _ _=>de m' _ x y,λC i x n8 gE nB acc av zq=>?_,λacc av D zq hD=>?_⟩
  ·refine d5 zq λpicks i3 q1 q2 q3 q4 q5=>?_;clear zq
   subst q1 q2;refine jy ((if_pos rfl).mpr (eh ft ⟨gO ft aG.le (λg hg=>.tail _ (nB g (by refine J (mem_singleton.mp hg) ?_;exact .head _))) (k:=8) (by rfl) rfl (q5.frame (m':=mF s2 nA cb rl t st sg w++[(("lap":Str),pid j),("count",.int ((1+r:Nat):Int)),("wanted",.tup (wt.map aC))]) rfl rfl) hn (by decide) λr' aD gK F3 R3=>?_⟩));refine(dE (picks++[r']) _ (by refine J map_append ?_;rfl) (by refine J length_append ?_;rfl) (λx hx=>?_) (q4.trans F3) (R3.frame rfl rfl));rcases mem_append.mp hx with hx|hx
   ·exact q3 x hx
   ·refine J (mem_singleton.mp hx) ?_;exact gK
  ·refine d5 zq λpicks i3 q1 q2 q3 q4 q5=>?_;clear zq
   subst q1;rw[length_map,length_range] at q2;exact⟨D,picks,i3,rfl,ae,(λe=>by rw[e,q5.at_] at hD;exact fB hD),by exact RT q2,q3,q4.trans (Kp.iZ (Kp.new hD)),q5.kp (Kp.new hD)⟩
 refine uo zq λpk picks i3 e1 z7 JK lpk hp8 F3 R3=>?_;clear zq;subst e1;have L3:=L2.iZ F3 R2.at_
 obtain ⟨w0,mid,wn,ewt,zU⟩:∃w0 mid wn,wt=w0::(mid++[wn])/\mid.length=r:=by
  induction wt using LC with
  |nil=>simp at OH
  |cons w0 ws=>
   obtain ⟨mid,wn,e⟩:=dR (u:=ws) (by rintro rfl;simp at OH);subst e;exact(lY w0 mid wn rfl (by simp at OH;exact RS OH))
 subst ewt;refine dO ft (λm' av=>mh λ(word:LN) (i2:Nat)=>rC (m'=mF s2 nA cb rl t st sg w++[(("lap":Str),pid j),("count",.int ((1+r:Nat):Int)),("wanted",.tup ((w0::(mid++[wn])).map aC)),("picks",.ref pk),("word",aC word)]) (ro [] word) (iF cb G5 av) (bG [aZ (pB c.K LL) (mF s2 nA cb rl t st sg w)] av rl cb nA ns i2)) ⟨CU (mk:=[]) ft aG.le ((R3.frame (m':=mF s2 nA cb rl t st sg w++[(("lap":Str),pid j),("count",.int ((1+r:Nat):Int)),("wanted",.tup ((w0::(mid++[wn])).map aC)),("picks",.ref pk)]) rfl rfl).sub λg hg=>by refine J (mem_singleton.mp hg) ?_;exact .head _) hn OJ (by simp;exact Ou hr zU) (by simp) (λu hu=>nomatch hu) λav i' out F R FO=>(hH out i' rfl FO F ?_)⟩ λm' Pf zq=>?_
 ·exact R3.move F R.at_ hn
 refine gg zq λword i4 e1 FO F4 R4=>?_;clear zq;subst e1;have L4:=L3.iZ F4 R3.at_;have uv:word.length<=16:=by have:=kT word;have:=FO.l;have:=FO.h;simp at this;exact RR (by assumption) (by assumption) this
 have hwg:∀u∈word,g5 u=true:=λu hu=>(FO.c u hu).resolve_right (λh=>nomatch h);have X:DD w0 mid wn word picks:=⟨hp8,by exact K8 lpk zU,by exact Ou hr zU,OJ,hwg,uv⟩;have MS:=F4 _ _ z7 JK;refine dO ft (λm' av=>mh λ(i2:Nat) (bu:List RK)=>sS (m'=mF s2 nA cb rl t st sg w++[(("lap":Str),pid j),("count",.int ((1+r:Nat):Int)),("wanted",.tup ((w0::(mid++[wn])).map aC)),("picks",.ref pk),("word",aC word)]) (av pk=some (.lst (picks.map pid))) (bG [aZ (pB c.K LL) (mF s2 nA cb rl t st sg w)] av rl cb nA ns i2) (LW t hx hd st sg w av bu) (bu.length<=aW.length+100)) ⟨gO ft aG.le (λg hg=>by refine J (mem_singleton.mp hg) ?_;exact .head _) (k:=2) (by rfl) rfl (R4.frame (m':=mF s2 nA cb rl t st sg w++[(("lap":Str),pid j),("count",.int ((1+r:Nat):Int)),("wanted",.tup ((w0::(mid++[wn])).map aC)),("picks",.ref pk),("word",aC word)]) rfl rfl) hn (by decide) λf AE hf F5 R5=>⟨Hj (f:=f) ft aG.le (L4.iZ F5 R4.at_) (by exact RQ E3 Z0 hj) (F5 _ _ MS JK) X (by exact RP hf) λAD bu L6 F6 Z6=>(dE _ bu rfl (iL (L4.iZ F5 R4.at_).W.T L4.pre F6 (F5 _ _ MS JK) (λp hp r q=>by(refine ah (mem_map.mp hp) λx _ au=>?_;subst au);exact Gj q)) ((R5.frame rfl rfl).fixF (L4.iZ F5 R4.at_).W.T L4.pre F6) L6 Z6)⟩⟩ λm' AE zq=>?_;refine d5 zq λi5 bu e1 IS R5 L5 Z5=>?_;clear zq;subst e1;refine dO ft (λm' av=>mh λ(sn:LN) (i2:Nat)=>rC (m'=mF s2 nA cb rl t st sg w++[(("lap":Str),pid j),("count",.int ((1+r:Nat):Int)),("wanted",.tup ((w0::(mid++[wn])).map aC)),("picks",.ref pk),("word",aC word),("holed",aC sn)]) (ro [65,66,67] sn) (iF cb AE av) (bG [aZ (pB c.K LL) (mF s2 nA cb rl t st sg w)] av rl cb nA ns i2)) ⟨CU (mk:=[65,66,67]) ft aG.le ((R5.frame (m':=mF s2 nA cb rl t st sg w++[(("lap":Str),pid j),("count",.int ((1+r:Nat):Int)),("wanted",.tup ((w0::(mid++[wn])).map aC)),("picks",.ref pk),("word",aC word)]) rfl rfl).sub λg hg=>by refine J (mem_singleton.mp hg) ?_;exact .head _) hn OJ (by simp;exact Ou hr zU) (by decide) (by decide) λav i' out F R FO=>(hH out i' rfl FO F (R5.move F R.at_ hn))⟩ λm' AD zq=>?_;refine gg zq λsn i6 e1 FS F6 R6=>?_;clear zq;subst e1;have L6:=L5.iZ F6 R5.at_;have Y1:=F6 _ _ IS JK;refine dO ft (λm' av=>Ex8 λ(kd:Addr) (a b d:Nat) (x y z:Addr) (i2:Nat)=>DX (a<8) (b<8) (d<8) (m'=mF s2 nA cb rl t st sg w++[(("lap":Str),pid j),("count",.int ((1+r:Nat):Int)),("wanted",.tup ((w0::(mid++[wn])).map aC)),("picks",.ref pk),("word",aC word),("holed",aC sn),("kinds",.ref kd)]) (oM av kd (DP a b d x y z)) (rk av (DP a b d x y z) (JF a b d)) (iF cb AD av) (bG [aZ (pB c.K LL) (mF s2 nA cb rl t st sg w)] av rl cb nA ns i2)) ⟨yV (by rfl) rfl (by decide) (by decide) λn8 hφ=>?_⟩ λm' Pe zq=>?_
 ·have fr:∀g∈[aZ (pB c.K LL) (mF s2 nA cb rl t st sg w++[(("lap":Str),pid j),("count",.int ((1+r:Nat):Int)),("wanted",.tup ((w0::(mid++[wn])).map aC)),("picks",.ref pk),("word",aC word),("holed",aC sn)])],g∈aZ (pB c.K LL) (mF s2 nA cb rl t st sg w++[(("lap":Str),pid j),("count",.int ((1+r:Nat):Int)),("wanted",.tup ((w0::(mid++[wn])).map aC)),("picks",.ref pk),("word",aC word),("holed",aC sn)])::n8:=λg hg=>by refine J (mem_singleton.mp hg) ?_;exact .head _
  refine mU (eh ft ?_);refine⟨gO ft aG.le fr (k:=8) (by rfl) rfl (R6.frame rfl rfl) hn (by decide) λa aak ha G1 S1=>?_⟩;have M1:=L6.iZ G1 R6.at_;refine dF (M1.jd ha) λi1 x s1 s2' s3 s4=>?_;refine⟨cG (k:=a) s1 s3 (by exact JI ha) ?_⟩;refine mU (eh ft ?_);refine⟨gO ft aG.le fr (k:=8) (by rfl) rfl S1 hn (by decide) λb aaj hb G2 S2=>?_⟩;have M2:=M1.iZ G2 S1.at_;refine dF (M2.jd hb) λi2 y u1 u2 u3 u4=>?_;refine⟨cG (k:=b) u1 u3 (by exact JI hb) ?_⟩;refine mU (eh ft ?_);refine⟨gO ft aG.le fr (k:=8) (by rfl) rfl S2 hn (by decide) λd aai hd G3 S3=>?_⟩;have M3:=M2.iZ G3 S2.at_;refine dF (M3.jd hd) λi3 z v1 v2 v3 v4=>?_;refine⟨cG (k:=d) v1 v3 (by exact JI hd) ?_⟩;have x3:=G3.txt S2.at_ (G2.txt S1.at_ s4);have y3:=G3.txt S2.at_ u4;refine GK λkd IZ=>⟨kd,a,b,d,x,y,z,_,ha,hb,hd,rfl,Iy ae,Iv (ai IZ x3) (ai IZ y3) (ai IZ v4),G1.trans (G2.trans (G3.trans (Kp.iZ (Kp.new IZ)))),(S3.kp (Kp.new IZ)).frame rfl rfl⟩
 refine rU zq λkd a b d x y z i7 ha hb pD e1 IZ OK F7 R7=>?_;clear zq;subst e1;refine aA (Iw ha hb pD x y z) λKO CC=>?_;have L7:=L6.iZ F7 R6.at_;have vy:=F7 _ _ Y1 JK;have nt:∀p∈picks.map pid,∀r,p≠.tup r:=λp hp r q=>by(refine ah (mem_map.mp hp) λx _ au=>?_;subst au);exact Gj q
 have X0:DD w0 mid wn [] picks:=⟨hp8,by exact K8 lpk zU,by exact Ou hr zU,OJ,(λu hu=>nomatch hu),by simp⟩;refine dO ft (λm' av=>∃(fq:List RK),sS (m'=mF s2 nA cb rl t st sg w++[(("lap":Str),pid j),("count",.int ((1+r:Nat):Int)),("wanted",.tup ((w0::(mid++[wn])).map aC)),("picks",.ref pk),("word",aC word),("holed",aC sn),("kinds",.ref kd)]) (av pk=some (.lst (picks.map pid))) (bG [aZ (pB c.K LL) (mF s2 nA cb rl t st sg w)] av rl cb nA ns i7) (LW t hx hd st sg w av fq) (fq.length<=bu.length+100)) ⟨E1 ft aG.le L7 (by exact RO E3 Z0 hj Z5) vy X0 FS KO IZ OK CC λav fq L8 F8 Z8=>(fx fq rfl (iL L7.W.T L7.pre F8 vy nt) (R7.fixF L7.W.T L7.pre F8) L8 Z8)⟩ λm' Pd zq=>?_;refine fz zq λfq e1 Y0 R8 L8 Z8=>?_;clear zq;subst e1;refine go ft ⟨gO ft aG.le (λg hg=>by refine J (mem_singleton.mp hg) ?_;exact .head _) (k:=6) (by rfl) rfl (R8.frame (m':=mF s2 nA cb rl t st sg w++[(("lap":Str),pid j),("count",.int ((1+r:Nat):Int)),("wanted",.tup ((w0::(mid++[wn])).map aC)),("picks",.ref pk),("word",aC word),("holed",aC sn),("kinds",.ref kd)]) rfl rfl) hn (by decide) λot Pa hot F9 R9=>⟨Jy (ot:=ot) ft aG.le (L8.iZ F9 R8.at_) (by exact RN E3 Z0 hj Z5 Z8) (F9 _ _ Y0 JK) X hot λav KI L10 F10 Z10=>(aj (mF s2 nA cb rl t st sg w) ⟨rfl,_,KI,(R9.frame rfl rfl).fixF (L8.iZ F9 R8.at_).W.T L8.pre F10,L10,by exact RM Z0 Z5 Z8 Z10⟩ (Le.all (cC rfl rfl rfl rfl rfl rfl rfl ⟨rfl,trivial⟩)))⟩⟩
end
section
set_option tactic.hygienic true
noncomputable def fragOf(h:Heap)(as:List Addr):Frag:=as.filterMap λa=>(h.get? a).map λo=>(a,o)
theorem oz:∀{as:List Addr} {a:Addr} {o:Obj},(fragOf h as).lookup a=some o->h.get? a=some o
 |[],_,_,e=>by exact bL e
 |b::as,a,o,e=>by
  unfold fragOf at e;rw[filterMap_cons] at e;induction q:h.get? b with
  |none=>rw[q] at e;exact oz (as:=as) e
  |some ob=>
   rw[q] at e;simp only[Option.map_some,lookup_cons] at e;induction z:a==b with
   |true=>rw[z] at e;obtain rfl:=sI e;rw[beq_iff_eq] at z;refine J z ?_;exact q
   |false=>rw[z] at e;exact oz (as:=as) e
theorem Ag(h:Heap)(as:List Addr):(fragOf h as).In h:=λa o e=>oz e
theorem bE{α β:Type}{o:Option α}{f:α->Option β}{x:β}(h:o.bind f=some x)(k:∀a,o=some a->f a=some x->G):G:=by
 induction o with
 |none=>exact bL h
 |some a=>exact k a rfl h
theorem Az{α:Type}{o:Option α}{p:α->Bool}(h:o.any p=true)(k:∀a,o=some a->p a=true->G):G:=by
 induction o with
 |none=>exact iD h
 |some a=>exact k a rfl h
theorem mY{a b:Bool}(h:(a&&b)=true)(k:a=true->b=true->G):G:=by
 induction a with
 |false=>exact iD h
 |true=>exact k rfl h
theorem rz{p:Prop}[i:Decidable p](h:decide p=true):p:=of_decide_eq_true h
noncomputable def PE(d:Data):Option (Array Value):=Data.casesOn d none (λ_=>none) (λv _=>some v) (λ_ _=>none) (λ_ _ _=>none) (λ_ _=>none) (λ_=>none) (λ_=>none) (λ_=>none) (λ_=>none) none
noncomputable def rdD(d:Data):Option (Array DictEntry):=Data.casesOn d none (λ_=>none) (λ_ _=>none) (λv _=>some v) (λ_ _ _=>none) (λ_ _=>none) (λ_=>none) (λ_=>none) (λ_=>none) (λ_=>none) none
theorem HH{d:Data}{f:FuncData}(h:JH d=some f):d=.func f:=by induction d<;>first|exact bL h|exact congrArg Data.func (sI h)
theorem Bx{d:Data}{f:Array Value}(h:PE d=some f):∃k,d=.seq f k:=by induction d<;>first|exact bL h|exact⟨_,congrArg (Data.seq · _) (sI h)⟩
theorem HI{d:Data}{f:Array DictEntry}(h:rdD d=some f):∃k,d=.dict f k:=by induction d<;>first|exact bL h|exact⟨_,congrArg (Data.dict · _) (sI h)⟩
noncomputable def fG(fd:FuncData)(b:FuncData):FuncData:={b with params:=fd.params,body:=fd.body,scope:=fd.scope,globals:=fd.globals,closure:=fd.closure,defaults:=fd.defaults,kwdefaults:=fd.kwdefaults,builtins:=fd.builtins}
noncomputable def f9(o:Option Obj):Option FuncData:=o.bind λo=>(JH o.data).bind λf=>some (fG f default)
theorem yR{K:Frag}{o:Obj}(e:K.lookup a=some o)(q:JH o.data=some fd):fdOf K a=fd:=
 (congrArg (λx:Option Obj=>(x.bind λo=>JH o.data).getD default) e).trans (congrArg (Option.getD · default) q)
theorem Nw{K:Frag}(e:fdOf K a=fd)(h:fG fd default=fG (lj [] a st dV) default):fd=lj K a st dV:=by subst e;exact congrArg (λx=>fG x (fdOf K a)) h
theorem oB{K:Frag}(h:f9 (K.lookup a)=some (fG (lj [] a st dV) default))(hc:codeIn K (fdOf K a).code (fdOf K a).qualname=true):FnAt K a st dV:=
 ⟨bE h λo e h=>bE h λfd q h=>⟨o.cls,o.dict,o.slots,e.trans (congrArg (λd=>some (Obj.mk o.cls o.dict d o.slots)) ((HH q).trans (congrArg Data.func (Nw (yR e q) (sI h)))))⟩,hc⟩
noncomputable def nV(v:Value):Nat:=Value.casesOn v 0 0 0 (λ_=>0) (λ_ t=>t) (λ_ t=>t) (λ_ t=>t) (λ_ t=>t) (λ_=>0) (λ_=>0) (λa=>a)
noncomputable def Yy(K:Frag)(x:Str)(v:Option Value):Bool:=decide (nsIn K mainGlobals x=some v)
noncomputable def MI(K:Frag)(x:Str)(i:Int):Bool:=(nsIn K mainGlobals x).any λo=>o.any (Value.isInt i)
theorem ET{K:Frag}{i:Int}(h:MI K x i=true):∃t,nsIn K mainGlobals x=some (some (.int i t)):=
 Az h λ_ e h=>Az h λ_ q h=>(Value.isInt_shape h).elim λt z=>⟨t,e.trans (congrArg some (q.trans (congrArg some z)))⟩
noncomputable def zx(K:Frag)(a:Addr)(f:List Value->List Value):Bool:=(K.lookup a).any λo=>(PE o.data).any λvs=>decide (vs.toList=f vs.toList)
theorem ya{K:Frag}{f:List Value->List Value}(h:zx K a f=true)(g:∀oc od oe k l,K.lookup a=some ⟨oc,od,.seq (Array.mk (f l)) k,oe⟩->G):G:=
 Az h λo e h=>Az h λvs q h=>(Bx q).elim λk z=>g o.cls o.dict o.slots k vs.toList (e.trans (congrArg (λd=>some (Obj.mk o.cls o.dict d o.slots)) (z.trans (congrArg (λl=>Data.seq (Array.mk l) k) (rz h)))))
noncomputable def Pt(i:Int)(l:List Value):List Value:=[.int i (nV (l.getD 0 .none))]
noncomputable def sq2(i j:Int)(l:List Value):List Value:=[.int i (nV (l.getD 0 .none)),.int j (nV (l.getD 1 .none))]
noncomputable def vrS(K:Frag)(r:PV->Value->Bool)(p:PV)(v:Value):Bool:=PV.casesOn p false (λ_=>false) (λi=>Value.isInt i v) (λx=>Value.isStrOf x v)
 (λl=>decide (v=.ref (nV v))&&(K.lookup (nV v)).any λo=>decide (o.cls=.type "tuple")&&(PE o.data).any λvs=>decide (vs.toList.length=l.length)&&(l.zip vs.toList).all λq=>r q.1 q.2) (λ_=>false)
noncomputable def vrB(K:Frag)(n:Nat):PV->Value->Bool:=Nat.rec (λ_ _=>false) (λ_ r=>vrS K r) n
theorem D7{r:PV->Value->Bool}(hr:∀p v,r p v=true->Vr h p v)(l:List PV):∀vs:List Value,vs.length=l.length->((l.zip vs).all λq=>r q.1 q.2)=true->dD h l vs:=by
 induction l with
 |nil=>intro vs e1 _;exact J (length_eq_zero_iff.mp e1) .nil
 |cons a l ih=>
  intro vs e1 e2;induction vs using LC with
  |nil=>exact qp e1
  |cons v vs=>exact mY e2 λq1 q2=>.cons (hr a v q1) (ih vs (Nat.succ.inj e1) q2)
theorem Ha{K:Frag}(X:K.In h){r:PV->Value->Bool}(hr:∀p v,r p v=true->Vr h p v)(p:PV)(v:Value)(e:vrS K r p v=true):Vr h p v:=by
 induction p using PV.casesOn with
 |none=>exact iD e
 |bool b=>exact iD e
 |int i=>exact(Value.isInt_shape e).elim λt z=>J z (.int i t)
 |str x=>exact(Value.isStrOf_shape e).elim λt z=>J z (.str x t)
 |ref a=>exact iD e
 |tup l=>exact mY e λe1 e=>Az e λo ho e=>mY e λe2 e=>Az e λvs q e=>mY e λe3 e=>(Bx q).elim λk z=>J (rz e1) (.tup (items:=vs) ⟨o,X _ _ ho,rz e2,k,z⟩ (D7 hr l _ (rz e3) e))
theorem Hb{K:Frag}(X:K.In h)(n:Nat):∀(p:PV) (v:Value),vrB K n p v=true->Vr h p v:=by
 induction n with
 |zero=>exact λ_ _ e=>iD e
 |succ n ih=>exact Ha X ih
noncomputable def codeB(K:Frag)(a:Addr):Bool:=codeIn K (fdOf K a).code (fdOf K a).qualname
noncomputable def atB(K:Frag)(C:Addr)(a:Str):Bool:=plainGet K C a&&(decide (takerIn K C a=some none)&&decide (findIn K (.ref C) a=some none))
noncomputable def msB(K:Frag)(C:Addr)(e:Str×Addr×Stmt):Bool:=plainGet K C e.1&&(decide (findIn K (.ref C) e.1=some (some (.ref e.2.1)))&&(decide (typeIn K (.ref e.2.1)=some (.type "function"))&&(codeB K e.2.1&&keepIn K (.ref e.2.1))))
noncomputable def Fx(K:Frag)(C fI:Addr)(attrs:List Str)(ms:List (Str×Addr×Stmt)):Bool:=makesIn K C&&(decide (findIn K (.ref C) "__init__"=some (some (.ref fI)))&&(decide (typeIn K (.ref fI)=some (.type "function"))&&(codeB K fI&&
 (attrs.all (atB K C)&&(ms.all (msB K C)&&(hasDictIn K C&&(plainOver K C&&decide (findIn K (.ref C) "__setattr__"=some (some (.builtin "object.__setattr__"))))))))))
theorem AA{α:Type}{p:α->Bool}{l:List α}(h:l.all p=true):∀a∈l,p a=true:=all_eq_true.mp h
theorem ug{K:Frag}{fI:Addr}{stI:Stmt}{attrs:List Str}{ms:List (Str×Addr×Stmt)}(h:Fx K C fI attrs ms=true)(hI:f9 (K.lookup fI)=some (fG (lj [] fI stI .none) default))(hM:∀e∈ms,f9 (K.lookup e.2.1)=some (fG (lj [] e.2.1 e.2.2 .none) default)):DN K C fI stI attrs ms:=
 mY h λh1 h=>mY h λh2 h=>mY h λh3 h=>mY h λh4 h=>mY h λh5 h=>mY h λh6 h=>mY h λh7 h=>mY h λh8 h9=>
 ⟨h1,rz h2,rz h3,oB hI h4,λa ha=>mY (AA h5 a ha) λa1 h=>mY h λa2 a3=>⟨a1,rz a2,rz a3⟩,
  λe he=>mY (AA h6 e he) λa1 h=>mY h λa2 h=>mY h λa3 h=>mY h λa4 a5=>⟨a1,rz a2,rz a3,oB (hM e he) a4,a5⟩,h7,h8,rz h9⟩
theorem baL{a b:Bool}(h:(a&&b)=true):a=true:=mY h λx _=>x
noncomputable def GJ(K:Frag)(a:Addr)(ks:List Int):Bool:=(K.lookup a).any λo=>decide (o.cls=.type "dict")&&(decide (o.dict=none)&&(o.slots.isEmpty&&(rdD o.data).any λes=>decide (es.toList.length=ks.length)&&(ks.zip es.toList).all λq=>Value.isInt q.1 q.2.key&&decide (q.2.hash=hashInt q.1)))
theorem BH{prog:Program}{w:World}(ks:List Int):∀es:List DictEntry,es.length=ks.length->((ks.zip es).all λq=>Value.isInt q.1 q.2.key&&decide (q.2.hash=hashInt q.1))=true->∃cm,Pairs (PySem.intKind prog w) es cm/\cm.map (·.1)=ks/\∀e∈es,∃k,(PySem.intKind prog w).is k e.key=true/\e.hash=(PySem.intKind prog w).hash k:=by
 induction ks with
 |nil=>intro es e1 _;exact J (length_eq_zero_iff.mp e1) (bb [] .nil rfl (λ_ h=>nomatch h))
 |cons k ks ih=>
  intro es e1 e2;induction es using LC with
  |nil=>exact qp e1
  |cons e es=>
   refine mY e2 λq e2=>mY q λq1 q2=>?_;refine aK (ih es (Nat.succ.inj e1) e2) λcm p1 p2 p3=>?_;exact bb ((k,e.val)::cm) (.cons q1 rfl p1) (congrArg (k::·) p2) (λx hx=>(mem_cons.mp hx).elim (λz=>⟨k,z▸q1,z▸rz q2⟩) (p3 x))
theorem Df{prog:Program}{w:World}{K:Frag}(X:K.In h){ks:List Int}(nd:ks.Nodup)(e:GJ K a ks=true):∃cm,h.DictOf (PySem.intKind prog w) a cm/\cm.map (·.1)=ks:=
 Az e λo ho e=>mY e λe1 e=>mY e λe2 e=>mY e λe3 e=>Az e λes q e=>mY e λe4 e=>(HI q).elim λep z=>aK (BH (prog:=prog) (w:=w) ks _ (rz e4) e) λcm p1 p2 p3=>
  ⟨cm,⟨o,es,ep,X _ _ ho,⟨rz e1,rz e2,Array.isEmpty_iff.mp e3⟩,z,λx hx=>p3 x (Array.mem_toList_iff.mpr hx),p1,p2▸nd⟩,p2⟩
noncomputable def fH:List (Addr×Stmt×Value):=(106,eK (fU 41) 0,.none)::(120,eK (fU 41) 2,.none)::(348,eK (fU 78) 0,.none)::(423,eK (fU 91) 0,.none)::(430,eK (fU 91) 1,.none)::(577,eK (fU 94) 0,.none)::
 (oZ.map (λe=>(e.2.1,fU e.2.2,Value.none))++o8.map (λe=>(e.2.1,fU e.2.2.1,Value.ref e.2.2.2)))
noncomputable def oA:List (Option FuncData):=fH.map λe=>some (fG (lj [] e.1 e.2.1 e.2.2) default)
noncomputable def qK(h:Heap):List (Option FuncData):=(fH.map (·.1)).map λa=>f9 (h.get? a)
noncomputable def Mz(K:Frag):Bool:=fH.all λe=>(K.lookup e.1).isSome
noncomputable def ZF(K:Frag)(x:Str)(a:Addr):Bool:=Yy K x (some (.ref a))&&(keepIn K (.ref a)&&codeB K a)
noncomputable def Pl(K:Frag)(e:Str×PV):Bool:=(nsIn K mainGlobals e.1).any λo=>o.any (vrB K 9 e.2)
noncomputable def MG(K:Frag):Bool:=(nsIn K mainGlobals "KID_SPANS").any λo=>o.any λv=>decide (v=.ref (nV v))&&(decide ((nV v==sysModules)=false)&&GJ K (nV v) [11,14,15,16,17])
noncomputable def GN(v:Value):Bool:=match v with|.none=>false|.type n=>!(n=="list")|_=>true
noncomputable def Jt(K:Frag):Bool:=K.all λe=>GN e.2.cls
noncomputable def NG(K:Frag):List Bool:=[Mz K,Jt K,MG K,sN.all λe=>Yy K e.1 (some (.ref e.2))&&keepIn K (.ref e.2),Fx K 123 106 pI [("put",120,eK (fU 41) 2)],Fx K 351 348 uf [],Fx K 587 423 xU [("force",430,eK (fU 91) 1),("put_deferred",577,eK (fU 94) 0)],
 (K.lookup sysModules).isSome,oZ.all λe=>ZF K e.1 e.2.1,tX.all λe=>MI K e.1 e.2,pe.all λe=>Yy K e.1 none,s7.all (Pl K),zx K 128 (Pt 0),zx K 136 (Pt 0),zx K 144 (sq2 (-1) (-1)),o8.all λe=>ZF K e.1 e.2.1]
noncomputable def lA(K:Frag):Bool:=(NG K).all id
theorem lu{K:Frag}(h:lA K=true)(i:Nat){b:Bool}(e:(NG K)[i]? =some b):b=true:=AA h b (mem_of_getElem? e)
theorem fnl{x:Addr×Stmt×Value}(h:x∈oZ.map (λe=>(e.2.1,fU e.2.2,Value.none))++o8.map (λe=>(e.2.1,fU e.2.2.1,Value.ref e.2.2.2))):x∈fH:=.tail _ (.tail _ (.tail _ (.tail _ (.tail _ (.tail _ h)))))
theorem xB{P:Addr×Stmt×Value->Prop}(h:∀x∈fH,P x)(i:Nat){x:Addr×Stmt×Value}(e:fH[i]? =some x):P x:=h x (mem_of_getElem? e)
theorem isE{α:Type}{o:Option α}(h:o.isSome=true):∃a,o=some a:=Option.isSome_iff_exists.mp h
theorem x9{K:Frag}{i:Int}(h:zx K a (Pt i)=true):∃oc od oe k t,K.lookup a=some ⟨oc,od,.seq #[.int i t] k,oe⟩:=ya h λoc od oe k _ e=>⟨oc,od,oe,k,_,e⟩
theorem En{K:Frag}{i j:Int}(h:zx K a (sq2 i j)=true):∃oc od oe k t u,K.lookup a=some ⟨oc,od,.seq #[.int i t,.int j u] k,oe⟩:=ya h λoc od oe k _ e=>⟨oc,od,oe,k,_,_,e⟩
theorem Iu(ok:c.Ok)(h:MG c.K=true):∃a,nsIn c.K mainGlobals "KID_SPANS"=some (some (.ref a))/\(a==sysModules)=false/\∃cm,c.H.DictOf (PySem.intKind c.prog c.w) a cm/\cm.map (·.1)=[11,14,15,16,17]:=
 Az h λ_ e h=>Az h λv q h=>mY h λh1 h=>mY h λh2 h=>⟨nV v,e.trans (congrArg some (q.trans (congrArg some (rz h1)))),rz h2,Df ok.X (by decide) h⟩
theorem GH{K:Frag}(h:ZF K x a=true)(hf:f9 (K.lookup a)=some (fG (lj [] a st dV) default)):nsIn K mainGlobals x=some (some (.ref a))/\keepIn K (.ref a)=true/\FnAt K a st dV:=
 mY h λh1 h=>mY h λh2 h=>⟨rz h1,h2,oB hf h⟩
theorem Nt(ok:c.Ok)(hc:lA c.K=true)(hf:∀x∈fH,f9 (c.K.lookup x.1)=some (fG (lj [] x.1 x.2.1 x.2.2) default)):Ft c:=
 {kid:=Iu ok (lu hc 2 rfl),cl:=λe he=>mY (AA (lu hc 3 rfl) e he) λa b=>⟨rz a,b⟩,
  tt:=ug (lu hc 4 rfl) (xB hf 0 rfl) λ_ he=>mem_singleton.mp he▸xB hf 1 rfl,
  cu:=ug (lu hc 5 rfl) (xB hf 2 rfl) λ_ he=>(nomatch he),
  th:=ug (lu hc 6 rfl) (xB hf 3 rfl) λ_ he=>(mem_cons.mp he).elim (λz=>z▸xB hf 4 rfl) λhe=>mem_singleton.mp he▸xB hf 5 rfl,
  ok:=ok,sys:=(isE (lu hc 7 rfl)).elim λo ho=>⟨o,ok.X _ _ ho⟩,
  fn:=λe he=>GH (AA (lu hc 8 rfl) e he) (hf (e.2.1,fU e.2.2,.none) (fnl (mem_append_left _ (mem_map_of_mem (f:=λe:Str×Addr×Nat=>(e.2.1,fU e.2.2,Value.none)) he)))),
  int:=λe he=>ET (AA (lu hc 9 rfl) e he),bi:=λe he=>rz (AA (lu hc 10 rfl) e he),
  val:=λe he=>Az (AA (lu hc 11 rfl) e he) λ_ a h=>Az h λv b h=>⟨v,a.trans (congrArg some b),Hb ok.X 9 _ _ h⟩,
  d1:=x9 (lu hc 12 rfl),d2:=x9 (lu hc 13 rfl),d3:=En (lu hc 14 rfl),ZT:=λe he=>GH (AA (lu hc 15 rfl) e he) (hf (e.2.1,fU e.2.2.1,.ref e.2.2.2) (fnl (mem_append_right _ (mem_map_of_mem (f:=λe:Str×Addr×Nat×Addr=>(e.2.1,fU e.2.2.1,Value.ref e.2.2.2)) he))))}
theorem vY{K:Frag}(h:lA K=true):∀x∈fH,∃o,K.lookup x.1=some o:=λx hx=>isE (AA (lu h 0 rfl) x hx)
theorem Fy{K:Frag}(h:lA K=true):nsIn K mainGlobals "law"=some (some (.ref 687)):=
 rz (baL (AA (lu h 8 rfl) ("law",687,114) (mem_of_getElem? (i:=45) rfl)))
theorem Fz{K:Frag}(h:lA K=true):Jt K=true:=lu h 1 rfl
set_option backward.match.sparseCases true
noncomputable def Ce:List Addr:=[3,1,63,64,65,66,67,68,69,70,71,72,73,74,75,76,77,78,79,80,81,82,83,84,85,86,87,105,106,119,120,122,123,128,134,135,136,142,143,144,150,151,157,158,164,165,171,172,178,179,185,186,192,193,197,198,219,220,226,227,233,234,240,241,257,258,264,265,266,272,273,279,280,286,287,293,294,300,301,305,306,312,313,319,320,326,327,333,334,347,348,350,351,361,362,368,369,375,376,382,383,389,390,396,397,401,402,408,409,422,423,429,430,551,552,576,577,586,587,595,596,602,603,614,615,616,617,623,624,630,631,635,636,642,643,649,650,654,655,661,662,666,667,671,672,676,677,681,682,686,687]
noncomputable def qV:Program:=view pw [114]
noncomputable def fY:List Str:=(pw.main.scope.names.map (·.1)).filter λx=>!(x==("law":Str))
noncomputable def JY(s:Shared):Bool:=lA (fragOf s.heap Ce)
noncomputable abbrev Eu:String:="special-get-raises"
noncomputable def uL:Nat:=10000
noncomputable def Po(st:SharedT->Thread->Option (SharedT×Thread))(ok:Thread->Bool)(r:SharedT->Thread->Option SharedT)(s:SharedT)(t:Thread):Option SharedT:=bif through t then some s else bif ok t then (st s t).bind λq=>r q.1 q.2 else none
noncomputable def Kl(st:SharedT->Thread->Option (SharedT×Thread))(ok:Thread->Bool)(n:Nat):SharedT->Thread->Option SharedT:=Nat.rec (λ_ _=>none) (λ_ r=>Po st ok r) n
theorem cE{α:Type}{b:Bool}{x y:Option α}{r:α}(h:(bif b then x else y)=some r)(k1:b=true->x=some r->G)(k2:b=false->y=some r->G):G:=by
 cases b with
 |true=>exact k1 rfl h
 |false=>exact k2 rfl h
theorem Eg{tb:String->Option Builtin}{p:Program}{w:World}{n₀:Nat}{ann:Option Value}(n:Nat):∀{s s':SharedT} {t:Thread},Kl (stepT (denote tb) p w) (stepOk n₀ ann) n s t=some s'->topRun tb p w n₀ ann n s.abs t=some s'.abs:=by
 induction n with
 |zero=>exact λh=>bL h
 |succ n ih=>
  intro s s' t h;unfold topRun;refine cE h (λht e=>J ht (congrArg (λx:SharedT=>some x.abs) (sI e))) λht h=>?_;refine cE h (λhk h=>?_) λ_ e=>bL e;refine bE h λr hs h=>?_;refine J ht (J hk ?_);dsimp only;refine J (stepT_spec hs) ?_;exact ih h
noncomputable def Cg:List Obj->Nat->BT->BT
 |[],_,t=>t
 |o::l,n,t=>Cg l (n+1) (t.ins n o)
noncomputable def s0V(w:World)(os:OsState):SharedT:=⟨Cg (boot_heap w.params).objs.toList 0 .nil,(boot_heap w.params).objs.size,(boot_heap w.params).life,Array.mk [],boot_drawn,boot_toks,os⟩
theorem Hv(w:World)(os:OsState):(s0V w os).abs=⟨boot_heap w.params,Array.mk [],boot_drawn,boot_toks,os⟩:=by kernel_rfl
theorem KG(w:World)(os:OsState):((boot_heap w.params).isNs mainGlobals&&(Array.mk []:Array GenState).size==0)=true:=by kernel_rfl
noncomputable def CG(t:SharedT)(a:Addr):Option Obj:=match Nat.blt a t.n with
 |true=>alive ((t.tree.get a).getD default)
 |false=>none
theorem yN(t:SharedT)(a:Addr):t.abs.heap.get? a=CG t a:=by
 show (match (absHeap t.tree t.n t.life).objs[a]? with|some ⟨_,_,.freed,_⟩=>none|o=>o)=_;rw[absHeap_at];unfold CG
 by_cases h:a<t.n
 ·rw[if_pos h,show Nat.blt a t.n=true from Nat.ble_eq_true_of_le h]
  generalize (t.tree.get a).getD default=o;obtain ⟨c,d,dt,sl⟩:=o;cases dt<;>rfl
 ·rw[if_neg h,show Nat.blt a t.n=false from Bool.eq_false_iff.mpr λq=>h (Nat.le_of_ble_eq_true q)]
noncomputable def CP(t:SharedT)(as:List Addr):Frag:=as.filterMap λa=>(CG t a).map λo=>(a,o)
theorem CO(t:SharedT)(as:List Addr):fragOf t.abs.heap as=CP t as:=by unfold fragOf CP;exact congrArg (λf=>as.filterMap f) (funext λa=>congrArg _ (yN t a))
theorem Jc(t:SharedT):qK t.abs.heap=(fH.map (·.1)).map λa=>f9 (CG t a):=by unfold qK;exact congrArg (λf=>(fH.map (·.1)).map f) (funext λa=>congrArg _ (yN t a))
noncomputable def BX(H:Heap)(t:SharedT):=(staticsOk (importedModules pw.main.body) H t.abs.heap&&namesBound pw t.abs.heap&&gensDone t.abs&&laidKept H t.abs.heap,openSeen qV fY (importedModules pw.main.body) (λ_=>true) true t.abs)
noncomputable def BW(t:SharedT):=(lA (CP t Ce),(fH.map (·.1)).map λa=>f9 (CG t a))
noncomputable def rN(w:World)(b:Bool)(os:OsState):Option SharedT:=Kl (stepT (denote treeTable) pw (w.withFollow Eu b)) (stepOk (boot_heap w.params).objs.size ((boot_heap w.params).nsMap mainGlobals "__annotations__")) uL (s0V w os) (topStub pw)
theorem HC(w:World)(os:OsState):(rN w false os).map (BX (boot_heap w.params))=some (true,openGood qV fY):=by
 unfold rN;rw[PySem.W.Fast.te10156331382660048174,PySem.W.Fast.te11892475500146522536,PySem.W.Fast.te14364793385576792824]
 kernel_rfl
theorem HA(w:World)(os:OsState):(rN w true os).map (BX (boot_heap w.params))=some (true,openGood qV fY):=by
 unfold rN;rw[PySem.W.Fast.te10156331382660048174,PySem.W.Fast.te11892475500146522536,PySem.W.Fast.te14364793385576792824]
 kernel_rfl
theorem Hz(w:World)(os:OsState):(rN w false os).map (BW)=some (true,oA):=by
 unfold rN;rw[PySem.W.Fast.te10156331382660048174,PySem.W.Fast.te11892475500146522536,PySem.W.Fast.te14364793385576792824]
 kernel_rfl
theorem Hy(w:World)(os:OsState):(rN w true os).map (BW)=some (true,oA):=by
 unfold rN;rw[PySem.W.Fast.te10156331382660048174,PySem.W.Fast.te11892475500146522536,PySem.W.Fast.te14364793385576792824]
 kernel_rfl
theorem Bv{w:World}{b:Bool}{os:OsState}(A:(rN w b os).map (BX (boot_heap w.params))=some (true,openGood qV fY))(B:(rN w b os).map BW=some (true,oA)):
  (topFrom treeTable pw (w.withFollow Eu b) uL ⟨boot_heap w.params,Array.mk [],boot_drawn,boot_toks,os⟩).map (λs=>(openSeen qV fY (importedModules pw.main.body) JY true s,qK s.heap))=some (openGood qV fY,oA):=by
 obtain ⟨t,e,a⟩:=Option.map_eq_some_iff.mp A;rw[e] at B;have bq:=sI B;obtain ⟨a1,a2⟩:=Prod.mk.inj a;obtain ⟨b1,b2⟩:=Prod.mk.inj bq;have r:=Eg _ e;rw[Hv] at r;have X:JY t.abs=true:=by unfold JY;rw[CO];exact b1
 have f:topFrom treeTable pw (w.withFollow Eu b) uL ⟨boot_heap w.params,Array.mk [],boot_drawn,boot_toks,os⟩=some t.abs:=by unfold topFrom;dsimp only;rw[KG w os,r];show (match staticsOk (importedModules pw.main.body) (boot_heap w.params) t.abs.heap&&namesBound pw t.abs.heap&&gensDone t.abs&&laidKept (boot_heap w.params) t.abs.heap with|true=>_|false=>_)=_;rw[a1]
 rw[f];refine congrArg some (Prod.ext ?_ ?_)
 ·rw[<-a2]
  show openSeen qV fY _ JY true t.abs=openSeen qV fY _ (λ_=>true) true t.abs;unfold openSeen;rw[X]
 ·exact(Jc t).trans b2
theorem YC{α β γ:Type}{o:Option α}{f:α->β}{b:β}{F:α->γ}{r:γ}(h:o.map f=some b)(k:∀a,f a=b->F a=r):o.map F=some r:=by
 cases o with
 |none=>exact bL h
 |some a=>exact congrArg some (k a (sI h))
theorem Ky{g:Array GenState}{d}{t}(q:(s.heap,s.gens,s.drawn,s.toks)=(h,g,d,t)):s=⟨h,g,d,t,s.os⟩:=by cases q;rfl
theorem Ip:LeftO pw qV fY JY (λs=>qK s.heap) (λ_=>oA) uL:=LeftO.of_split Eu λw=>
 YC (boot_open (p:=pw) (N:=uL) rfl rfl (λs=>rfl) w) λuI q=>by rw[Ky q];exact Prod.ext (Bv (HC w uI.os) (Hz w uI.os)) (Bv (HA w uI.os) (Hy w uI.os))
noncomputable abbrev mJ:OpenLaw:=PySem.Challenge.rw_xm0462_01
def N9(_:Str->Option Value)(h:Heap):Prop:=∃K:Frag,K.In h/\lA K=true
def JE(_:World)(h:Heap):Prop:=∀x∈fH,∃o,h.get? x.1=some o/\f9 (some o)=some (fG (lj [] x.1 x.2.1 x.2.2) default)
theorem EJ{α β:Type}{f g:α->β}{l:List α}(e:l.map f=l.map g):∀x∈l,f x=g x:=map_inj_left.mp e
theorem J3{w:World}(e:qK s.heap=oA):JE w s.heap:=λx hx=>
 have q:f9 (s.heap.get? x.1)=some (fG (lj [] x.1 x.2.1 x.2.2) default):=EJ (f:=λx:Addr×Stmt×Value=>f9 (s.heap.get? x.1)) (g:=λe=>some (fG (lj [] e.1 e.2.1 e.2.2) default)) ((map_map (l:=fH) (f:=λx:Addr×Stmt×Value=>x.1) (g:=λa=>f9 (s.heap.get? a))).symm.trans e) x hx
 bE q λo ho z=>⟨o,ho,ho▸q⟩
theorem AG(w:World)(h h':Heap)(y:JE w h)(k:∀b o,h.get? b=some o->h'.get? b=some o):JE w h':=λx hx=>by exact(y x hx).elim λo z=>⟨o,k _ _ z.1,z.2⟩
theorem AH(mg:Str->Option Value)(h h':Heap)(y:N9 mg h)(k:∀b o,h.get? b=some o->h'.get? b=some o):N9 mg h':=by exact y.elim λK z=>⟨K,z.1.keeps k,z.2⟩
theorem J4(s:Shared)(e:JY s=true):N9 (s.heap.nsMap mainGlobals) s.heap:=⟨_,Ag _ _,e⟩
theorem rec_of(h:Heap):RecFacts [] h:=⟨λx hx=>(nomatch hx),λx hx=>(nomatch hx),λc c' a hc=>(nomatch hc),λc fs hf=>(nomatch hf)⟩
theorem Ht:mJ.wellSaid=true:=by
 rw[PySem.W.Fast.te9446332074065402090]
 decide+kernel
theorem Ys:(chainsOk qV&&opensWell mJ.row.prog&&(frees mJ.row.toRowW&&mJ.row.within.isEmpty))=true:=by decide+kernel
theorem w8:mJ.row.toRowW.promised:=⟨[.list []],by decide+kernel,by decide+kernel⟩
theorem Jz:mJ.row.prog.bare:=⟨rfl,rfl,rfl,rfl,rfl,by decide+kernel⟩
theorem Fq{α β γ:Type}{o:Option (α×β)}{t:Option γ}{f:α->γ}{g:α->Option β}(h:o.isSome=true)(e1:o.map (λr=>f r.1)=t)(e2:(o.bind λr=>g r.1)=o.map (·.2)):∃d k,o=some (d,k)/\t=some (f d)/\g d=some k:=by
 induction o with
 |none=>exact iD h
 |some r=>exact⟨r.1,r.2,rfl,e1.symm,e2⟩
theorem EO:∃d JO,defOf qV mJ.row.name=some (d,JO)/\mJ.row.prog.theDef mJ.row.name=some (d.params,d.body,d.scope)/\kwWritten? d.params.kwonlyargs d.params.kw_defaults=some JO:=
 Fq (f:=λd:DefRec=>(d.params,d.body,d.scope)) (g:=λd:DefRec=>kwWritten? d.params.kwonlyargs d.params.kw_defaults) rfl rfl rfl
theorem items_int{R:WRecords}(xs:List WData):WShape.hasItems R xs .int=true->∃is:List Int,xs=is.map .int:=by
 induction xs with
 |nil=>exact λ_=>⟨[],rfl⟩
 |cons x xs ih=>exact λh=>mY h λa b=>(hasW_int a).elim λi e=>(ih b).elim λis e'=>⟨i::is,e▸e'▸rfl⟩
theorem AJ{i:Int}(x:Well P h v (.int i)):∃t,v=.int i t:=by cases x;exact⟨_,rfl⟩
theorem uy(x:WellAll P h vs []):vs=[]:=by cases x;rfl
theorem y5{xs:List WData}(x:Well P h v (.list xs)):∃a vs,v=.ref a/\h.get? a=some {cls:=.type "list",data:=.seq vs.toArray}/\WellAll P h vs xs:=by cases x with|list e w=>exact⟨_,_,rfl,e,w⟩
theorem y6{h':Heap}(is:List Int):∀vs:List Value,WellAll P h vs (is.map .int)->dD h' (is.map .int) vs:=by
 induction is with
 |nil=>exact λvs x=>J (uy x) .nil
 |cons i is ih=>exact λvs x=>(wellAll_cons_inv x).elim λv x=>x.elim λAK x=>J x.1 ((AJ x.2.1).elim λt e=>J e (.cons (.int i t) (ih AK x.2.2)))
theorem Ez(h:mJ.row.pre.holds [] {args:=[.list (is.map .int)]}=true):is.length<=63:=by
 have v:=(holdsW_of_value (w_and (w_not (w_lt (w_lit (d:=.int 63)) (w_len_list (w_arg (i:=0) rfl)))) (w_lit (d:=.bool true)))).symm.trans h;have:=baL v;simp at this
 omega
theorem FR{args:List WData}(h:mJ.row.toRowW.claim.pre args=true):∃is:List Int,args=[.list (is.map .int)]/\is.length<=63:=
 (hasAllW_cons (pre_splitW h).1).elim λ_ z=>z.elim λ_ z=>(hasW_list z.2.1).elim λ_ y=>(items_int _ y.2).elim λis e3=>
  have e:args=[.list (is.map .int)]:=by rw[z.1,y.1,e3,hasAllW_nil z.2.2]
  ⟨is,e,Ez (e▸(pre_splitW h).2)⟩
theorem HM{args:List WData}:mJ.row.toRowW.claim.post args (.bool true) args=true:=by refine postW_of (X:=true) rfl ?_ rfl;show (WTm.eq .res (.lit (.bool true))).value _ _=_;exact w_eq_bool (k:=true) (l:=true) (w_res rfl) w_lit
noncomputable def cxV(w:World)(s:Shared)(P:Addr)(K:Frag)(mg mb:Str->Option Value):Cx:=⟨pw,w,s.heap.hide P,s.os,K,mg,mb⟩
theorem ve{α:Type}{l:List (Addr×α)}{o:α}(e:l.lookup a=some o):(a,o)∈l:=
 (lookup_eq_some_iff.mp e).elim λ_ z=>z.elim λ_ z=>z.1▸mem_append_right _ (.head _)
section
variable {P:Addr} {K:Frag}
theorem nO{b:Addr}{o:Obj}(gP:h.get? P=some (tabObj #[]))(e:h.get? b=some o)(z:o.cls≠.none):b≠P:=λq=>z (by rw[q,gP] at e;exact(sI e)▸rfl)
theorem Mv(X:K.In h)(hK:Jt K=true)(gP:h.get? P=some (tabObj #[])){b:Addr}{o:Obj}(e:K.lookup b=some o):b≠P:=
 nO gP (X _ _ e) λz=>by exact iD ((congrArg GN z).symm.trans (AA hK _ (ve e)))
theorem tN(gP:h.get? P=some (tabObj #[])){b:Addr}{m:Str->Option Value}(N:h.Ns b m):(h.hide P).Ns b m:=
 N.elim λo z=>z.elim λes z=>z.elim λep z=>⟨o,es,ep,(Heap.hide_ne _ λq=>sL ((congrArg Obj.data (sI (gP.symm.trans ((congrArg h.get? q).symm.trans z.1)))).trans z.2.1)).trans z.1,z.2⟩
theorem Hk{c:Addr}(gP:h.get? P=some (tabObj #[]))(T:h.TableAt c P #[]):c≠P:=T.1.elim λo z=>z.elim λ_ z=>nO gP z.1 λq=>nomatch z.2.1.symm.trans q
theorem z9{c:Addr}(n:c≠P)(C:CodeHd h c P):CodeHd (h.hide P) c P:=by unfold CodeHd;exact J (Heap.hide_ne h n) C
theorem B8(gP:h.get? P=some (tabObj #[]))(N:h.NoLimit):(h.hide P).NoLimit:=N.elim λmc e=>⟨mc,tN gP e.1,e.2⟩
theorem BU(gP:h.get? P=some (tabObj #[]))(g:h.Ns mainGlobals mg)(B:∃bm ob,mg "__builtins__"=some (.ref bm)/\bm≠builtinsNs/\h.get? bm=some ob/\ob.cls=.type "module"/\ob.dict=some builtinsNs/\ob.data=.plain):(h.hide P).BuiltinsAt mg P:=
 B.elim λbm z=>z.elim λob z=>
 have n:=nO gP z.2.2.1 λq=>nomatch z.2.2.2.1.symm.trans q
 ⟨bm,ob,z.1,z.2.1,λq=>g.elim λo y=>y.elim λes y=>y.elim λep y=>sL (y.2.1.symm.trans ((congrArg Obj.data (sI (y.1.symm.trans (q▸z.2.2.1)))).trans z.2.2.2.2.2)),n,(Heap.hide_ne _ n).trans z.2.2.1,z.2.2.2⟩
theorem KL{w:World}(gP:s.heap.get? P=some (tabObj #[]))(hg:s.gens=#[]):Rep pw w (s.heap.hide P) s.os s (upd (λ_=>none) P (.fn (tabObj #[]))) []:=
 ⟨λb o e=>Heap.of_hide e,rfl,hg,λb o e=>by
  by_cases q:b=P
  ·rw[q] at e ⊢
   rw[ae] at e;rw[<-sI e];exact⟨Heap.hide_self _ _,gP,λitems k z=>sL z⟩
  ·rw[aB q] at e;exact bL e,λf hf=>(nomatch hf),trivial⟩
theorem Mq{w:World}{s':Shared}{os:OsState}{c:Addr}{more:Array Value}(gP:s.heap.get? P=some (tabObj #[]))(T:s.heap.TableAt c P #[])(R:Rep pw w (s.heap.hide P) os s' V φ)(e:V P=some (.fn (tabObj more))):OldK s.heap s'.heap:=by
 have g':=(R.obj _ _ e).2.1;refine⟨λb o e=>?_,λb o e=>?_⟩
 ·by_cases q:b=P
  ·rw[q] at e ⊢
   rw[gP] at e;rw[<-sI e];exact .inr (.inl ⟨T.isCodeTable,rfl,#[],more,rfl,by rw[g'];exact congrArg (λx=>some (tabObj x)) (Array.empty_append).symm⟩)
  ·exact .inl (R.base _ _ ((Heap.hide_ne _ q).trans e))
 ·by_cases q:b=P
  ·rw[q];exact⟨_,g'⟩
  ·exact⟨_,R.base _ _ ((Heap.hide_ne _ q).trans e)⟩
end
theorem Nu{w:World}{K:Frag}(X:K.In h)(hK:lA K=true)(Y:JE w h):∀x∈fH,f9 (K.lookup x.1)=some (fG (lj [] x.1 x.2.1 x.2.2) default):=λx hx=>
 (vY hK x hx).elim λo e=>(Y x hx).elim λo2 q=>J (e.trans ((X _ _ e).symm.trans q.1)) q.2
theorem KH{w:World}{mb:Str->Option Value}{BV:ExcName->Option Value}{K:Frag}{P cA sc:Addr}(X:K.In s.heap)(hK:lA K=true)(Y:JE w s.heap)(T:Top qV fY BV mg mb s.heap)(hg:s.gens=#[])
  (vC:(fdOf K 687).code=.ref cA) (h5:s.heap.IsCode cA P #[]) (h6:s.heap.TableAt cA P #[]) (OL:s.heap.get? sc=some {cls:=.type "list",data:=.seq vs.toArray}) (hv:dD (s.heap.hide P) (is.map .int) vs) (hl:is.length<=63):
  wpAny (model pw w) callerA (PySem.call (.ref 687) [.ref sc]) (λv s'=>v=.bool true/\OldK s.heap s'.heap/\s'.os=s.os/\s'.gens=#[]) F0 s:=by
 have gP:=h6.2;have ft:Ft (cxV w s P K mg mb):=Nt ⟨λb o e=>(Heap.hide_ne _ (Mv X (Fz hK) gP e)).trans (X _ _ e),B8 gP T.nolimit,tN gP T.g,tN gP T.b,T.builtins⟩ hK (Nu X hK Y);refine wpAny_mono (MD (c:=cxV w s P K mg mb) (A:=callerA) (φ:=[]) ft ⟨rfl,by decide,by decide⟩ (λ_=>vC) (z9 (Hk gP h6) (CodeHd.of h5 h6)) ae (BU gP T.g T.bmain) ⟨_,_,(Heap.hide_ne _ (nO gP OL nofun)).trans OL,hv⟩ hl s [.ref sc] (KL gP hg) (.cons (.ref _) .nil)) (λv s' zq=>?_) λ_ _ f=>f;exact zq.2.elim λp z=>z.elim λσ' z=>z.2.2.2.elim λmore q2=>⟨ng (z.2.2.1▸z.2.1),Mq gP h6 z.1 q2,z.1.os,z.1.gens⟩
theorem Js{K:Frag}{mb:Str->Option Value}{BV:ExcName->Option Value}(X:K.In h)(hK:lA K=true)(T:Top qV fY BV mg mb h)(q:mg "law"=some (.ref 687)):∃cA P,(fdOf K 687).code=.ref cA/\h.IsCode cA P #[]/\h.TableAt cA P #[]:=
 (any_eq_true.mp (show ((recsOf qV).any λd=>decide (d.name=("law":Str)))=true from rfl)).elim λd z=>(T.tab d z.1).elim λa y=>y.elim λo y=>y.elim λfd y=>y.elim λcA y=>y.elim λP y=>(vY hK _ (xB (λx h=>h) 51 rfl)).elim λo1 e1=>
  have ea:a=687:=Value.ref.inj (sI (y.1.symm.trans ((congrArg mg (rz z.2)).trans q)));have eo:o1.data=.func fd:=(congrArg Obj.data (sI ((X _ _ e1).symm.trans (ea▸y.2.1)))).trans y.2.2.1
  ⟨cA,P,(congrArg FuncData.code (yR e1 (congrArg JH eo))).trans y.2.2.2.1,y.2.2.2.2⟩
theorem Hc{vals:List Value}(W:WellAll P h vals [.list (is.map .int)]):∃sc vs,vals=[.ref sc]/\h.get? sc=some {cls:=.type "list",data:=.seq vs.toArray}/\∀h':Heap,dD h' (is.map .int) vs:=
 (wellAll_cons_inv W).elim λv y=>y.elim λAK y=>(y5 y.2.1).elim λsc z=>z.elim λvs z=>⟨sc,vs,by rw[y.1,z.1,uy y.2.2],z.2.1,λ_=>y6 is vs z.2.2⟩
theorem Kk{w:World}{mb:Str->Option Value}{BV:ExcName->Option Value}{vals:List Value}(X:N9 mg s.heap)(Y:JE w s.heap)(T:Top qV fY BV mg mb s.heap)(hg:s.gens=#[])(ha:mg "law"=some (.ref a))(W:WellAll w.params s.heap vals [.list (is.map .int)])(hl:is.length<=63):
  wpAny (model pw w) callerA (PySem.call (.ref a) vals) (λv s'=>v=.bool true/\OldK s.heap s'.heap/\s'.os=s.os/\s'.gens=#[]) F0 s:=
 X.elim λK x=>
 have q:=mg_of x.1 T.g (Fy x.2)
 (Js x.1 x.2 T q).elim λcA z=>z.elim λP z=>(Hc W).elim λsc y=>y.elim λvs y=>
 (Value.ref.inj (sI (ha.symm.trans q))).symm▸y.1.symm▸KH x.1 x.2 Y T hg z.1 z.2.1 z.2.2 y.2.1 (y.2.2 _) hl
theorem G9{d:DefRec}{JO:List (Str×Expr)}(Zm:defOf qV mJ.row.name=some (d,JO)):WalkO qV fY N9 JE mJ.row.toRowW d JO λf vs=>PySem.call f vs:=
 λw uI aM mg mb G Y a o pm cd doc dV kV _ _ _ _ hmg Na args vals as t6 _ _ uv _=>by
 refine(FR t6).elim λis z=>?_;exact wpAny_mono (Kk G.X Y G.T Na ((congrArg mg (defOf_name Zm)).symm.trans hmg) (z.1▸uv) z.2) (λv s' z=>⟨.inl ⟨.bool true,.bool true,[],congrArg (λv=>Except.ok (Flow.ret v)) z.1,λcls=>rfl,.bool true,HM,λ_=>⟨.nil,λa ha=>(nomatch ha)⟩⟩,z.2.1,z.2.2.1,.of_eq z.2.2.2⟩) λ_ _ f=>f.elim
theorem law_V:mJ.Holds:=
 EO.elim λd z=>z.elim λJO z=>holds_law Ht λPy=>holds_open Ip (λw s e=>J3 e) AG J4 AH z.1 z.2.1 z.2.2 (λs _=>rec_of _) rfl Py Ys Jz w8 (G9 z.1)
end
end Mine.Internal
theorem PySem.Challenge.cw_xm0462_01_holds : PySem.Challenge.rw_xm0462_01.Holds :=
 Mine.Internal.law_V
